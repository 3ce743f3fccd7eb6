import PyProof.Rows.All
import Wide.All
import OpenK.AllK
import Wide.FinOn
import HandS.Words
import PySem.Challenge.RW_seatbuttons_k48_whole_walks_of_standings
import KE.KStateDown
import HandS.Codes
import HandS.Property
import HandS.HeadNt
import Lean
import HandS.Base
import HandS.Call
import HandS.Ends
import HandS.HeadEnd
import HandS.Head2
import HandS.List
import HandS.Dict
import HandS.WordsDict
import PyProof.ListStr
import PyProof.TupleOfSeq
import KE.KDictSum
import HandS.Comp
import HandS.More
import HandS.SortOrd
import HandS.SortInts
import HandS.Sort
import KE.KSortTup
import PyProof.EqAt
import PyProof.EqKinds
import HandS.Conv
import KE.GoesEnum
import KE.GoesMore
import KE.KRevSl
import HandS.Iter
import HandS.Walk
import HandS.Style
import HandS.IsInst
import HandS.Steps
import HandS.Text
import KE.GoesZip
import KE.KDictZip
import KE.KDictPairs
import HandS.TupAny
import HandS.Defaults
import HandS.Head0
import HandS.Head1
set_option Elab.async false
set_option linter.all false
set_option maxRecDepth 100000
namespace Sb
open PySem L2
def top (i : Nat) : Stmt := PySem.Challenge.pw_seatbuttons_k48_whole_walks_of_standings.main.body.getD i (.Pass ⟨0, 0, 0, 0⟩)
abbrev sIsInteger : Stmt := top 25
abbrev sIsBetween : Stmt := top 26
abbrev sCheckNumber : Stmt := top 27
abbrev sIsName : Stmt := top 28
abbrev sCommon : Stmt := top 30
abbrev sMultipleOf : Stmt := top 31
abbrev sIsTurn : Stmt := top 33
abbrev sCheckTurn : Stmt := top 34
abbrev sStaying : Stmt := top 35
abbrev sRingsOf : Stmt := top 36
abbrev sFalling : Stmt := top 37
abbrev sKindFor : Stmt := top 38
abbrev sAfter : Stmt := top 39
abbrev sTurnedBack : Stmt := top 40
abbrev sRaisedTo : Stmt := top 41
abbrev sIsButtonName : Stmt := top 44
abbrev sIsButton : Stmt := top 45
abbrev sButtonsFault : Stmt := top 46
abbrev sTiesFault : Stmt := top 48
abbrev sCheckBoard : Stmt := top 52
abbrev sPutStrong : Stmt := top 55
abbrev sSift : Stmt := top 56
abbrev sWork : Stmt := top 57
abbrev sGrown : Stmt := top 58
abbrev sSpanSizes : Stmt := top 59
abbrev sSizeOf : Stmt := top 60
abbrev sTowerOf : Stmt := top 62
abbrev sGroupOrder : Stmt := top 63
abbrev sOrder : Stmt := top 64
abbrev sIsPress : Stmt := top 67
abbrev sRowFault : Stmt := top 68
abbrev sCheckRow : Stmt := top 69
abbrev sCheckAsked : Stmt := top 70
abbrev sIsStanding : Stmt := top 71
abbrev sCheckStanding : Stmt := top 72
abbrev sTurnFor : Stmt := top 73
abbrev sLedStanding : Stmt := top 74
abbrev sBackRow : Stmt := top 75
abbrev sPutTogether : Stmt := top 76
abbrev sNearestNumber : Stmt := top 77
abbrev sShorterFor : Stmt := top 78
abbrev sPressed : Stmt := top 79
abbrev sLength : Stmt := top 80
abbrev sRowBack : Stmt := top 81
abbrev sCheckRows : Stmt := top 82
abbrev sSame : Stmt := top 83
abbrev sOn : Stmt := top 84
abbrev sShortened : Stmt := top 85
abbrev sSinglePresses : Stmt := top 87
abbrev sPathsFrom : Stmt := top 88
abbrev sLayersFrom : Stmt := top 89
abbrev sPressesTo : Stmt := top 90
abbrev sCheckStood : Stmt := top 91
abbrev sCheckBoth : Stmt := top 92
abbrev sTurned : Stmt := top 93
abbrev sCountReached : Stmt := top 94
abbrev sAllReached : Stmt := top 95
abbrev sLeast : Stmt := top 96
abbrev sKeepers : Stmt := top 97
abbrev sGoes : Stmt := top 98
abbrev sRowBetween : Stmt := top 99
abbrev sRowFor : Stmt := top 100
abbrev sPressesBetween : Stmt := top 101
abbrev sFarthestStandings : Stmt := top 102
abbrev sLawCup : Stmt := top 104
abbrev sLawSip : Stmt := top 105
abbrev sLawOne : Stmt := top 106
abbrev sLawMixed : Stmt := top 107
abbrev sLawTurn : Stmt := top 108
abbrev sLawButtons : Stmt := top 109
abbrev sLawStanding : Stmt := top 110
abbrev sLawBent : Stmt := top 111
abbrev sLawMarks : Stmt := top 112
abbrev sLawRowRight : Stmt := top 113
abbrev sLawStep : Stmt := top 114
abbrev sLawIsWithin : Stmt := top 115
abbrev sLawRight : Stmt := top 116
abbrev sLaw : Stmt := top 117
abbrev sBoardInit : Stmt := inClass (top 49) 0
abbrev sBoardNames : Stmt := inClass (top 49) 2
abbrev sBoardTurn : Stmt := inClass (top 49) 4
abbrev sTowerInit : Stmt := inClass (top 54) 0
abbrev sTowerFace : Stmt := inClass (top 54) 1
abbrev sTowerAdded : Stmt := inClass (top 54) 2
abbrev sTowerLead : Stmt := inClass (top 54) 3
abbrev sTowerBackStep : Stmt := inClass (top 54) 4
abbrev sTowerTakenDown : Stmt := inClass (top 54) 5
end Sb
namespace Sb
open PySem PySem.Spec PyProof.Rows L2
/-- the getter of the property m of the class C -/
def getG (K : PySem.W.Frag) (C : Addr) (m : Str) : Addr := match PySem.W.recIn K (He.ma K C m) "property" with
  | some (.ref g :: _) => g
  | _ => 0
def propB (K : PySem.W.Frag) (C : Addr) (m : Str) : Bool :=
  He.eqO (PySem.W.findIn K (.ref C) m) (some (some (.ref (He.ma K C m)))) && (He.eqO (PySem.W.specialIn K (.ref (He.ma K C m)) "__get__") (some (some (.builtin "property.__get__"))) &&
  (decide (PySem.W.takesIn K (.ref (He.ma K C m)) = some true) && (match PySem.W.recIn K (He.ma K C m) "property" with
    | some (.ref _ :: _) => true
    | _ => false)))
theorem propB_ok {K : PySem.W.Frag} {C : Addr} {m : Str} (h : propB K C m = true) : PropOf K C m (He.ma K C m) (getG K C m) := by
  obtain ⟨h1, h⟩ := He.ba h
  obtain ⟨h2, h⟩ := He.ba h
  obtain ⟨h3, h4⟩ := He.ba h
  refine ⟨He.eqO_ok h1, He.eqO_ok h2, of_decide_eq_true h3, ?_⟩
  unfold getG
  split at h4
  · rename_i g r e
    exact ⟨r, by rw [e]⟩
  · cases h4
def insB (K : PySem.W.Frag) (C : Addr) : Bool :=
  He.eqO (PySem.W.findIn K (.ref C) "__class__") (some (some (.builtin "object.__class__"))) && (He.eqO (PySem.W.specialIn K (.builtin "object.__class__") "__get__") (some (some (.builtin "getset_descriptor.__get__"))) &&
  (decide (PySem.W.takesIn K (.builtin "object.__class__") = some true) && (decide (PySem.W.mroIn K C (.type "object") = some true) && decide (PySem.W.kitOne K (.ref C) (.ref C) = some true))))
theorem insB_ok {K : PySem.W.Frag} {C : Addr} (cl : Cls K C) (h : insB K C = true) : C8.InsC K C := by
  obtain ⟨h1, h⟩ := He.ba h
  obtain ⟨h2, h⟩ := He.ba h
  obtain ⟨h3, h⟩ := He.ba h
  obtain ⟨h4, h5⟩ := He.ba h
  exact ⟨cl, He.eqO_ok h1, He.eqO_ok h2, of_decide_eq_true h3, of_decide_eq_true h4, of_decide_eq_true h5⟩
/-- what an object names, as far as the facts look -/
def refsS (o : Obj) : List Addr := match o.data with
  | .dict es _ => es.toList.flatMap fun e => He.refV e.val
  | .func fd => He.refV fd.code
  | .cls cd => [cd.ns]
  | .fields vs => (match o.cls with
    | .type "property" => vs.toList.flatMap He.refV
    | _ => [])
  | _ => []
/-- one step on -/
def stepS (g : Addr → Option Obj) (as : List Addr) : List Addr := as.flatMap fun a => match g a with
  | some o => refsS o
  | none => []
/-- so many steps from the last level on -/
def asS (g : Addr → Option Obj) : Nat → List Addr → List Addr
  | 0, as => as
  | n + 1, as => as ++ asS g n (stepS g as)
abbrev AlS : Type := He.AlD × Bool
def obsS (n : Nat) (fa : List He.Fa) (fn : List He5.DefA) (ex : PySem.W.Frag → Bool) (g : Addr → Option Obj) : AlS := (He5.obsA fa fn (He.frG g (asS g n [mainGlobals])), ex (He.frG g (asS g n [mainGlobals])))
def SaysS (fa : List He.Fa) (fn : List He5.DefA) (ex : PySem.W.Frag → Bool) (K : PySem.W.Frag) : Prop := He5.SaysA fa fn K ∧ ex K = true
def hookS (n : Nat) (fa : List He.Fa) (fn : List He5.DefA) (ex : PySem.W.Frag → Bool) : PySem.W.Hook where
  α := AlS
  obs := fun s => obsS n fa fn ex s.heap.get?
  val := fun _ => (He5.valA fn, true)
  says := fun _ h => ∃ K : PySem.W.Frag, K.In h ∧ SaysS fa fn ex K
  of := fun _ _ e => ⟨_, He.frG_in, congrArg (fun z : AlS => z.1) e, congrArg (fun z : AlS => z.2) e⟩
  keeps := fun _ _ _ ⟨K, hK, c⟩ k => ⟨K, PySem.W.Frag.In.keeps hK k, c⟩
theorem obsS_eq {n : Nat} {fa : List He.Fa} {fn : List He5.DefA} {ex : PySem.W.Frag → Bool} {g : Addr → Option Obj} {s : Shared} (h : ∀ a, g a = s.heap.get? a) : obsS n fa fn ex g = (hookS n fa fn ex).obs s := by
  have e : g = s.heap.get? := funext h
  rw [e] <;> rfl
end Sb
set_option maxHeartbeats 0
namespace Sb
open PySem PySem.Spec PyProof.Rows L2
def getAd (K : PySem.W.Frag) : Addr := getG K (He.ga K "Board") "names"
def moreB (K : PySem.W.Frag) : Bool := propB K (He.ga K "Board") "names" && insB K (He.ga K "Board")
def fa0 : List He.Fa := [.glo "is_integer", .glo "is_between", .glo "check_number", .glo "is_name", .glo "common", .glo "multiple_of", .glo "is_turn", .glo "check_turn", .glo "staying", .glo "rings_of", .glo "falling", .glo "kind_for", .glo "after", .glo "turned_back", .glo "raised_to", .glo "is_button_name", .glo "is_button", .glo "buttons_fault", .glo "ties_fault", .glo "check_board"]
def fa1 : List He.Fa := [.glo "put_strong", .glo "sift", .glo "work", .glo "grown", .glo "span_sizes", .glo "size_of", .glo "tower_of", .glo "group_order", .glo "order", .glo "is_press", .glo "row_fault", .glo "check_row", .glo "check_asked", .glo "is_standing", .glo "check_standing", .glo "turn_for", .glo "led_standing", .glo "back_row", .glo "put_together", .glo "nearest_number"]
def fa2 : List He.Fa := [.glo "shorter_for", .glo "pressed", .glo "length", .glo "row_back", .glo "check_rows", .glo "same", .glo "on", .glo "shortened", .glo "single_presses", .glo "paths_from", .glo "layers_from", .glo "presses_to", .glo "check_stood", .glo "check_both", .glo "turned", .glo "count_reached", .glo "all_reached", .glo "least", .glo "keepers", .glo "goes"]
def fa3 : List He.Fa := [.glo "row_between", .glo "row_for", .glo "presses_between", .glo "farthest_standings", .glo "_law_cup", .glo "_law_sip", .glo "_law_one", .glo "_law_mixed", .glo "_law_turn", .glo "_law_buttons", .glo "_law_standing", .glo "_law_bent", .glo "_law_marks", .glo "_law_row_right", .glo "_law_step", .glo "_law_is_within", .glo "_law_right", .glo "law", .glo "Board", .glo "Tower"]
def fa4 : List He.Fa := [.free "len", .free "range", .free "isinstance", .free "tuple", .free "list", .free "sorted", .free "all", .free "sum", .free "enumerate", .free "zip", .free "dict", .free "min", .free "max", .free "int", .free "abs", .free "bool", .free "str", .int "MOST_PLACES" 24, .int "MOST_BUTTONS" 8, .int "MOST_PRESSES" 2000]
def fa5 : List He.Fa := [.int "MOST_TIMES" 1000000000000000000000000000000, .int "MOST_REACHED" 50000, .int "LONGEST_NAME" 8, .str "LETTERS" "abcdefghijklmnopqrstuvwxyz", .str "TIE" "tie", .str "EMPTY" "-", .cls "Board", .cls "Tower", .mkr "Board", .mkr "Tower", .meth "Board" "turn", .meth "Tower" "face", .meth "Tower" "added", .meth "Tower" "lead", .meth "Tower" "back_step", .meth "Tower" "taken_down", .noat "Board" "size", .noat "Board" "buttons", .noat "Board" "ties", .noat "Tower" "line"]
def fa6 : List He.Fa := [.noat "Tower" "steps", .noat "Tower" "faces", .noat "Tower" "levels", .noat "Tower" "strong", .noat "Tower" "backward", .noat "Tower" "backs"]
def fa : List He.Fa := fa0 ++ fa1 ++ fa2 ++ fa3 ++ fa4 ++ fa5 ++ fa6
def dIsInteger : He5.DefA := ⟨(fun K => He.ga K "is_integer"), "is_integer", "is_integer", defArgs sIsInteger, defBody sIsInteger, defScope sIsInteger, [], []⟩
def dIsBetween : He5.DefA := ⟨(fun K => He.ga K "is_between"), "is_between", "is_between", defArgs sIsBetween, defBody sIsBetween, defScope sIsBetween, [], []⟩
def dCheckNumber : He5.DefA := ⟨(fun K => He.ga K "check_number"), "check_number", "check_number", defArgs sCheckNumber, defBody sCheckNumber, defScope sCheckNumber, [], []⟩
def dIsName : He5.DefA := ⟨(fun K => He.ga K "is_name"), "is_name", "is_name", defArgs sIsName, defBody sIsName, defScope sIsName, [], []⟩
def dCommon : He5.DefA := ⟨(fun K => He.ga K "common"), "common", "common", defArgs sCommon, defBody sCommon, defScope sCommon, [], []⟩
def dMultipleOf : He5.DefA := ⟨(fun K => He.ga K "multiple_of"), "multiple_of", "multiple_of", defArgs sMultipleOf, defBody sMultipleOf, defScope sMultipleOf, [], []⟩
def dIsTurn : He5.DefA := ⟨(fun K => He.ga K "is_turn"), "is_turn", "is_turn", defArgs sIsTurn, defBody sIsTurn, defScope sIsTurn, [], []⟩
def dCheckTurn : He5.DefA := ⟨(fun K => He.ga K "check_turn"), "check_turn", "check_turn", defArgs sCheckTurn, defBody sCheckTurn, defScope sCheckTurn, [], []⟩
def dStaying : He5.DefA := ⟨(fun K => He.ga K "staying"), "staying", "staying", defArgs sStaying, defBody sStaying, defScope sStaying, [], []⟩
def dRingsOf : He5.DefA := ⟨(fun K => He.ga K "rings_of"), "rings_of", "rings_of", defArgs sRingsOf, defBody sRingsOf, defScope sRingsOf, [], []⟩
def dFalling : He5.DefA := ⟨(fun K => He.ga K "falling"), "falling", "falling", defArgs sFalling, defBody sFalling, defScope sFalling, [], []⟩
def dKindFor : He5.DefA := ⟨(fun K => He.ga K "kind_for"), "kind_for", "kind_for", defArgs sKindFor, defBody sKindFor, defScope sKindFor, [], []⟩
def dAfter : He5.DefA := ⟨(fun K => He.ga K "after"), "after", "after", defArgs sAfter, defBody sAfter, defScope sAfter, [], []⟩
def dTurnedBack : He5.DefA := ⟨(fun K => He.ga K "turned_back"), "turned_back", "turned_back", defArgs sTurnedBack, defBody sTurnedBack, defScope sTurnedBack, [], []⟩
def dRaisedTo : He5.DefA := ⟨(fun K => He.ga K "raised_to"), "raised_to", "raised_to", defArgs sRaisedTo, defBody sRaisedTo, defScope sRaisedTo, [], []⟩
def dIsButtonName : He5.DefA := ⟨(fun K => He.ga K "is_button_name"), "is_button_name", "is_button_name", defArgs sIsButtonName, defBody sIsButtonName, defScope sIsButtonName, [], []⟩
def dIsButton : He5.DefA := ⟨(fun K => He.ga K "is_button"), "is_button", "is_button", defArgs sIsButton, defBody sIsButton, defScope sIsButton, [], []⟩
def dButtonsFault : He5.DefA := ⟨(fun K => He.ga K "buttons_fault"), "buttons_fault", "buttons_fault", defArgs sButtonsFault, defBody sButtonsFault, defScope sButtonsFault, [], []⟩
def dTiesFault : He5.DefA := ⟨(fun K => He.ga K "ties_fault"), "ties_fault", "ties_fault", defArgs sTiesFault, defBody sTiesFault, defScope sTiesFault, [], []⟩
def dCheckBoard : He5.DefA := ⟨(fun K => He.ga K "check_board"), "check_board", "check_board", defArgs sCheckBoard, defBody sCheckBoard, defScope sCheckBoard, [], []⟩
def dPutStrong : He5.DefA := ⟨(fun K => He.ga K "put_strong"), "put_strong", "put_strong", defArgs sPutStrong, defBody sPutStrong, defScope sPutStrong, [], []⟩
def dSift : He5.DefA := ⟨(fun K => He.ga K "sift"), "sift", "sift", defArgs sSift, defBody sSift, defScope sSift, [], []⟩
def dWork : He5.DefA := ⟨(fun K => He.ga K "work"), "work", "work", defArgs sWork, defBody sWork, defScope sWork, [], []⟩
def dGrown : He5.DefA := ⟨(fun K => He.ga K "grown"), "grown", "grown", defArgs sGrown, defBody sGrown, defScope sGrown, [], []⟩
def dSpanSizes : He5.DefA := ⟨(fun K => He.ga K "span_sizes"), "span_sizes", "span_sizes", defArgs sSpanSizes, defBody sSpanSizes, defScope sSpanSizes, [], []⟩
def dSizeOf : He5.DefA := ⟨(fun K => He.ga K "size_of"), "size_of", "size_of", defArgs sSizeOf, defBody sSizeOf, defScope sSizeOf, [], []⟩
def dTowerOf : He5.DefA := ⟨(fun K => He.ga K "tower_of"), "tower_of", "tower_of", defArgs sTowerOf, defBody sTowerOf, defScope sTowerOf, [], []⟩
def dGroupOrder : He5.DefA := ⟨(fun K => He.ga K "group_order"), "group_order", "group_order", defArgs sGroupOrder, defBody sGroupOrder, defScope sGroupOrder, [], []⟩
def dOrder : He5.DefA := ⟨(fun K => He.ga K "order"), "order", "order", defArgs sOrder, defBody sOrder, defScope sOrder, [], []⟩
def dIsPress : He5.DefA := ⟨(fun K => He.ga K "is_press"), "is_press", "is_press", defArgs sIsPress, defBody sIsPress, defScope sIsPress, [], []⟩
def dRowFault : He5.DefA := ⟨(fun K => He.ga K "row_fault"), "row_fault", "row_fault", defArgs sRowFault, defBody sRowFault, defScope sRowFault, [], []⟩
def dCheckRow : He5.DefA := ⟨(fun K => He.ga K "check_row"), "check_row", "check_row", defArgs sCheckRow, defBody sCheckRow, defScope sCheckRow, [], []⟩
def dCheckAsked : He5.DefA := ⟨(fun K => He.ga K "check_asked"), "check_asked", "check_asked", defArgs sCheckAsked, defBody sCheckAsked, defScope sCheckAsked, [], []⟩
def dIsStanding : He5.DefA := ⟨(fun K => He.ga K "is_standing"), "is_standing", "is_standing", defArgs sIsStanding, defBody sIsStanding, defScope sIsStanding, [], []⟩
def dCheckStanding : He5.DefA := ⟨(fun K => He.ga K "check_standing"), "check_standing", "check_standing", defArgs sCheckStanding, defBody sCheckStanding, defScope sCheckStanding, [], []⟩
def dTurnFor : He5.DefA := ⟨(fun K => He.ga K "turn_for"), "turn_for", "turn_for", defArgs sTurnFor, defBody sTurnFor, defScope sTurnFor, [], []⟩
def dLedStanding : He5.DefA := ⟨(fun K => He.ga K "led_standing"), "led_standing", "led_standing", defArgs sLedStanding, defBody sLedStanding, defScope sLedStanding, [], []⟩
def dBackRow : He5.DefA := ⟨(fun K => He.ga K "back_row"), "back_row", "back_row", defArgs sBackRow, defBody sBackRow, defScope sBackRow, [], []⟩
def dPutTogether : He5.DefA := ⟨(fun K => He.ga K "put_together"), "put_together", "put_together", defArgs sPutTogether, defBody sPutTogether, defScope sPutTogether, [], []⟩
def dNearestNumber : He5.DefA := ⟨(fun K => He.ga K "nearest_number"), "nearest_number", "nearest_number", defArgs sNearestNumber, defBody sNearestNumber, defScope sNearestNumber, [], []⟩
def dShorterFor : He5.DefA := ⟨(fun K => He.ga K "shorter_for"), "shorter_for", "shorter_for", defArgs sShorterFor, defBody sShorterFor, defScope sShorterFor, [], []⟩
def dPressed : He5.DefA := ⟨(fun K => He.ga K "pressed"), "pressed", "pressed", defArgs sPressed, defBody sPressed, defScope sPressed, [], []⟩
def dLength : He5.DefA := ⟨(fun K => He.ga K "length"), "length", "length", defArgs sLength, defBody sLength, defScope sLength, [], []⟩
def dRowBack : He5.DefA := ⟨(fun K => He.ga K "row_back"), "row_back", "row_back", defArgs sRowBack, defBody sRowBack, defScope sRowBack, [], []⟩
def dCheckRows : He5.DefA := ⟨(fun K => He.ga K "check_rows"), "check_rows", "check_rows", defArgs sCheckRows, defBody sCheckRows, defScope sCheckRows, [], []⟩
def dSame : He5.DefA := ⟨(fun K => He.ga K "same"), "same", "same", defArgs sSame, defBody sSame, defScope sSame, [], []⟩
def dOn : He5.DefA := ⟨(fun K => He.ga K "on"), "on", "on", defArgs sOn, defBody sOn, defScope sOn, [], []⟩
def dShortened : He5.DefA := ⟨(fun K => He.ga K "shortened"), "shortened", "shortened", defArgs sShortened, defBody sShortened, defScope sShortened, [], []⟩
def dSinglePresses : He5.DefA := ⟨(fun K => He.ga K "single_presses"), "single_presses", "single_presses", defArgs sSinglePresses, defBody sSinglePresses, defScope sSinglePresses, [], []⟩
def dPathsFrom : He5.DefA := ⟨(fun K => He.ga K "paths_from"), "paths_from", "paths_from", defArgs sPathsFrom, defBody sPathsFrom, defScope sPathsFrom, [], []⟩
def dLayersFrom : He5.DefA := ⟨(fun K => He.ga K "layers_from"), "layers_from", "layers_from", defArgs sLayersFrom, defBody sLayersFrom, defScope sLayersFrom, [], []⟩
def dPressesTo : He5.DefA := ⟨(fun K => He.ga K "presses_to"), "presses_to", "presses_to", defArgs sPressesTo, defBody sPressesTo, defScope sPressesTo, [], []⟩
def dCheckStood : He5.DefA := ⟨(fun K => He.ga K "check_stood"), "check_stood", "check_stood", defArgs sCheckStood, defBody sCheckStood, defScope sCheckStood, [], []⟩
def dCheckBoth : He5.DefA := ⟨(fun K => He.ga K "check_both"), "check_both", "check_both", defArgs sCheckBoth, defBody sCheckBoth, defScope sCheckBoth, [], []⟩
def dTurned : He5.DefA := ⟨(fun K => He.ga K "turned"), "turned", "turned", defArgs sTurned, defBody sTurned, defScope sTurned, [], []⟩
def dCountReached : He5.DefA := ⟨(fun K => He.ga K "count_reached"), "count_reached", "count_reached", defArgs sCountReached, defBody sCountReached, defScope sCountReached, [], []⟩
def dAllReached : He5.DefA := ⟨(fun K => He.ga K "all_reached"), "all_reached", "all_reached", defArgs sAllReached, defBody sAllReached, defScope sAllReached, [], []⟩
def dLeast : He5.DefA := ⟨(fun K => He.ga K "least"), "least", "least", defArgs sLeast, defBody sLeast, defScope sLeast, [], []⟩
def dKeepers : He5.DefA := ⟨(fun K => He.ga K "keepers"), "keepers", "keepers", defArgs sKeepers, defBody sKeepers, defScope sKeepers, [], []⟩
def dGoes : He5.DefA := ⟨(fun K => He.ga K "goes"), "goes", "goes", defArgs sGoes, defBody sGoes, defScope sGoes, [], []⟩
def dRowBetween : He5.DefA := ⟨(fun K => He.ga K "row_between"), "row_between", "row_between", defArgs sRowBetween, defBody sRowBetween, defScope sRowBetween, [], []⟩
def dRowFor : He5.DefA := ⟨(fun K => He.ga K "row_for"), "row_for", "row_for", defArgs sRowFor, defBody sRowFor, defScope sRowFor, [], []⟩
def dPressesBetween : He5.DefA := ⟨(fun K => He.ga K "presses_between"), "presses_between", "presses_between", defArgs sPressesBetween, defBody sPressesBetween, defScope sPressesBetween, [], []⟩
def dFarthestStandings : He5.DefA := ⟨(fun K => He.ga K "farthest_standings"), "farthest_standings", "farthest_standings", defArgs sFarthestStandings, defBody sFarthestStandings, defScope sFarthestStandings, [], []⟩
def dLawCup : He5.DefA := ⟨(fun K => He.ga K "_law_cup"), "_law_cup", "_law_cup", defArgs sLawCup, defBody sLawCup, defScope sLawCup, [], []⟩
def dLawSip : He5.DefA := ⟨(fun K => He.ga K "_law_sip"), "_law_sip", "_law_sip", defArgs sLawSip, defBody sLawSip, defScope sLawSip, [], []⟩
def dLawOne : He5.DefA := ⟨(fun K => He.ga K "_law_one"), "_law_one", "_law_one", defArgs sLawOne, defBody sLawOne, defScope sLawOne, [], []⟩
def dLawMixed : He5.DefA := ⟨(fun K => He.ga K "_law_mixed"), "_law_mixed", "_law_mixed", defArgs sLawMixed, defBody sLawMixed, defScope sLawMixed, [], []⟩
def dLawTurn : He5.DefA := ⟨(fun K => He.ga K "_law_turn"), "_law_turn", "_law_turn", defArgs sLawTurn, defBody sLawTurn, defScope sLawTurn, [], []⟩
def dLawButtons : He5.DefA := ⟨(fun K => He.ga K "_law_buttons"), "_law_buttons", "_law_buttons", defArgs sLawButtons, defBody sLawButtons, defScope sLawButtons, [], []⟩
def dLawStanding : He5.DefA := ⟨(fun K => He.ga K "_law_standing"), "_law_standing", "_law_standing", defArgs sLawStanding, defBody sLawStanding, defScope sLawStanding, [], []⟩
def dLawBent : He5.DefA := ⟨(fun K => He.ga K "_law_bent"), "_law_bent", "_law_bent", defArgs sLawBent, defBody sLawBent, defScope sLawBent, [], []⟩
def dLawMarks : He5.DefA := ⟨(fun K => He.ga K "_law_marks"), "_law_marks", "_law_marks", defArgs sLawMarks, defBody sLawMarks, defScope sLawMarks, [], []⟩
def dLawRowRight : He5.DefA := ⟨(fun K => He.ga K "_law_row_right"), "_law_row_right", "_law_row_right", defArgs sLawRowRight, defBody sLawRowRight, defScope sLawRowRight, [], []⟩
def dLawStep : He5.DefA := ⟨(fun K => He.ga K "_law_step"), "_law_step", "_law_step", defArgs sLawStep, defBody sLawStep, defScope sLawStep, [], []⟩
def dLawIsWithin : He5.DefA := ⟨(fun K => He.ga K "_law_is_within"), "_law_is_within", "_law_is_within", defArgs sLawIsWithin, defBody sLawIsWithin, defScope sLawIsWithin, [], []⟩
def dLawRight : He5.DefA := ⟨(fun K => He.ga K "_law_right"), "_law_right", "_law_right", defArgs sLawRight, defBody sLawRight, defScope sLawRight, [], []⟩
def dLaw : He5.DefA := ⟨(fun K => He.ga K "law"), "law", "law", defArgs sLaw, defBody sLaw, defScope sLaw, [], []⟩
def dBoardInit : He5.DefA := ⟨(fun K => He.ma K (He.ga K "Board") "__init__"), "__init__", "Board.__init__", defArgs sBoardInit, defBody sBoardInit, defScope sBoardInit, [], []⟩
def dBoardNames : He5.DefA := ⟨(fun K => getAd K), "names", "Board.names", defArgs sBoardNames, defBody sBoardNames, defScope sBoardNames, [], []⟩
def dBoardTurn : He5.DefA := ⟨(fun K => He.ma K (He.ga K "Board") "turn"), "turn", "Board.turn", defArgs sBoardTurn, defBody sBoardTurn, defScope sBoardTurn, [], []⟩
def dTowerInit : He5.DefA := ⟨(fun K => He.ma K (He.ga K "Tower") "__init__"), "__init__", "Tower.__init__", defArgs sTowerInit, defBody sTowerInit, defScope sTowerInit, [], []⟩
def dTowerFace : He5.DefA := ⟨(fun K => He.ma K (He.ga K "Tower") "face"), "face", "Tower.face", defArgs sTowerFace, defBody sTowerFace, defScope sTowerFace, [], []⟩
def dTowerAdded : He5.DefA := ⟨(fun K => He.ma K (He.ga K "Tower") "added"), "added", "Tower.added", defArgs sTowerAdded, defBody sTowerAdded, defScope sTowerAdded, [], []⟩
def dTowerLead : He5.DefA := ⟨(fun K => He.ma K (He.ga K "Tower") "lead"), "lead", "Tower.lead", defArgs sTowerLead, defBody sTowerLead, defScope sTowerLead, [], []⟩
def dTowerBackStep : He5.DefA := ⟨(fun K => He.ma K (He.ga K "Tower") "back_step"), "back_step", "Tower.back_step", defArgs sTowerBackStep, defBody sTowerBackStep, defScope sTowerBackStep, [], []⟩
def dTowerTakenDown : He5.DefA := ⟨(fun K => He.ma K (He.ga K "Tower") "taken_down"), "taken_down", "Tower.taken_down", defArgs sTowerTakenDown, defBody sTowerTakenDown, defScope sTowerTakenDown, [], []⟩
def fn0 : List He5.DefA := [dIsInteger, dIsBetween, dCheckNumber, dIsName, dCommon, dMultipleOf, dIsTurn, dCheckTurn, dStaying, dRingsOf, dFalling, dKindFor, dAfter, dTurnedBack, dRaisedTo, dIsButtonName, dIsButton, dButtonsFault, dTiesFault, dCheckBoard]
def fn1 : List He5.DefA := [dPutStrong, dSift, dWork, dGrown, dSpanSizes, dSizeOf, dTowerOf, dGroupOrder, dOrder, dIsPress, dRowFault, dCheckRow, dCheckAsked, dIsStanding, dCheckStanding, dTurnFor, dLedStanding, dBackRow, dPutTogether, dNearestNumber]
def fn2 : List He5.DefA := [dShorterFor, dPressed, dLength, dRowBack, dCheckRows, dSame, dOn, dShortened, dSinglePresses, dPathsFrom, dLayersFrom, dPressesTo, dCheckStood, dCheckBoth, dTurned, dCountReached, dAllReached, dLeast, dKeepers, dGoes]
def fn3 : List He5.DefA := [dRowBetween, dRowFor, dPressesBetween, dFarthestStandings, dLawCup, dLawSip, dLawOne, dLawMixed, dLawTurn, dLawButtons, dLawStanding, dLawBent, dLawMarks, dLawRowRight, dLawStep, dLawIsWithin, dLawRight, dLaw, dBoardInit, dBoardNames]
def fn4 : List He5.DefA := [dBoardTurn, dTowerInit, dTowerFace, dTowerAdded, dTowerLead, dTowerBackStep, dTowerTakenDown]
def fn : List He5.DefA := fn0 ++ fn1 ++ fn2 ++ fn3 ++ fn4
def loose0 : List PySem.Str := ["NotRight", "InvalidText", "InvalidNumber", "InvalidTurn", "InvalidStanding", "NotABoard", "InvalidButtons", "InvalidTies", "InvalidRow", "NotKnown", "UnknownName", "NotPossible", "OtherSize", "TooMany", "MOST_PLACES", "MOST_BUTTONS", "MOST_PRESSES", "MOST_TIMES", "MOST_REACHED", "LETTERS"]
def loose1 : List PySem.Str := ["FIGURES", "LONGEST_NAME", "MOST_FIGURES", "is_integer", "is_between", "check_number", "is_name", "number_in", "common", "multiple_of", "is_turn", "check_turn", "staying", "rings_of", "falling", "kind_for", "after", "turned_back", "raised_to", "TIE"]
def loose2 : List PySem.Str := ["is_button_name", "is_button", "buttons_fault", "is_tie", "ties_fault", "Board", "part_in", "parts_in", "check_board", "Tower", "put_strong", "sift", "work", "grown", "span_sizes", "size_of", "tower_of", "group_order", "order", "EMPTY"]
def loose3 : List PySem.Str := ["is_press", "row_fault", "check_row", "check_asked", "is_standing", "check_standing", "turn_for", "led_standing", "back_row", "put_together", "nearest_number", "shorter_for", "pressed", "length", "row_back", "check_rows", "same", "on", "shortened", "single_presses"]
def loose4 : List PySem.Str := ["paths_from", "layers_from", "presses_to", "check_stood", "check_both", "turned", "count_reached", "all_reached", "least", "keepers", "goes", "row_between", "row_for", "presses_between", "farthest_standings", "_law_cup", "_law_sip", "_law_one", "_law_mixed", "_law_turn"]
def loose5 : List PySem.Str := ["_law_buttons", "_law_standing", "_law_bent", "_law_marks", "_law_row_right", "_law_step", "_law_is_within", "_law_right"]
def loose : List PySem.Str := loose0 ++ loose1 ++ loose2 ++ loose3 ++ loose4 ++ loose5
end Sb
namespace Sb
open PySem PySem.Spec PyProof.Rows L2
abbrev R : PySem.W.OpenRow := PySem.W.OpenLaw.row PySem.Challenge.rw_seatbuttons_k48_whole_walks_of_standings
abbrev hk : PySem.W.Hook := hookS 5 fa fn moreB
def ob (s : PySem.W.SharedT) : AlS := obsS 5 fa fn moreB (HandSHeadRun.getT s)
theorem ob_eq (s : PySem.W.SharedT) : ob s = hk.obs s.abs := obsS_eq (HandSHeadRun.getT_eq s)
theorem run (w : World) : HandSHeadRun.RunEq R (PySem.W.view R.prog [117]) hk ob 20000 loose w := by
  intro os
  kernel_rfl
end Sb
set_option maxHeartbeats 4000000
namespace Sb
open PySem PySem.Spec PyProof.Rows L2
/-- the address of a global name, of a class's method -/
abbrev gA (K : PySem.W.Frag) (x : Str) : Addr := He.ga K x
abbrev mA (K : PySem.W.Frag) (c m : Str) : Addr := He.ma K (He.ga K c) m
structure Z (K : PySem.W.Frag) (mg : Str → Option Value) : Prop where
  says : SaysS fa fn moreB K
  hp : ∃ h : Heap, K.In h ∧ h.Ns mainGlobals mg
section
variable {K : PySem.W.Frag} {mg : Str → Option Value}
theorem Z.fact (z : Z K mg) {f : He.Fa} (i : Nat) (h : fa[i]? = some f) : f.ok K = true := z.says.1.fact i h
theorem Z.glo (z : Z K mg) {x : Str} (i : Nat) (h : fa[i]? = some (.glo x)) : mg x = some (.ref (gA K x)) := by
  obtain ⟨hp, X, G⟩ := z.hp
  exact He.glo_ok X G (z.fact i h)
theorem Z.free (z : Z K mg) {x : Str} (i : Nat) (h : fa[i]? = some (.free x)) : mg x = none := by
  obtain ⟨hp, X, G⟩ := z.hp
  exact He.free_ok X G (z.fact i h)
theorem Z.int (z : Z K mg) {x : Str} {n : Int} (i : Nat) (h : fa[i]? = some (.int x n)) : ∃ u, mg x = some u ∧ RelV (.int n) u := by
  obtain ⟨hp, X, G⟩ := z.hp
  obtain ⟨t, e⟩ := He.int_ok X G (z.fact i h)
  exact ⟨_, e, t, rfl⟩
theorem Z.str (z : Z K mg) {x y : Str} (i : Nat) (h : fa[i]? = some (.str x y)) : ∃ u, mg x = some u ∧ RelV (.str y) u := by
  obtain ⟨hp, X, G⟩ := z.hp
  obtain ⟨t, e⟩ := He.str_ok X G (z.fact i h)
  exact ⟨_, e, t, rfl⟩
/-- a def of the text -/
theorem Z.defn (z : Z K mg) {x qual : Str} {st : Stmt} {at_ : PySem.W.Frag → Addr} (i : Nat) (h : fn[i]? = some ⟨at_, x, qual, defArgs st, defBody st, defScope st, [], []⟩) : ∃ fd, Fun K x qual st (at_ K) fd := by
  obtain ⟨fd, F⟩ := z.says.1.def_ i h
  exact ⟨fd, He5.fun_of F⟩
end
/-- the def x of the module may be called: its promise is sp -/
def Cal (P : Program) (w : World) (K : PySem.W.Frag) (mg : Str → Option Value) (base : Heap) (k : Nat) (x : Str) (sp : Sp) : Prop :=
  ∃ (fd : FuncData) (ps : List Str), FnOk P w K mg base CX0 k (gA K x) fd ps sp ∧ Binds K fd ps [] ∧ PySem.W.keepIn K (.ref (gA K x)) = true ∧ mg x = some (.ref (gA K x))
/-- the method m of the class c -/
def Met (P : Program) (w : World) (K : PySem.W.Frag) (mg : Str → Option Value) (base : Heap) (k : Nat) (c m : Str) (sp : Sp) : Prop :=
  ∃ (fd : FuncData) (ps : List Str), FnOk P w K mg base CX0 k (mA K c m) fd ps sp ∧ Binds K fd ps [] ∧ Cls K (gA K c) ∧ Meth K (gA K c) m (mA K c m)
/-- the class c may be made: its __init__ promises sp -/
def Mak (P : Program) (w : World) (K : PySem.W.Frag) (mg : Str → Option Value) (base : Heap) (k : Nat) (c : Str) (sp : Sp) : Prop :=
  ∃ (fd : FuncData) (ps : List Str), FnOk P w K mg base CX0 k (mA K c "__init__") fd ps sp ∧ Binds K fd ps [] ∧ Mk K (gA K c) (mA K c "__init__") ∧ mg c = some (.ref (gA K c))
section
variable {P : Program} {w : World} {K : PySem.W.Frag} {mg : Str → Option Value} {base : Heap}
/-- a def by its body: S its names, hb how its arguments bind, len, the body -/
theorem fn_by {x qual : Str} {st : Stmt} {f : Addr} {fd : FuncData} {N ps : List Str} {k : Nat} {sp : Sp} (F : Fun K x qual st f fd) (S : FnScope N ps (defScope st))
    (hb : ∀ (kV doc pm : Value) (an : Option Addr) (cdv ct : Value) (us : List Value), us.length = ps.length → bindArgs (PySem.W.fnOf x qual (defArgs st) (defBody st) (defScope st) .none kV doc pm an cdv ct) ⟨us, []⟩ = pure (ps.zip us))
    (len : ∀ vs H Q E, sp vs H Q E → vs.length = ps.length)
    (hbody : ∀ (cdv : Value) (A : Around) (outer : List Env) (s : Shared) (H : Hp) (vs : List V) (Q : VK) (E : XK), Room k (A.deeper (envOfC qual (defScope st) s.heap.objs.size f cdv)) → sp vs H Q E →
      ∃ t, PSs (cxOf CX0 P w K mg base N qual (defScope st) f cdv A outer s H E).nox (defBody st) t ∧ t { nx := fun _ H' => Q .non H', rt := Q } (start N vs) H) :
    FnOk P w K mg base CX0 (k + 1) f fd ps sp ∧ Binds K fd ps [] := ⟨F.ok S len hbody, F.binds hb⟩
theorem cal_by {x : Str} {st : Stmt} {N ps : List Str} {k : Nat} {sp : Sp} (hF : ∃ fd, Fun K x x st (gA K x) fd) (hm : mg x = some (.ref (gA K x))) (S : FnScope N ps (defScope st))
    (hb : ∀ (kV doc pm : Value) (an : Option Addr) (cdv ct : Value) (us : List Value), us.length = ps.length → bindArgs (PySem.W.fnOf x x (defArgs st) (defBody st) (defScope st) .none kV doc pm an cdv ct) ⟨us, []⟩ = pure (ps.zip us))
    (len : ∀ vs H Q E, sp vs H Q E → vs.length = ps.length)
    (hbody : ∀ (cdv : Value) (A : Around) (outer : List Env) (s : Shared) (H : Hp) (vs : List V) (Q : VK) (E : XK), Room k (A.deeper (envOfC x (defScope st) s.heap.objs.size (gA K x) cdv)) → sp vs H Q E →
      ∃ t, PSs (cxOf CX0 P w K mg base N x (defScope st) (gA K x) cdv A outer s H E).nox (defBody st) t ∧ t { nx := fun _ H' => Q .non H', rt := Q } (start N vs) H) : Cal P w K mg base (k + 1) x sp := by
  obtain ⟨fd, F⟩ := hF
  obtain ⟨h1, h2⟩ := fn_by F S hb len hbody
  exact ⟨fd, ps, h1, h2, F.kp, hm⟩
end
section
variable {X : Cx} {k j : Nat} {x c m : Str} {sp : Sp} {e o : Expr} {es : List Expr} {p pos apos : Pos} {t : TA} {ta : TE}
theorem pe_f (c : Cal X.prog X.w X.K X.mg X.base k x sp) (hr : Room j X.A) (hk : k ≤ j) (hg : Gl X x) (ha : PA X (e :: es) t)
    (hdb : (x == ("__debug__" : Str)) = false := by decide) (he : starEach (e :: es) X.env = (false, eval e X.env) :: starEach es X.env := by rfl) (hpl : (backTo pos (starEach es X.env)).any (·.1) = false := by rfl) :
    PE X (.Call (.Name x p) (e :: es) [] pos) (tCall sp [] E0 t) := by
  obtain ⟨fd, ps, F, b, kp, hm⟩ := c
  exact pe_call F (hr.mono hk) hg hm kp b .nil pass0 ha hdb he hpl
theorem pe_new (c' : Mak X.prog X.w X.K X.mg X.base k c sp) (hr : Room j X.A) (hk : k + 1 ≤ j) (hg : Gl X c) (ha : PA X (e :: es) t)
    (hdb : (c == ("__debug__" : Str)) = false := by decide) (he : starEach (e :: es) X.env = (false, eval e X.env) :: starEach es X.env := by rfl) (hpl : (backTo pos (starEach es X.env)).any (·.1) = false := by rfl) :
    PE X (.Call (.Name c p) (e :: es) [] pos) (tMake (gA X.K c) sp [] E0 t) := by
  obtain ⟨fd, ps, F, b, M, hm⟩ := c'
  exact pe_make M F (hr.mono hk) hg hm b .nil pass0 ha hdb he hpl
theorem pe_m {pl : Sem Bool} (c' : Met X.prog X.w X.K X.mg X.base k c m sp) (hr : Room j X.A) (hk : k ≤ j) (he : PE X o ta) (ha : PA X (e :: es) t)
    (hst : starEach (e :: es) X.env = (false, eval e X.env) :: starEach es X.env := by rfl) (hpl : (backTo pos (starEach es X.env)).any (·.1) = false := by rfl)
    (ht : eval (.Call (.Attribute o m apos) (e :: es) [] pos) X.env = (do
      let ov ← eval o X.env
      standAt apos.atName
      let (f, first) ← holding [ov] (getMethod ov m pl)
      callWith pos f first (backTo pos (starEach (e :: es) X.env)) (backToKw pos (keywordEach [] X.env))) := by rfl) :
    PE X (.Call (.Attribute o m apos) (e :: es) [] pos) (tMeth (gA X.K c) m sp [] E0 ta t) := by
  obtain ⟨fd, ps, F, b, hc, hm⟩ := c'
  exact pe_meth (pl := pl) he hc hm F (hr.mono hk) b .nil pass0 ha hst hpl ht
end
end Sb
namespace Sb
open PySem PySem.Spec PyProof.Rows L2
section
variable {K : PySem.W.Frag} {mg : Str → Option Value} {P : Program} {w : World} {base : Heap}
theorem Z.g_is_integer (z : Z K mg) : mg "is_integer" = some (.ref (gA K "is_integer")) := z.glo 0 rfl
theorem Z.g_is_between (z : Z K mg) : mg "is_between" = some (.ref (gA K "is_between")) := z.glo 1 rfl
theorem Z.g_check_number (z : Z K mg) : mg "check_number" = some (.ref (gA K "check_number")) := z.glo 2 rfl
theorem Z.g_is_name (z : Z K mg) : mg "is_name" = some (.ref (gA K "is_name")) := z.glo 3 rfl
theorem Z.g_common (z : Z K mg) : mg "common" = some (.ref (gA K "common")) := z.glo 4 rfl
theorem Z.g_multiple_of (z : Z K mg) : mg "multiple_of" = some (.ref (gA K "multiple_of")) := z.glo 5 rfl
theorem Z.g_is_turn (z : Z K mg) : mg "is_turn" = some (.ref (gA K "is_turn")) := z.glo 6 rfl
theorem Z.g_check_turn (z : Z K mg) : mg "check_turn" = some (.ref (gA K "check_turn")) := z.glo 7 rfl
theorem Z.g_staying (z : Z K mg) : mg "staying" = some (.ref (gA K "staying")) := z.glo 8 rfl
theorem Z.g_rings_of (z : Z K mg) : mg "rings_of" = some (.ref (gA K "rings_of")) := z.glo 9 rfl
theorem Z.g_falling (z : Z K mg) : mg "falling" = some (.ref (gA K "falling")) := z.glo 10 rfl
theorem Z.g_kind_for (z : Z K mg) : mg "kind_for" = some (.ref (gA K "kind_for")) := z.glo 11 rfl
theorem Z.g_after (z : Z K mg) : mg "after" = some (.ref (gA K "after")) := z.glo 12 rfl
theorem Z.g_turned_back (z : Z K mg) : mg "turned_back" = some (.ref (gA K "turned_back")) := z.glo 13 rfl
theorem Z.g_raised_to (z : Z K mg) : mg "raised_to" = some (.ref (gA K "raised_to")) := z.glo 14 rfl
theorem Z.g_is_button_name (z : Z K mg) : mg "is_button_name" = some (.ref (gA K "is_button_name")) := z.glo 15 rfl
theorem Z.g_is_button (z : Z K mg) : mg "is_button" = some (.ref (gA K "is_button")) := z.glo 16 rfl
theorem Z.g_buttons_fault (z : Z K mg) : mg "buttons_fault" = some (.ref (gA K "buttons_fault")) := z.glo 17 rfl
theorem Z.g_ties_fault (z : Z K mg) : mg "ties_fault" = some (.ref (gA K "ties_fault")) := z.glo 18 rfl
theorem Z.g_check_board (z : Z K mg) : mg "check_board" = some (.ref (gA K "check_board")) := z.glo 19 rfl
theorem Z.g_put_strong (z : Z K mg) : mg "put_strong" = some (.ref (gA K "put_strong")) := z.glo 20 rfl
theorem Z.g_sift (z : Z K mg) : mg "sift" = some (.ref (gA K "sift")) := z.glo 21 rfl
theorem Z.g_work (z : Z K mg) : mg "work" = some (.ref (gA K "work")) := z.glo 22 rfl
theorem Z.g_grown (z : Z K mg) : mg "grown" = some (.ref (gA K "grown")) := z.glo 23 rfl
theorem Z.g_span_sizes (z : Z K mg) : mg "span_sizes" = some (.ref (gA K "span_sizes")) := z.glo 24 rfl
theorem Z.g_size_of (z : Z K mg) : mg "size_of" = some (.ref (gA K "size_of")) := z.glo 25 rfl
theorem Z.g_tower_of (z : Z K mg) : mg "tower_of" = some (.ref (gA K "tower_of")) := z.glo 26 rfl
theorem Z.g_group_order (z : Z K mg) : mg "group_order" = some (.ref (gA K "group_order")) := z.glo 27 rfl
theorem Z.g_order (z : Z K mg) : mg "order" = some (.ref (gA K "order")) := z.glo 28 rfl
theorem Z.g_is_press (z : Z K mg) : mg "is_press" = some (.ref (gA K "is_press")) := z.glo 29 rfl
theorem Z.g_row_fault (z : Z K mg) : mg "row_fault" = some (.ref (gA K "row_fault")) := z.glo 30 rfl
theorem Z.g_check_row (z : Z K mg) : mg "check_row" = some (.ref (gA K "check_row")) := z.glo 31 rfl
theorem Z.g_check_asked (z : Z K mg) : mg "check_asked" = some (.ref (gA K "check_asked")) := z.glo 32 rfl
theorem Z.g_is_standing (z : Z K mg) : mg "is_standing" = some (.ref (gA K "is_standing")) := z.glo 33 rfl
theorem Z.g_check_standing (z : Z K mg) : mg "check_standing" = some (.ref (gA K "check_standing")) := z.glo 34 rfl
theorem Z.g_turn_for (z : Z K mg) : mg "turn_for" = some (.ref (gA K "turn_for")) := z.glo 35 rfl
theorem Z.g_led_standing (z : Z K mg) : mg "led_standing" = some (.ref (gA K "led_standing")) := z.glo 36 rfl
theorem Z.g_back_row (z : Z K mg) : mg "back_row" = some (.ref (gA K "back_row")) := z.glo 37 rfl
theorem Z.g_put_together (z : Z K mg) : mg "put_together" = some (.ref (gA K "put_together")) := z.glo 38 rfl
theorem Z.g_nearest_number (z : Z K mg) : mg "nearest_number" = some (.ref (gA K "nearest_number")) := z.glo 39 rfl
theorem Z.g_shorter_for (z : Z K mg) : mg "shorter_for" = some (.ref (gA K "shorter_for")) := z.glo 40 rfl
theorem Z.g_pressed (z : Z K mg) : mg "pressed" = some (.ref (gA K "pressed")) := z.glo 41 rfl
theorem Z.g_length (z : Z K mg) : mg "length" = some (.ref (gA K "length")) := z.glo 42 rfl
theorem Z.g_row_back (z : Z K mg) : mg "row_back" = some (.ref (gA K "row_back")) := z.glo 43 rfl
theorem Z.g_check_rows (z : Z K mg) : mg "check_rows" = some (.ref (gA K "check_rows")) := z.glo 44 rfl
theorem Z.g_same (z : Z K mg) : mg "same" = some (.ref (gA K "same")) := z.glo 45 rfl
theorem Z.g_on (z : Z K mg) : mg "on" = some (.ref (gA K "on")) := z.glo 46 rfl
theorem Z.g_shortened (z : Z K mg) : mg "shortened" = some (.ref (gA K "shortened")) := z.glo 47 rfl
theorem Z.g_single_presses (z : Z K mg) : mg "single_presses" = some (.ref (gA K "single_presses")) := z.glo 48 rfl
theorem Z.g_paths_from (z : Z K mg) : mg "paths_from" = some (.ref (gA K "paths_from")) := z.glo 49 rfl
theorem Z.g_layers_from (z : Z K mg) : mg "layers_from" = some (.ref (gA K "layers_from")) := z.glo 50 rfl
theorem Z.g_presses_to (z : Z K mg) : mg "presses_to" = some (.ref (gA K "presses_to")) := z.glo 51 rfl
theorem Z.g_check_stood (z : Z K mg) : mg "check_stood" = some (.ref (gA K "check_stood")) := z.glo 52 rfl
theorem Z.g_check_both (z : Z K mg) : mg "check_both" = some (.ref (gA K "check_both")) := z.glo 53 rfl
theorem Z.g_turned (z : Z K mg) : mg "turned" = some (.ref (gA K "turned")) := z.glo 54 rfl
theorem Z.g_count_reached (z : Z K mg) : mg "count_reached" = some (.ref (gA K "count_reached")) := z.glo 55 rfl
theorem Z.g_all_reached (z : Z K mg) : mg "all_reached" = some (.ref (gA K "all_reached")) := z.glo 56 rfl
theorem Z.g_least (z : Z K mg) : mg "least" = some (.ref (gA K "least")) := z.glo 57 rfl
theorem Z.g_keepers (z : Z K mg) : mg "keepers" = some (.ref (gA K "keepers")) := z.glo 58 rfl
theorem Z.g_goes (z : Z K mg) : mg "goes" = some (.ref (gA K "goes")) := z.glo 59 rfl
theorem Z.g_row_between (z : Z K mg) : mg "row_between" = some (.ref (gA K "row_between")) := z.glo 60 rfl
theorem Z.g_row_for (z : Z K mg) : mg "row_for" = some (.ref (gA K "row_for")) := z.glo 61 rfl
theorem Z.g_presses_between (z : Z K mg) : mg "presses_between" = some (.ref (gA K "presses_between")) := z.glo 62 rfl
theorem Z.g_farthest_standings (z : Z K mg) : mg "farthest_standings" = some (.ref (gA K "farthest_standings")) := z.glo 63 rfl
theorem Z.g_law_cup (z : Z K mg) : mg "_law_cup" = some (.ref (gA K "_law_cup")) := z.glo 64 rfl
theorem Z.g_law_sip (z : Z K mg) : mg "_law_sip" = some (.ref (gA K "_law_sip")) := z.glo 65 rfl
theorem Z.g_law_one (z : Z K mg) : mg "_law_one" = some (.ref (gA K "_law_one")) := z.glo 66 rfl
theorem Z.g_law_mixed (z : Z K mg) : mg "_law_mixed" = some (.ref (gA K "_law_mixed")) := z.glo 67 rfl
theorem Z.g_law_turn (z : Z K mg) : mg "_law_turn" = some (.ref (gA K "_law_turn")) := z.glo 68 rfl
theorem Z.g_law_buttons (z : Z K mg) : mg "_law_buttons" = some (.ref (gA K "_law_buttons")) := z.glo 69 rfl
theorem Z.g_law_standing (z : Z K mg) : mg "_law_standing" = some (.ref (gA K "_law_standing")) := z.glo 70 rfl
theorem Z.g_law_bent (z : Z K mg) : mg "_law_bent" = some (.ref (gA K "_law_bent")) := z.glo 71 rfl
theorem Z.g_law_marks (z : Z K mg) : mg "_law_marks" = some (.ref (gA K "_law_marks")) := z.glo 72 rfl
theorem Z.g_law_row_right (z : Z K mg) : mg "_law_row_right" = some (.ref (gA K "_law_row_right")) := z.glo 73 rfl
theorem Z.g_law_step (z : Z K mg) : mg "_law_step" = some (.ref (gA K "_law_step")) := z.glo 74 rfl
theorem Z.g_law_is_within (z : Z K mg) : mg "_law_is_within" = some (.ref (gA K "_law_is_within")) := z.glo 75 rfl
theorem Z.g_law_right (z : Z K mg) : mg "_law_right" = some (.ref (gA K "_law_right")) := z.glo 76 rfl
theorem Z.g_law (z : Z K mg) : mg "law" = some (.ref (gA K "law")) := z.glo 77 rfl
theorem Z.g_Board (z : Z K mg) : mg "Board" = some (.ref (gA K "Board")) := z.glo 78 rfl
theorem Z.g_Tower (z : Z K mg) : mg "Tower" = some (.ref (gA K "Tower")) := z.glo 79 rfl
theorem Z.b_len (z : Z K mg) : mg "len" = none := z.free 80 rfl
theorem Z.b_range (z : Z K mg) : mg "range" = none := z.free 81 rfl
theorem Z.b_isinstance (z : Z K mg) : mg "isinstance" = none := z.free 82 rfl
theorem Z.b_tuple (z : Z K mg) : mg "tuple" = none := z.free 83 rfl
theorem Z.b_list (z : Z K mg) : mg "list" = none := z.free 84 rfl
theorem Z.b_sorted (z : Z K mg) : mg "sorted" = none := z.free 85 rfl
theorem Z.b_all (z : Z K mg) : mg "all" = none := z.free 86 rfl
theorem Z.b_sum (z : Z K mg) : mg "sum" = none := z.free 87 rfl
theorem Z.b_enumerate (z : Z K mg) : mg "enumerate" = none := z.free 88 rfl
theorem Z.b_zip (z : Z K mg) : mg "zip" = none := z.free 89 rfl
theorem Z.b_dict (z : Z K mg) : mg "dict" = none := z.free 90 rfl
theorem Z.b_min (z : Z K mg) : mg "min" = none := z.free 91 rfl
theorem Z.b_max (z : Z K mg) : mg "max" = none := z.free 92 rfl
theorem Z.b_int (z : Z K mg) : mg "int" = none := z.free 93 rfl
theorem Z.b_abs (z : Z K mg) : mg "abs" = none := z.free 94 rfl
theorem Z.b_bool (z : Z K mg) : mg "bool" = none := z.free 95 rfl
theorem Z.b_str (z : Z K mg) : mg "str" = none := z.free 96 rfl
theorem Z.c_MOST_PLACES (z : Z K mg) : ∃ u, mg "MOST_PLACES" = some u ∧ RelV (.int 24) u := z.int 97 rfl
theorem Z.c_MOST_BUTTONS (z : Z K mg) : ∃ u, mg "MOST_BUTTONS" = some u ∧ RelV (.int 8) u := z.int 98 rfl
theorem Z.c_MOST_PRESSES (z : Z K mg) : ∃ u, mg "MOST_PRESSES" = some u ∧ RelV (.int 2000) u := z.int 99 rfl
theorem Z.c_MOST_TIMES (z : Z K mg) : ∃ u, mg "MOST_TIMES" = some u ∧ RelV (.int 1000000000000000000000000000000) u := z.int 100 rfl
theorem Z.c_MOST_REACHED (z : Z K mg) : ∃ u, mg "MOST_REACHED" = some u ∧ RelV (.int 50000) u := z.int 101 rfl
theorem Z.c_LONGEST_NAME (z : Z K mg) : ∃ u, mg "LONGEST_NAME" = some u ∧ RelV (.int 8) u := z.int 102 rfl
theorem Z.c_LETTERS (z : Z K mg) : ∃ u, mg "LETTERS" = some u ∧ RelV (.str "abcdefghijklmnopqrstuvwxyz") u := z.str 103 rfl
theorem Z.c_TIE (z : Z K mg) : ∃ u, mg "TIE" = some u ∧ RelV (.str "tie") u := z.str 104 rfl
theorem Z.c_EMPTY (z : Z K mg) : ∃ u, mg "EMPTY" = some u ∧ RelV (.str "-") u := z.str 105 rfl
theorem Z.cl_Board (z : Z K mg) : Cls K (gA K "Board") := He.cls_ok (z.fact (f := .cls "Board") 106 rfl)
theorem Z.cl_Tower (z : Z K mg) : Cls K (gA K "Tower") := He.cls_ok (z.fact (f := .cls "Tower") 107 rfl)
theorem Z.mk_Board (z : Z K mg) : Mk K (gA K "Board") (mA K "Board" "__init__") := He.mkr_ok (z.fact (f := .mkr "Board") 108 rfl)
theorem Z.mk_Tower (z : Z K mg) : Mk K (gA K "Tower") (mA K "Tower" "__init__") := He.mkr_ok (z.fact (f := .mkr "Tower") 109 rfl)
theorem Z.m_turn (z : Z K mg) : Meth K (gA K "Board") "turn" (mA K "Board" "turn") := He.meth_ok (z.fact (f := .meth "Board" "turn") 110 rfl)
theorem Z.m_face (z : Z K mg) : Meth K (gA K "Tower") "face" (mA K "Tower" "face") := He.meth_ok (z.fact (f := .meth "Tower" "face") 111 rfl)
theorem Z.m_added (z : Z K mg) : Meth K (gA K "Tower") "added" (mA K "Tower" "added") := He.meth_ok (z.fact (f := .meth "Tower" "added") 112 rfl)
theorem Z.m_lead (z : Z K mg) : Meth K (gA K "Tower") "lead" (mA K "Tower" "lead") := He.meth_ok (z.fact (f := .meth "Tower" "lead") 113 rfl)
theorem Z.m_back_step (z : Z K mg) : Meth K (gA K "Tower") "back_step" (mA K "Tower" "back_step") := He.meth_ok (z.fact (f := .meth "Tower" "back_step") 114 rfl)
theorem Z.m_taken_down (z : Z K mg) : Meth K (gA K "Tower") "taken_down" (mA K "Tower" "taken_down") := He.meth_ok (z.fact (f := .meth "Tower" "taken_down") 115 rfl)
theorem Z.n_size (z : Z K mg) : NoAttr K (gA K "Board") "size" := He.noat_ok (z.fact (f := .noat "Board" "size") 116 rfl)
theorem Z.n_buttons (z : Z K mg) : NoAttr K (gA K "Board") "buttons" := He.noat_ok (z.fact (f := .noat "Board" "buttons") 117 rfl)
theorem Z.n_ties (z : Z K mg) : NoAttr K (gA K "Board") "ties" := He.noat_ok (z.fact (f := .noat "Board" "ties") 118 rfl)
theorem Z.n_line (z : Z K mg) : NoAttr K (gA K "Tower") "line" := He.noat_ok (z.fact (f := .noat "Tower" "line") 119 rfl)
theorem Z.n_steps (z : Z K mg) : NoAttr K (gA K "Tower") "steps" := He.noat_ok (z.fact (f := .noat "Tower" "steps") 120 rfl)
theorem Z.n_faces (z : Z K mg) : NoAttr K (gA K "Tower") "faces" := He.noat_ok (z.fact (f := .noat "Tower" "faces") 121 rfl)
theorem Z.n_levels (z : Z K mg) : NoAttr K (gA K "Tower") "levels" := He.noat_ok (z.fact (f := .noat "Tower" "levels") 122 rfl)
theorem Z.n_strong (z : Z K mg) : NoAttr K (gA K "Tower") "strong" := He.noat_ok (z.fact (f := .noat "Tower" "strong") 123 rfl)
theorem Z.n_backward (z : Z K mg) : NoAttr K (gA K "Tower") "backward" := He.noat_ok (z.fact (f := .noat "Tower" "backward") 124 rfl)
theorem Z.n_backs (z : Z K mg) : NoAttr K (gA K "Tower") "backs" := He.noat_ok (z.fact (f := .noat "Tower" "backs") 125 rfl)
theorem Z.prop (z : Z K mg) : PropOf K (gA K "Board") "names" (mA K "Board" "names") (getAd K) := propB_ok (He.ba z.says.2).1
theorem Z.ins (z : Z K mg) : C8.InsC K (gA K "Board") := insB_ok z.cl_Board (He.ba z.says.2).2
theorem Z.d_is_integer (z : Z K mg) : ∃ fd, Fun K "is_integer" "is_integer" sIsInteger (gA K "is_integer") fd := z.defn (at_ := (fun K => He.ga K "is_integer")) 0 rfl
theorem Z.d_is_between (z : Z K mg) : ∃ fd, Fun K "is_between" "is_between" sIsBetween (gA K "is_between") fd := z.defn (at_ := (fun K => He.ga K "is_between")) 1 rfl
theorem Z.d_check_number (z : Z K mg) : ∃ fd, Fun K "check_number" "check_number" sCheckNumber (gA K "check_number") fd := z.defn (at_ := (fun K => He.ga K "check_number")) 2 rfl
theorem Z.d_is_name (z : Z K mg) : ∃ fd, Fun K "is_name" "is_name" sIsName (gA K "is_name") fd := z.defn (at_ := (fun K => He.ga K "is_name")) 3 rfl
theorem Z.d_common (z : Z K mg) : ∃ fd, Fun K "common" "common" sCommon (gA K "common") fd := z.defn (at_ := (fun K => He.ga K "common")) 4 rfl
theorem Z.d_multiple_of (z : Z K mg) : ∃ fd, Fun K "multiple_of" "multiple_of" sMultipleOf (gA K "multiple_of") fd := z.defn (at_ := (fun K => He.ga K "multiple_of")) 5 rfl
theorem Z.d_is_turn (z : Z K mg) : ∃ fd, Fun K "is_turn" "is_turn" sIsTurn (gA K "is_turn") fd := z.defn (at_ := (fun K => He.ga K "is_turn")) 6 rfl
theorem Z.d_check_turn (z : Z K mg) : ∃ fd, Fun K "check_turn" "check_turn" sCheckTurn (gA K "check_turn") fd := z.defn (at_ := (fun K => He.ga K "check_turn")) 7 rfl
theorem Z.d_staying (z : Z K mg) : ∃ fd, Fun K "staying" "staying" sStaying (gA K "staying") fd := z.defn (at_ := (fun K => He.ga K "staying")) 8 rfl
theorem Z.d_rings_of (z : Z K mg) : ∃ fd, Fun K "rings_of" "rings_of" sRingsOf (gA K "rings_of") fd := z.defn (at_ := (fun K => He.ga K "rings_of")) 9 rfl
theorem Z.d_falling (z : Z K mg) : ∃ fd, Fun K "falling" "falling" sFalling (gA K "falling") fd := z.defn (at_ := (fun K => He.ga K "falling")) 10 rfl
theorem Z.d_kind_for (z : Z K mg) : ∃ fd, Fun K "kind_for" "kind_for" sKindFor (gA K "kind_for") fd := z.defn (at_ := (fun K => He.ga K "kind_for")) 11 rfl
theorem Z.d_after (z : Z K mg) : ∃ fd, Fun K "after" "after" sAfter (gA K "after") fd := z.defn (at_ := (fun K => He.ga K "after")) 12 rfl
theorem Z.d_turned_back (z : Z K mg) : ∃ fd, Fun K "turned_back" "turned_back" sTurnedBack (gA K "turned_back") fd := z.defn (at_ := (fun K => He.ga K "turned_back")) 13 rfl
theorem Z.d_raised_to (z : Z K mg) : ∃ fd, Fun K "raised_to" "raised_to" sRaisedTo (gA K "raised_to") fd := z.defn (at_ := (fun K => He.ga K "raised_to")) 14 rfl
theorem Z.d_is_button_name (z : Z K mg) : ∃ fd, Fun K "is_button_name" "is_button_name" sIsButtonName (gA K "is_button_name") fd := z.defn (at_ := (fun K => He.ga K "is_button_name")) 15 rfl
theorem Z.d_is_button (z : Z K mg) : ∃ fd, Fun K "is_button" "is_button" sIsButton (gA K "is_button") fd := z.defn (at_ := (fun K => He.ga K "is_button")) 16 rfl
theorem Z.d_buttons_fault (z : Z K mg) : ∃ fd, Fun K "buttons_fault" "buttons_fault" sButtonsFault (gA K "buttons_fault") fd := z.defn (at_ := (fun K => He.ga K "buttons_fault")) 17 rfl
theorem Z.d_ties_fault (z : Z K mg) : ∃ fd, Fun K "ties_fault" "ties_fault" sTiesFault (gA K "ties_fault") fd := z.defn (at_ := (fun K => He.ga K "ties_fault")) 18 rfl
theorem Z.d_check_board (z : Z K mg) : ∃ fd, Fun K "check_board" "check_board" sCheckBoard (gA K "check_board") fd := z.defn (at_ := (fun K => He.ga K "check_board")) 19 rfl
theorem Z.d_put_strong (z : Z K mg) : ∃ fd, Fun K "put_strong" "put_strong" sPutStrong (gA K "put_strong") fd := z.defn (at_ := (fun K => He.ga K "put_strong")) 20 rfl
theorem Z.d_sift (z : Z K mg) : ∃ fd, Fun K "sift" "sift" sSift (gA K "sift") fd := z.defn (at_ := (fun K => He.ga K "sift")) 21 rfl
theorem Z.d_work (z : Z K mg) : ∃ fd, Fun K "work" "work" sWork (gA K "work") fd := z.defn (at_ := (fun K => He.ga K "work")) 22 rfl
theorem Z.d_grown (z : Z K mg) : ∃ fd, Fun K "grown" "grown" sGrown (gA K "grown") fd := z.defn (at_ := (fun K => He.ga K "grown")) 23 rfl
theorem Z.d_span_sizes (z : Z K mg) : ∃ fd, Fun K "span_sizes" "span_sizes" sSpanSizes (gA K "span_sizes") fd := z.defn (at_ := (fun K => He.ga K "span_sizes")) 24 rfl
theorem Z.d_size_of (z : Z K mg) : ∃ fd, Fun K "size_of" "size_of" sSizeOf (gA K "size_of") fd := z.defn (at_ := (fun K => He.ga K "size_of")) 25 rfl
theorem Z.d_tower_of (z : Z K mg) : ∃ fd, Fun K "tower_of" "tower_of" sTowerOf (gA K "tower_of") fd := z.defn (at_ := (fun K => He.ga K "tower_of")) 26 rfl
theorem Z.d_group_order (z : Z K mg) : ∃ fd, Fun K "group_order" "group_order" sGroupOrder (gA K "group_order") fd := z.defn (at_ := (fun K => He.ga K "group_order")) 27 rfl
theorem Z.d_order (z : Z K mg) : ∃ fd, Fun K "order" "order" sOrder (gA K "order") fd := z.defn (at_ := (fun K => He.ga K "order")) 28 rfl
theorem Z.d_is_press (z : Z K mg) : ∃ fd, Fun K "is_press" "is_press" sIsPress (gA K "is_press") fd := z.defn (at_ := (fun K => He.ga K "is_press")) 29 rfl
theorem Z.d_row_fault (z : Z K mg) : ∃ fd, Fun K "row_fault" "row_fault" sRowFault (gA K "row_fault") fd := z.defn (at_ := (fun K => He.ga K "row_fault")) 30 rfl
theorem Z.d_check_row (z : Z K mg) : ∃ fd, Fun K "check_row" "check_row" sCheckRow (gA K "check_row") fd := z.defn (at_ := (fun K => He.ga K "check_row")) 31 rfl
theorem Z.d_check_asked (z : Z K mg) : ∃ fd, Fun K "check_asked" "check_asked" sCheckAsked (gA K "check_asked") fd := z.defn (at_ := (fun K => He.ga K "check_asked")) 32 rfl
theorem Z.d_is_standing (z : Z K mg) : ∃ fd, Fun K "is_standing" "is_standing" sIsStanding (gA K "is_standing") fd := z.defn (at_ := (fun K => He.ga K "is_standing")) 33 rfl
theorem Z.d_check_standing (z : Z K mg) : ∃ fd, Fun K "check_standing" "check_standing" sCheckStanding (gA K "check_standing") fd := z.defn (at_ := (fun K => He.ga K "check_standing")) 34 rfl
theorem Z.d_turn_for (z : Z K mg) : ∃ fd, Fun K "turn_for" "turn_for" sTurnFor (gA K "turn_for") fd := z.defn (at_ := (fun K => He.ga K "turn_for")) 35 rfl
theorem Z.d_led_standing (z : Z K mg) : ∃ fd, Fun K "led_standing" "led_standing" sLedStanding (gA K "led_standing") fd := z.defn (at_ := (fun K => He.ga K "led_standing")) 36 rfl
theorem Z.d_back_row (z : Z K mg) : ∃ fd, Fun K "back_row" "back_row" sBackRow (gA K "back_row") fd := z.defn (at_ := (fun K => He.ga K "back_row")) 37 rfl
theorem Z.d_put_together (z : Z K mg) : ∃ fd, Fun K "put_together" "put_together" sPutTogether (gA K "put_together") fd := z.defn (at_ := (fun K => He.ga K "put_together")) 38 rfl
theorem Z.d_nearest_number (z : Z K mg) : ∃ fd, Fun K "nearest_number" "nearest_number" sNearestNumber (gA K "nearest_number") fd := z.defn (at_ := (fun K => He.ga K "nearest_number")) 39 rfl
theorem Z.d_shorter_for (z : Z K mg) : ∃ fd, Fun K "shorter_for" "shorter_for" sShorterFor (gA K "shorter_for") fd := z.defn (at_ := (fun K => He.ga K "shorter_for")) 40 rfl
theorem Z.d_pressed (z : Z K mg) : ∃ fd, Fun K "pressed" "pressed" sPressed (gA K "pressed") fd := z.defn (at_ := (fun K => He.ga K "pressed")) 41 rfl
theorem Z.d_length (z : Z K mg) : ∃ fd, Fun K "length" "length" sLength (gA K "length") fd := z.defn (at_ := (fun K => He.ga K "length")) 42 rfl
theorem Z.d_row_back (z : Z K mg) : ∃ fd, Fun K "row_back" "row_back" sRowBack (gA K "row_back") fd := z.defn (at_ := (fun K => He.ga K "row_back")) 43 rfl
theorem Z.d_check_rows (z : Z K mg) : ∃ fd, Fun K "check_rows" "check_rows" sCheckRows (gA K "check_rows") fd := z.defn (at_ := (fun K => He.ga K "check_rows")) 44 rfl
theorem Z.d_same (z : Z K mg) : ∃ fd, Fun K "same" "same" sSame (gA K "same") fd := z.defn (at_ := (fun K => He.ga K "same")) 45 rfl
theorem Z.d_on (z : Z K mg) : ∃ fd, Fun K "on" "on" sOn (gA K "on") fd := z.defn (at_ := (fun K => He.ga K "on")) 46 rfl
theorem Z.d_shortened (z : Z K mg) : ∃ fd, Fun K "shortened" "shortened" sShortened (gA K "shortened") fd := z.defn (at_ := (fun K => He.ga K "shortened")) 47 rfl
theorem Z.d_single_presses (z : Z K mg) : ∃ fd, Fun K "single_presses" "single_presses" sSinglePresses (gA K "single_presses") fd := z.defn (at_ := (fun K => He.ga K "single_presses")) 48 rfl
theorem Z.d_paths_from (z : Z K mg) : ∃ fd, Fun K "paths_from" "paths_from" sPathsFrom (gA K "paths_from") fd := z.defn (at_ := (fun K => He.ga K "paths_from")) 49 rfl
theorem Z.d_layers_from (z : Z K mg) : ∃ fd, Fun K "layers_from" "layers_from" sLayersFrom (gA K "layers_from") fd := z.defn (at_ := (fun K => He.ga K "layers_from")) 50 rfl
theorem Z.d_presses_to (z : Z K mg) : ∃ fd, Fun K "presses_to" "presses_to" sPressesTo (gA K "presses_to") fd := z.defn (at_ := (fun K => He.ga K "presses_to")) 51 rfl
theorem Z.d_check_stood (z : Z K mg) : ∃ fd, Fun K "check_stood" "check_stood" sCheckStood (gA K "check_stood") fd := z.defn (at_ := (fun K => He.ga K "check_stood")) 52 rfl
theorem Z.d_check_both (z : Z K mg) : ∃ fd, Fun K "check_both" "check_both" sCheckBoth (gA K "check_both") fd := z.defn (at_ := (fun K => He.ga K "check_both")) 53 rfl
theorem Z.d_turned (z : Z K mg) : ∃ fd, Fun K "turned" "turned" sTurned (gA K "turned") fd := z.defn (at_ := (fun K => He.ga K "turned")) 54 rfl
theorem Z.d_count_reached (z : Z K mg) : ∃ fd, Fun K "count_reached" "count_reached" sCountReached (gA K "count_reached") fd := z.defn (at_ := (fun K => He.ga K "count_reached")) 55 rfl
theorem Z.d_all_reached (z : Z K mg) : ∃ fd, Fun K "all_reached" "all_reached" sAllReached (gA K "all_reached") fd := z.defn (at_ := (fun K => He.ga K "all_reached")) 56 rfl
theorem Z.d_least (z : Z K mg) : ∃ fd, Fun K "least" "least" sLeast (gA K "least") fd := z.defn (at_ := (fun K => He.ga K "least")) 57 rfl
theorem Z.d_keepers (z : Z K mg) : ∃ fd, Fun K "keepers" "keepers" sKeepers (gA K "keepers") fd := z.defn (at_ := (fun K => He.ga K "keepers")) 58 rfl
theorem Z.d_goes (z : Z K mg) : ∃ fd, Fun K "goes" "goes" sGoes (gA K "goes") fd := z.defn (at_ := (fun K => He.ga K "goes")) 59 rfl
theorem Z.d_row_between (z : Z K mg) : ∃ fd, Fun K "row_between" "row_between" sRowBetween (gA K "row_between") fd := z.defn (at_ := (fun K => He.ga K "row_between")) 60 rfl
theorem Z.d_row_for (z : Z K mg) : ∃ fd, Fun K "row_for" "row_for" sRowFor (gA K "row_for") fd := z.defn (at_ := (fun K => He.ga K "row_for")) 61 rfl
theorem Z.d_presses_between (z : Z K mg) : ∃ fd, Fun K "presses_between" "presses_between" sPressesBetween (gA K "presses_between") fd := z.defn (at_ := (fun K => He.ga K "presses_between")) 62 rfl
theorem Z.d_farthest_standings (z : Z K mg) : ∃ fd, Fun K "farthest_standings" "farthest_standings" sFarthestStandings (gA K "farthest_standings") fd := z.defn (at_ := (fun K => He.ga K "farthest_standings")) 63 rfl
theorem Z.d_law_cup (z : Z K mg) : ∃ fd, Fun K "_law_cup" "_law_cup" sLawCup (gA K "_law_cup") fd := z.defn (at_ := (fun K => He.ga K "_law_cup")) 64 rfl
theorem Z.d_law_sip (z : Z K mg) : ∃ fd, Fun K "_law_sip" "_law_sip" sLawSip (gA K "_law_sip") fd := z.defn (at_ := (fun K => He.ga K "_law_sip")) 65 rfl
theorem Z.d_law_one (z : Z K mg) : ∃ fd, Fun K "_law_one" "_law_one" sLawOne (gA K "_law_one") fd := z.defn (at_ := (fun K => He.ga K "_law_one")) 66 rfl
theorem Z.d_law_mixed (z : Z K mg) : ∃ fd, Fun K "_law_mixed" "_law_mixed" sLawMixed (gA K "_law_mixed") fd := z.defn (at_ := (fun K => He.ga K "_law_mixed")) 67 rfl
theorem Z.d_law_turn (z : Z K mg) : ∃ fd, Fun K "_law_turn" "_law_turn" sLawTurn (gA K "_law_turn") fd := z.defn (at_ := (fun K => He.ga K "_law_turn")) 68 rfl
theorem Z.d_law_buttons (z : Z K mg) : ∃ fd, Fun K "_law_buttons" "_law_buttons" sLawButtons (gA K "_law_buttons") fd := z.defn (at_ := (fun K => He.ga K "_law_buttons")) 69 rfl
theorem Z.d_law_standing (z : Z K mg) : ∃ fd, Fun K "_law_standing" "_law_standing" sLawStanding (gA K "_law_standing") fd := z.defn (at_ := (fun K => He.ga K "_law_standing")) 70 rfl
theorem Z.d_law_bent (z : Z K mg) : ∃ fd, Fun K "_law_bent" "_law_bent" sLawBent (gA K "_law_bent") fd := z.defn (at_ := (fun K => He.ga K "_law_bent")) 71 rfl
theorem Z.d_law_marks (z : Z K mg) : ∃ fd, Fun K "_law_marks" "_law_marks" sLawMarks (gA K "_law_marks") fd := z.defn (at_ := (fun K => He.ga K "_law_marks")) 72 rfl
theorem Z.d_law_row_right (z : Z K mg) : ∃ fd, Fun K "_law_row_right" "_law_row_right" sLawRowRight (gA K "_law_row_right") fd := z.defn (at_ := (fun K => He.ga K "_law_row_right")) 73 rfl
theorem Z.d_law_step (z : Z K mg) : ∃ fd, Fun K "_law_step" "_law_step" sLawStep (gA K "_law_step") fd := z.defn (at_ := (fun K => He.ga K "_law_step")) 74 rfl
theorem Z.d_law_is_within (z : Z K mg) : ∃ fd, Fun K "_law_is_within" "_law_is_within" sLawIsWithin (gA K "_law_is_within") fd := z.defn (at_ := (fun K => He.ga K "_law_is_within")) 75 rfl
theorem Z.d_law_right (z : Z K mg) : ∃ fd, Fun K "_law_right" "_law_right" sLawRight (gA K "_law_right") fd := z.defn (at_ := (fun K => He.ga K "_law_right")) 76 rfl
theorem Z.d_law (z : Z K mg) : ∃ fd, Fun K "law" "law" sLaw (gA K "law") fd := z.defn (at_ := (fun K => He.ga K "law")) 77 rfl
theorem Z.d_Board___init (z : Z K mg) : ∃ fd, Fun K "__init__" "Board.__init__" sBoardInit (mA K "Board" "__init__") fd := z.defn (at_ := (fun K => He.ma K (He.ga K "Board") "__init__")) 78 rfl
theorem Z.d_Board_names (z : Z K mg) : ∃ fd, Fun K "names" "Board.names" sBoardNames (getAd K) fd := z.defn (at_ := (fun K => getAd K)) 79 rfl
theorem Z.d_Board_turn (z : Z K mg) : ∃ fd, Fun K "turn" "Board.turn" sBoardTurn (mA K "Board" "turn") fd := z.defn (at_ := (fun K => He.ma K (He.ga K "Board") "turn")) 80 rfl
theorem Z.d_Tower___init (z : Z K mg) : ∃ fd, Fun K "__init__" "Tower.__init__" sTowerInit (mA K "Tower" "__init__") fd := z.defn (at_ := (fun K => He.ma K (He.ga K "Tower") "__init__")) 81 rfl
theorem Z.d_Tower_face (z : Z K mg) : ∃ fd, Fun K "face" "Tower.face" sTowerFace (mA K "Tower" "face") fd := z.defn (at_ := (fun K => He.ma K (He.ga K "Tower") "face")) 82 rfl
theorem Z.d_Tower_added (z : Z K mg) : ∃ fd, Fun K "added" "Tower.added" sTowerAdded (mA K "Tower" "added") fd := z.defn (at_ := (fun K => He.ma K (He.ga K "Tower") "added")) 83 rfl
theorem Z.d_Tower_lead (z : Z K mg) : ∃ fd, Fun K "lead" "Tower.lead" sTowerLead (mA K "Tower" "lead") fd := z.defn (at_ := (fun K => He.ma K (He.ga K "Tower") "lead")) 84 rfl
theorem Z.d_Tower_back_step (z : Z K mg) : ∃ fd, Fun K "back_step" "Tower.back_step" sTowerBackStep (mA K "Tower" "back_step") fd := z.defn (at_ := (fun K => He.ma K (He.ga K "Tower") "back_step")) 85 rfl
theorem Z.d_Tower_taken_down (z : Z K mg) : ∃ fd, Fun K "taken_down" "Tower.taken_down" sTowerTakenDown (mA K "Tower" "taken_down") fd := z.defn (at_ := (fun K => He.ma K (He.ga K "Tower") "taken_down")) 86 rfl
end
end Sb
namespace Sb
open PySem PySem.Spec PyProof.Rows L2
/-- the tuples stay -/
def TK (H H' : Hp) : Prop := ∀ a xs, H a = some (.tup xs) → H' a = some (.tup xs)
theorem TK.refl (H : Hp) : TK H H := fun _ _ h => h
theorem TK.trans {H H1 H2 : Hp} (a : TK H H1) (b : TK H1 H2) : TK H H2 := fun x xs h => b x xs (a x xs h)
theorem Same.tk {H H' : Hp} (h : Same H H') : TK H H' := fun a xs e => h a _ e
theorem TK.new {H : Hp} {p : Addr} {o : HO} (h : H p = none) : TK H (upd H p o) := fun a xs e => by
  rw [upd_ne (ne_of_none e h)]
  exact e
theorem TK.put {H : Hp} {p : Addr} {o u : HO} (h : H p = some u) (hu : ∀ xs, u ≠ .tup xs) : TK H (upd H p o) := fun a xs e => by
  rw [upd_ne (ne_of e h fun q => hu xs q.symm)]
  exact e
theorem Same.new {H : Hp} {p : Addr} {o : HO} (h : H p = none) : Same H (upd H p o) := fun a u e => by
  rw [upd_ne (ne_of_none e h)]
  exact e
/-- an object that H does not know may change -/
theorem Same.mut {H H' : Hp} {p : Addr} {o : HO} (e : Same H H') (h : H p = none) : Same H (upd H' p o) := fun a u ha => by
  rw [upd_ne (ne_of_none ha h)]
  exact e a u ha
theorem Same.lst {H H' : Hp} {a : Addr} {o : HO} (e : Same H H') (h : H a = some o) : H' a = some o := e a o h

mutual
inductive Im (H : Hp) : V → PyData → Prop
  | non : Im H .non .none
  | bl (b : Bool) : Im H (.bl b) (.bool b)
  | int (i : Int) : Im H (.int i) (.int i)
  | str (x : Str) : Im H (.str x) (.str x)
  | tup {a : Addr} {xs : List V} {ds : List PyData} : H a = some (.tup xs) → Ims H xs ds → Im H (.ref a) (.tuple ds)
inductive Ims (H : Hp) : List V → List PyData → Prop
  | nil : Ims H [] []
  | cons {v : V} {vs : List V} {d : PyData} {ds : List PyData} : Im H v d → Ims H vs ds → Ims H (v :: vs) (d :: ds)
end
mutual
theorem Im.tk {H H' : Hp} (t : TK H H') : ∀ (d : PyData) (v : V), Im H v d → Im H' v d
  | .none, _, h => by cases h; exact .non
  | .bool b, _, h => by cases h; exact .bl b
  | .int i, _, h => by cases h; exact .int i
  | .str x, _, h => by cases h; exact .str x
  | .list ds, _, h => by cases h
  | .tuple ds, _, h => by
    cases h with
    | tup h1 h2 => exact .tup (t _ _ h1) (Ims.tk t ds _ h2)
  | .dict _, _, h => by cases h
theorem Ims.tk {H H' : Hp} (t : TK H H') : ∀ (ds : List PyData) (vs : List V), Ims H vs ds → Ims H' vs ds
  | [], _, h => by cases h; exact .nil
  | d :: ds, _, h => by
    cases h with
    | cons h1 h2 => exact .cons (Im.tk t d _ h1) (Ims.tk t ds _ h2)
end
mutual
theorem Im.dp {K : PySem.W.Frag} {H : Hp} : ∀ (d : PyData) (v : V), Im H v d → Dp K H v d
  | .none, _, h => by cases h; exact .non
  | .bool b, _, h => by cases h; exact .bl b
  | .int i, _, h => by cases h; exact .int i
  | .str x, _, h => by cases h; exact .str x
  | .list ds, _, h => by cases h
  | .tuple ds, _, h => by
    cases h with
    | tup h1 h2 => exact .tup (SqT.of h1) (Ims.dp ds _ h2)
  | .dict _, _, h => by cases h
theorem Ims.dp {K : PySem.W.Frag} {H : Hp} : ∀ (ds : List PyData) (vs : List V), Ims H vs ds → DpAll K H vs ds
  | [], _, h => by cases h; exact .nil
  | d :: ds, _, h => by
    cases h with
    | cons h1 h2 => exact .cons (Im.dp d _ h1) (Ims.dp ds _ h2)
end
section
variable {H H' : Hp} {v : V} {d : PyData} {vs ws : List V} {ds es : List PyData}
theorem Im.by (h : Im H v d) (t : TK H H') : Im H' v d := Im.tk t d v h
theorem Ims.by (h : Ims H vs ds) (t : TK H H') : Ims H' vs ds := Ims.tk t ds vs h
theorem Im.on (h : Im H v d) (t : Same H H') : Im H' v d := h.by (Same.tk t)
theorem Ims.on (h : Ims H vs ds) (t : Same H H') : Ims H' vs ds := h.by (Same.tk t)
theorem Ims.len : ∀ {vs : List V} {ds : List PyData}, Ims H vs ds → vs.length = ds.length
  | [], [], _ => rfl
  | v :: vs, d :: ds, h => by
    cases h with
    | cons _ h2 => exact congrArg (· + 1) h2.len
  | [], _ :: _, h => by cases h
  | _ :: _, [], h => by cases h
theorem Ims.get : ∀ {vs : List V} {ds : List PyData} {i : Nat} {x : V}, Ims H vs ds → vs[i]? = some x → ∃ d, ds[i]? = some d ∧ Im H x d
  | [], _, i, x, _, e => by simp at e
  | v :: vs, [], _, _, h, _ => by cases h
  | v :: vs, d :: ds, 0, x, h, e => by
    cases h with
    | cons h1 _ =>
      have e' : v = x := by simpa using e
      exact ⟨d, rfl, e' ▸ h1⟩
  | v :: vs, d :: ds, i + 1, x, h, e => by
    cases h with
    | cons _ h2 =>
      obtain ⟨q, e1, e2⟩ := Ims.get (i := i) (x := x) h2 (by simpa using e)
      exact ⟨q, by simpa using e1, e2⟩
theorem Ims.at_ : ∀ {vs : List V} {ds : List PyData} {i : Nat} {d : PyData}, Ims H vs ds → ds[i]? = some d → ∃ x, vs[i]? = some x ∧ Im H x d := fun {vs ds i d} h e => by
  have l : i < vs.length := by rw [h.len]; exact (List.getElem?_eq_some_iff.mp e).1
  obtain ⟨q, e1, e2⟩ := h.get (i := i) (x := vs[i]) (by simp [l])
  rw [e] at e1
  cases e1
  exact ⟨_, by simp [l], e2⟩
theorem Ims.append : ∀ {vs ws : List V} {ds es : List PyData}, Ims H vs ds → Ims H ws es → Ims H (vs ++ ws) (ds ++ es)
  | [], _, [], _, _, h => h
  | v :: vs, ws, d :: ds, es, h, h' => by
    cases h with
    | cons h1 h2 => exact .cons h1 (h2.append h')
  | [], _, _ :: _, _, h, _ => by cases h
  | _ :: _, _, [], _, h, _ => by cases h
theorem Ims.snoc (h : Ims H vs ds) (h1 : Im H v d) : Ims H (vs ++ [v]) (ds ++ [d]) := h.append (.cons h1 .nil)
theorem Ims.one (h1 : Im H v d) : Ims H [v] [d] := .cons h1 .nil
theorem Ims.two {x y : V} {d e : PyData} (h1 : Im H x d) (h2 : Im H y e) : Ims H [x, y] [d, e] := .cons h1 (.cons h2 .nil)
theorem Im.tupE (h : Im H v (.tuple ds)) : ∃ a xs, v = .ref a ∧ H a = some (.tup xs) ∧ Ims H xs ds := by
  cases h with
  | tup h1 h2 => exact ⟨_, _, rfl, h1, h2⟩
theorem Im.intE {i : Int} (h : Im H v (.int i)) : v = .int i := by cases h; rfl
theorem Im.strE {x : Str} (h : Im H v (.str x)) : v = .str x := by cases h; rfl
theorem Im.blE {x : Bool} (h : Im H v (.bool x)) : v = .bl x := by cases h; rfl
theorem Ims.twoE {d e : PyData} (h : Ims H vs [d, e]) : ∃ x y, vs = [x, y] ∧ Im H x d ∧ Im H y e := by
  cases h with
  | cons h1 h2 =>
    cases h2 with
    | cons h2 h3 =>
      cases h3
      exact ⟨_, _, rfl, h1, h2⟩
theorem Ims.ints : ∀ {vs : List V} {ns : List Int}, Ims H vs (ns.map .int) → vs = ns.map V.int
  | _, [], h => by cases h; rfl
  | _, n :: ns, h => by
    cases h with
    | cons h1 h2 => rw [h1.intE, h2.ints]; rfl
theorem ims_ints : ∀ (ns : List Int), Ims H (ns.map V.int) (ns.map .int)
  | [] => .nil
  | n :: ns => .cons (.int n) (ims_ints ns)
end

abbrev Trn := List Nat
abbrev Press := Str × Int
abbrev Row := List Press
abbrev Btn := Str × Trn
def vN (t : Trn) : List V := t.map fun n : Nat => V.int (n : Int)
def eT (t : Trn) : PyData := .tuple (t.map fun n : Nat => .int (n : Int))
def eP (p : Press) : PyData := .tuple [.str p.1, .int p.2]
def eR (r : Row) : PyData := .tuple (r.map eP)
def eB (b : Btn) : PyData := .tuple [.str b.1, eT b.2]
def eBs (bs : List Btn) : PyData := .tuple (bs.map eB)
def eM (m : Press × Trn) : PyData := .tuple [eP m.1, eT m.2]
section
variable {H H' : Hp} {v : V} {a : Addr}
theorem Ims.nats : ∀ {vs : List V} {t : Trn}, Ims H vs (t.map fun n : Nat => .int (n : Int)) → vs = vN t
  | _, [], h => by cases h; rfl
  | _, n :: t, h => by
    cases h with
    | cons h1 h2 => rw [h1.intE, h2.nats]; rfl
theorem ims_nats : ∀ (t : Trn), Ims H (vN t) (t.map fun n : Nat => .int (n : Int))
  | [] => .nil
  | n :: t => .cons (.int n) (ims_nats t)
theorem Im.tE {t : Trn} (h : Im H v (eT t)) : ∃ a, v = .ref a ∧ H a = some (.tup (vN t)) := by
  obtain ⟨a, xs, e, h1, h2⟩ := Im.tupE h
  rw [h2.nats] at h1
  exact ⟨a, e, h1⟩
theorem im_t {t : Trn} (h : H a = some (.tup (vN t))) : Im H (.ref a) (eT t) := .tup h (ims_nats t)
theorem Im.pE {p : Press} (h : Im H v (eP p)) : ∃ a, v = .ref a ∧ H a = some (.tup [.str p.1, .int p.2]) := by
  obtain ⟨a, xs, e, h1, h2⟩ := Im.tupE h
  obtain ⟨x, y, e2, h3, h4⟩ := h2.twoE
  rw [e2, h3.strE, h4.intE] at h1
  exact ⟨a, e, h1⟩
theorem im_p {x : Str} {i : Int} (h : H a = some (.tup [.str x, .int i])) : Im H (.ref a) (eP (x, i)) := .tup h (.two (.str x) (.int i))
theorem Im.bE {b : Btn} (h : Im H v (eB b)) : ∃ a c, v = .ref a ∧ H a = some (.tup [.str b.1, .ref c]) ∧ H c = some (.tup (vN b.2)) := by
  obtain ⟨a, xs, e, h1, h2⟩ := Im.tupE h
  obtain ⟨x, y, e2, h3, h4⟩ := h2.twoE
  obtain ⟨c, e3, h5⟩ := h4.tE
  rw [e2, h3.strE, e3] at h1
  exact ⟨a, c, e, h1, h5⟩
theorem im_b {x : Str} {t : Trn} {c : V} (h : H a = some (.tup [.str x, c])) (hc : Im H c (eT t)) : Im H (.ref a) (eB (x, t)) := .tup h (.two (.str x) hc)
theorem Im.mE {m : Press × Trn} (h : Im H v (eM m)) : ∃ a p c, v = .ref a ∧ H a = some (.tup [p, .ref c]) ∧ Im H p (eP m.1) ∧ H c = some (.tup (vN m.2)) := by
  obtain ⟨a, xs, e, h1, h2⟩ := Im.tupE h
  obtain ⟨x, y, e2, h3, h4⟩ := h2.twoE
  obtain ⟨c, e3, h5⟩ := h4.tE
  rw [e2, e3] at h1
  exact ⟨a, x, c, e, h1, h3, h5⟩
theorem vN_len (t : Trn) : (vN t).length = t.length := List.length_map ..
theorem vN_get {t : Trn} {i : Nat} : (vN t)[i]? = t[i]?.map fun n : Nat => V.int (n : Int) := List.getElem?_map ..
end
end Sb
namespace Sb
open PySem PySem.Spec PyProof.Rows L2
section
variable {α β : Type} [DecidableEq α]
/-- what stands at a -/
def getA (l : List (α × β)) (a : α) : Option β := (l.find? fun p => decide (p.1 = a)).map (·.2)
def putA (l : List (α × β)) (a : α) (b : β) : List (α × β) := if (getA l a).isSome = true then l.map (fun p => if p.1 = a then (p.1, b) else p) else l ++ [(a, b)]
theorem getA_nil (a : α) : getA ([] : List (α × β)) a = none := rfl
theorem getA_pos {p : α × β} {l : List (α × β)} {a : α} (e : p.1 = a) : getA (p :: l) a = some p.2 := by simp [getA, List.find?_cons, e]
theorem getA_neg {p : α × β} {l : List (α × β)} {a : α} (e : ¬ p.1 = a) : getA (p :: l) a = getA l a := by simp [getA, List.find?_cons, e]
theorem getA_snoc (l : List (α × β)) (a c : α) (b : β) (h : getA l a = none) : getA (l ++ [(a, b)]) c = if c = a then some b else getA l c := by
  induction l with
  | nil =>
    by_cases e : c = a
    · rw [if_pos e]; exact getA_pos (p := (a, b)) e.symm
    · rw [if_neg e]; exact getA_neg (p := (a, b)) fun z => e z.symm
  | cons p l ih =>
    by_cases e : p.1 = a
    · rw [getA_pos e] at h; cases h
    · rw [getA_neg e] at h
      by_cases e2 : p.1 = c
      · rw [List.cons_append, getA_pos e2, getA_pos e2, if_neg fun z => e (e2.trans z)]
      · rw [List.cons_append, getA_neg e2, getA_neg e2, ih h]
theorem getA_map (l : List (α × β)) (a c : α) (b : β) : getA (l.map fun p => if p.1 = a then (p.1, b) else p) c = (getA l c).map fun x => if c = a then b else x := by
  induction l with
  | nil => rfl
  | cons p l ih =>
    rw [List.map_cons]
    by_cases e : p.1 = c
    · rw [getA_pos e, getA_pos (by split <;> exact e)]
      by_cases e2 : p.1 = a
      · rw [if_pos e2, Option.map_some, if_pos (e.symm.trans e2)]
      · rw [if_neg e2, Option.map_some, if_neg fun z => e2 (e.trans z)]
    · rw [getA_neg e, getA_neg (by split <;> exact e), ih]
theorem getA_put (l : List (α × β)) (a c : α) (b : β) : getA (putA l a b) c = if c = a then some b else getA l c := by
  unfold putA
  by_cases h : (getA l a).isSome = true
  · rw [if_pos h, getA_map]
    by_cases e : c = a
    · rw [if_pos e]
      obtain ⟨x, hx⟩ := Option.isSome_iff_exists.mp h
      rw [e, hx, Option.map_some, if_pos rfl]
    · rw [if_neg e]
      cases getA l c <;> simp [e]
  · rw [if_neg h]
    have h0 : getA l a = none := by
      cases q : getA l a with
      | none => rfl
      | some x => rw [q] at h; exact absurd rfl h
    exact getA_snoc l a c b h0
theorem putA_new {l : List (α × β)} {a : α} {b : β} (h : getA l a = none) : putA l a b = l ++ [(a, b)] := by
  unfold putA
  rw [h]
  rfl
theorem getA_mem {l : List (α × β)} {a : α} {b : β} (h : getA l a = some b) : (a, b) ∈ l := by
  unfold getA at h
  cases q : l.find? (fun p => decide (p.1 = a)) with
  | none => rw [q] at h; cases h
  | some p =>
    rw [q] at h
    have e : p.1 = a := by
      have := List.find?_some q
      exact of_decide_eq_true this
    have m := List.mem_of_find?_eq_some q
    simp at h
    rw [← e, ← h]
    exact m
theorem getA_none {l : List (α × β)} {a : α} : getA l a = none ↔ a ∉ l.map (·.1) := by
  unfold getA
  rw [Option.map_eq_none_iff, List.find?_eq_none]
  simp only [decide_eq_true_eq, List.mem_map, not_exists, not_and]
theorem getA_some_iff {l : List (α × β)} {a : α} : (∃ b, getA l a = some b) ↔ a ∈ l.map (·.1) := by
  constructor
  · rintro ⟨b, h⟩
    exact List.mem_map.mpr ⟨_, getA_mem h, rfl⟩
  · intro m
    cases q : getA l a with
    | none => exact absurd m (getA_none.mp q)
    | some b => exact ⟨b, rfl⟩
theorem putA_keys {l : List (α × β)} {a : α} {b : β} : (putA l a b).map (·.1) = if a ∈ l.map (·.1) then l.map (·.1) else l.map (·.1) ++ [a] := by
  unfold putA
  by_cases h : (getA l a).isSome = true
  · obtain ⟨x, hx⟩ := Option.isSome_iff_exists.mp h
    rw [if_pos h, if_pos (getA_some_iff.mp ⟨x, hx⟩), List.map_map]
    refine List.map_congr_left fun p m => ?_
    simp only [Function.comp]
    split <;> rfl
  · rw [if_neg h, if_neg, List.map_append]; rfl
    intro m
    obtain ⟨x, hx⟩ := getA_some_iff.mpr m
    exact h (by rw [hx]; rfl)
theorem putA_length {l : List (α × β)} {a : α} {b : β} : (putA l a b).length ≤ l.length + 1 := by
  unfold putA
  split
  · rw [List.length_map]; omega
  · rw [List.length_append]; exact Nat.le_refl _
/-- the dict's rows stand for the list's -/
inductive KvR (κ : α → Key) (R : V → β → Prop) : List (Key × V) → List (α × β) → Prop
  | nil : KvR κ R [] []
  | cons {v : V} {a : α} {b : β} {kvs : List (Key × V)} {l : List (α × β)} : R v b → KvR κ R kvs l → KvR κ R ((κ a, v) :: kvs) ((a, b) :: l)
variable {κ : α → Key} {R R' : V → β → Prop}
theorem KvR.mono (hR : ∀ v b, R v b → R' v b) : ∀ {kvs : List (Key × V)} {l : List (α × β)}, KvR κ R kvs l → KvR κ R' kvs l
  | _, _, .nil => .nil
  | _, _, .cons h1 h2 => .cons (hR _ _ h1) (h2.mono hR)
theorem KvR.len : ∀ {kvs : List (Key × V)} {l : List (α × β)}, KvR κ R kvs l → kvs.length = l.length
  | _, _, .nil => rfl
  | _, _, .cons _ h2 => congrArg (· + 1) h2.len
theorem KvR.append : ∀ {kvs kv2 : List (Key × V)} {l l2 : List (α × β)}, KvR κ R kvs l → KvR κ R kv2 l2 → KvR κ R (kvs ++ kv2) (l ++ l2)
  | _, _, _, _, .nil, h => h
  | _, _, _, _, .cons h1 h2, h => .cons h1 (h2.append h)
theorem KvR.get : ∀ {kvs : List (Key × V)} {l : List (α × β)} {i : Nat} {k : Key} {v : V}, KvR κ R kvs l → kvs[i]? = some (k, v) → ∃ a b, l[i]? = some (a, b) ∧ k = κ a ∧ R v b
  | _, _, i, k, v, .nil, h => by simp at h
  | _, _, 0, k, v, .cons (a := a) (b := b) h1 h2, h => by
    simp at h
    exact ⟨a, b, rfl, h.1.symm, h.2 ▸ h1⟩
  | _, _, i + 1, k, v, .cons h1 h2, h => by
    obtain ⟨a, b, e1, e2⟩ := KvR.get (i := i) h2 (by simpa using h)
    exact ⟨a, b, by simpa using e1, e2⟩
theorem KvR.keys : ∀ {kvs : List (Key × V)} {l : List (α × β)}, KvR κ R kvs l → kvs.map (·.1) = (l.map (·.1)).map κ
  | _, _, .nil => rfl
  | _, _, .cons _ h2 => by rw [List.map_cons, List.map_cons, List.map_cons, h2.keys]
theorem KvR.find (inj : ∀ a b, κ a = κ b → a = b) (a : α) : ∀ {kvs : List (Key × V)} {l : List (α × β)}, KvR κ R kvs l → (valV kvs (κ a) = none ∧ getA l a = none) ∨ ∃ v b, valV kvs (κ a) = some v ∧ getA l a = some b ∧ R v b
  | _, _, .nil => .inl ⟨rfl, rfl⟩
  | _, _, .cons (a := c) (v := v) (b := b) (kvs := kvs) (l := l) h1 h2 => by
    by_cases e : c = a
    · exact .inr ⟨v, b, valV_pos (p := (κ c, v)) (congrArg κ e), getA_pos (p := (c, b)) e, h1⟩
    · rw [valV_neg (p := (κ c, v)) fun z => e (inj _ _ z), getA_neg (p := (c, b)) e]
      exact h2.find inj a
theorem KvR.setAt (inj : ∀ a b, κ a = κ b → a = b) {a : α} {v : V} {b : β} (r : R v b) : ∀ {kvs : List (Key × V)} {l : List (α × β)}, KvR κ R kvs l → KvR κ R (kvs.map fun kv => if kv.1 = κ a then (kv.1, v) else kv) (l.map fun p => if p.1 = a then (p.1, b) else p)
  | _, _, .nil => .nil
  | _, _, .cons (a := c) h1 h2 => by
    rw [List.map_cons, List.map_cons]
    by_cases z : c = a
    · rw [if_pos z, if_pos (congrArg κ z)]
      exact .cons r (h2.setAt inj r)
    · rw [if_neg z, if_neg fun y => z (inj _ _ y)]
      exact .cons h1 (h2.setAt inj r)
theorem KvR.put (inj : ∀ a b, κ a = κ b → a = b) {kvs : List (Key × V)} {l : List (α × β)} {a : α} {v : V} {b : β} (h : KvR κ R kvs l) (r : R v b) : KvR κ R (putK kvs (κ a) v) (putA l a b) := by
  unfold putK putA
  rw [valV_any]
  have e : (valV kvs (κ a)).isSome = (getA l a).isSome := by
    rcases h.find inj a with ⟨h1, h2⟩ | ⟨x, y, h1, h2, _⟩ <;> rw [h1, h2] <;> rfl
  rw [e]
  split
  · exact h.setAt inj r
  · exact h.append (.cons r .nil)
theorem putK_new {kvs : List (Key × V)} {k : Key} {v : V} (h : valV kvs k = none) : putK kvs k v = kvs ++ [(k, v)] := by
  unfold putK
  rw [valV_any, h]
  rfl
end
/-- keys that are ints, texts -/
def kN (n : Nat) : Key := .inl (n : Int)
theorem kN_inj : ∀ a b, kN a = kN b → a = b := fun a b h => by
  have := Sum.inl.inj h
  omega
def kS (x : Str) : Key := .inr x
theorem kS_inj : ∀ a b, kS a = kS b → a = b := fun a b h => Sum.inr.inj h
end Sb
namespace Sb
open PySem PySem.Spec PyProof.Rows L2
section
variable {α : Type} [DecidableEq α]
theorem eqvAll_map (f : α → PyData) (hf : ∀ x y, PyData.eqv (f x) (f y) = decide (x = y)) : ∀ l m : List α, PyData.eqvAll (l.map f) (m.map f) = decide (l = m)
  | [], [] => rfl
  | [], _ :: _ => by simp [PyData.eqvAll]
  | _ :: _, [] => by simp [PyData.eqvAll]
  | x :: l, y :: m => by
    simp only [List.map_cons, PyData.eqvAll, hf, eqvAll_map f hf l m, List.cons.injEq, Bool.decide_and]
end
theorem lay_map {α : Type} (f : α → PyData) (hf : ∀ x, (f x).canLay0 = true) : ∀ l : List α, PyData.canLayAll0 (l.map f) = true
  | [] => rfl
  | x :: l => by simp only [List.map_cons, PyData.canLayAll0, hf, lay_map f hf l, Bool.and_self]
theorem depth_map {α : Type} (f : α → PyData) (k : Nat) (hf : ∀ x, (f x).depth ≤ k) : ∀ l : List α, PyData.depthAll (l.map f) ≤ k
  | [] => Nat.zero_le _
  | x :: l => Nat.max_le.mpr ⟨hf x, depth_map f k hf l⟩
theorem shaped_by {d : PyData} {k : Nat} (h1 : d.canLay0 = true) (h2 : d.depth ≤ k) (h3 : k ≤ 64) : SeqAt.shaped d = true := by
  unfold SeqAt.shaped
  rw [h1, decide_eq_true (Nat.le_trans h2 h3)]
  rfl
theorem eq_nats (t u : List Nat) : PyData.eqvAll (t.map fun n : Nat => .int (n : Int)) (u.map fun n : Nat => .int (n : Int)) = decide (t = u) :=
  eqvAll_map _ (fun x y => by simp only [PyData.eqv]; rw [Bool.eq_iff_iff]; simp; omega) t u
theorem eq_T (t u : Trn) : PyData.eqv (eT t) (eT u) = decide (t = u) := by unfold eT; rw [PyData.eqv]; exact eq_nats t u
theorem lay_T (t : Trn) : (eT t).canLay0 = true := lay_map _ (fun _ => rfl) t
theorem dep_T (t : Trn) : (eT t).depth ≤ 1 := Nat.succ_le_succ (depth_map _ 0 (fun _ => Nat.le_refl _) t)
theorem shaped_T (t : Trn) : SeqAt.shaped (eT t) = true := shaped_by (lay_T t) (dep_T t) (by decide)
theorem eq_P (p q : Press) : PyData.eqv (eP p) (eP q) = decide (p = q) := by
  obtain ⟨a, b⟩ := p
  obtain ⟨c, d⟩ := q
  simp only [eP, PyData.eqv, PyData.eqvAll, Bool.and_true, Prod.mk.injEq, Bool.decide_and]
  rw [Bool.eq_iff_iff]
  simp
theorem lay_P {p : Press} (h : PyData.strOk p.1 = true) : (eP p).canLay0 = true := by
  simp only [eP, PyData.canLay0, PyData.canLayAll0, h, Bool.and_self]
theorem dep_P (p : Press) : (eP p).depth ≤ 1 := Nat.le_refl _
def OkR (r : Row) : Prop := ∀ p ∈ r, PyData.strOk p.1 = true
theorem eq_R (r s : Row) : PyData.eqv (eR r) (eR s) = decide (r = s) := by unfold eR; rw [PyData.eqv]; exact eqvAll_map _ eq_P r s
theorem lay_R : ∀ {r : Row}, OkR r → PyData.canLayAll0 (r.map eP) = true
  | [], _ => rfl
  | p :: r, h => by
    simp only [List.map_cons, PyData.canLayAll0, lay_P (h p (List.mem_cons_self ..)), lay_R (r := r) fun q m => h q (List.mem_cons_of_mem _ m), Bool.and_self]
theorem dep_R (r : Row) : (eR r).depth ≤ 2 := Nat.succ_le_succ (depth_map _ 1 dep_P r)
theorem shaped_R {r : Row} (h : OkR r) : SeqAt.shaped (eR r) = true := shaped_by (k := 2) (lay_R h) (dep_R r) (by decide)
theorem shaped_L (t : List Nat) : SeqAt.shaped (.list (t.map fun n : Nat => .int (n : Int))) = true := shaped_by (k := 1) (lay_map _ (fun _ => rfl) t) (Nat.succ_le_succ (depth_map _ 0 (fun _ => Nat.le_refl _) t)) (by decide)
theorem dp_L {K : PySem.W.Frag} {H : Hp} {a : Addr} {t : List Nat} (h : H a = some (.lst (vN t))) : Dp K H (.ref a) (.list (t.map fun n : Nat => .int (n : Int))) := .lst (SqL.of h) (Ims.dp _ _ (ims_nats t))
end Sb
namespace Sb
open PySem PySem.Spec PyProof.Rows L2
section
variable {prog : Program} {w : World} {A : Around} {E : Value → Shared → Prop} {s : Shared}
/-- sorted(x), whatever x is: what collecting x gives, in order -/
theorem sort_core {x : Value} {ltv : Value → Value → Bool} {ok : List Value → Prop} {Q : Value → Shared → Prop} (O : SrtO.Swo ltv)
    (hc : ∀ (R : List Value → Shared → Prop) (E' : Value → Shared → Prop), (∀ (vs : List Value) (h' : Heap) (tk : Nat), ok vs → (∀ b o, s.heap.get? b = some o → h'.get? b = some o) → R vs { s with heap := h', toks := tk }) → wpAny (model prog w) A.in1 (collect x) R E' s)
    (hz : ∀ vs, ok vs → vs.length ≤ sizeLine)
    (hS : ∀ (vs : List Value) (h₁ : Heap) (a : Addr) (tk : Nat), ok vs → 2 ≤ vs.length → h₁.get? a = some (seqObj "list" vs.toArray 0) → (∀ b o, s.heap.get? b = some o → b ≠ a ∧ h₁.get? b = some o) → SrtO.SortableO prog w A.in1.in1 { s with heap := h₁, toks := tk } a vs ltv)
    (h : ∀ (vs out : List Value) (h₁ h' : Heap) (tk : Nat) (n : Nat), ok vs → SrtO.Srtd ltv out → SrtO.Stb ltv out vs → (∀ b o, s.heap.get? b = some o → h₁.get? b = some o) → (∀ b o, h₁.get? b = some o → h'.get? b = some o) →
      h'.get? h₁.objs.size = some (seqObj "list" out.toArray n) → Q (.ref h₁.objs.size) { s with heap := h', toks := tk }) :
    wpAny (model prog w) A (call (.builtin "sorted") [x]) Q E s := by
  refine Calls.call_function_entry kind_sorted plain_sorted entry_sorted (args_sorted1 _) ?_
  unfold Builtin.«sorted»
  refine wpAny_bind (m := checkCount "sorted" 1 1 _) (wpAny_pure ?_)
  refine wpAny_bind (hc _ _ fun vs h1 tk hv hk => ?_)
  refine wpAny_bind (wpAny_newList ?_ (hz vs hv))
  have hoL : (h1.push (seqObj "list" vs.toArray 0)).get? h1.objs.size = some (seqObj "list" vs.toArray 0) := Heap.get?_push_size _ rfl
  have old : ∀ b o, s.heap.get? b = some o → b ≠ h1.objs.size ∧ (h1.push (seqObj "list" vs.toArray 0)).get? b = some o := fun b o e =>
    ⟨Nat.ne_of_lt (Heap.lt_size (hk b o e)), Heap.get?_push_of_some _ (hk b o e)⟩
  show wpAny _ _ _ _ _ { s with heap := h1.push (seqObj "list" vs.toArray 0), toks := tk }
  refine wpAny_bind (wpAny_holding (wpAny_call_entry slot_list_sort ⟨_, hoL, rfl⟩ entry_list_sort
    (SrtO.list_sort_ord (s := { s with heap := h1.push (seqObj "list" vs.toArray 0), toks := tk }) O hoL (hz vs hv) (fun h2 => hS vs _ _ tk hv h2 hoL old) fun out hs hb => ⟨_, rfl, ?_⟩) (args_list_sort _)))
  obtain ⟨n, hn⟩ := PyProof.Rows.sortedHeap_at (vs := vs) (out := out.toArray) hoL
  refine wpAny_pure ⟨_, rfl, h vs out h1 _ tk n hv hs hb hk (fun b o e => ?_) hn⟩
  have hb' : b < h1.objs.size := Heap.lt_size e
  rw [PyProof.Rows.sortedHeap_old (Nat.ne_of_lt hb') (by rw [size_push']; exact Nat.lt_succ_of_lt hb')]
  exact Heap.get?_push_of_some _ e

def sv : Value → Str
  | .str x _ => x
  | _ => ⟨#[]⟩
def ltS (a b : Str) : Bool := decide (a.cps.toList < b.cps.toList)
def ltSv (v u : Value) : Bool := ltS (sv v) (sv u)
theorem ltS_asym {a b : Str} (h : ltS a b = true) : ltS b a = false :=
  decide_eq_false (List.lt_asymm (of_decide_eq_true h))
theorem ltS_tr {a b c : Str} (h1 : ltS b a = false) (h2 : ltS c b = false) : ltS c a = false :=
  decide_eq_false (List.not_lt.mpr (List.le_trans (List.not_lt.mp (of_decide_eq_false h1)) (List.not_lt.mp (of_decide_eq_false h2))))
theorem ltS_anti {a b : Str} (h1 : ltS b a = false) (h2 : ltS a b = false) : a = b := by
  have e := List.le_antisymm (List.not_lt.mp (of_decide_eq_false h1)) (List.not_lt.mp (of_decide_eq_false h2))
  exact PyProof.Rows.ext_toList e
theorem swo_str : SrtO.Swo ltSv := ⟨fun _ _ h => ltS_asym h, fun _ _ _ h1 h2 => ltS_tr h1 h2⟩
theorem strs_mem : ∀ {vs : List Value} {ss : List Str}, StrsAre vs ss → ∀ v ∈ vs, ∃ x t, v = Value.str x t
  | _, _, .nil, v, h => absurd h (by simp)
  | _, _, .cons x t r, v, h => by
    rcases List.mem_cons.mp h with e | h
    · exact ⟨x, t, e⟩
    · exact strs_mem r v h
theorem strs_sv : ∀ {vs : List Value} {ss : List Str}, StrsAre vs ss → vs.map sv = ss
  | _, _, .nil => rfl
  | _, _, .cons x t r => congrArg (x :: ·) (strs_sv r)
theorem sv_strs : ∀ {vs : List Value}, (∀ v ∈ vs, ∃ x t, v = Value.str x t) → StrsAre vs (vs.map sv)
  | [], _ => .nil
  | v :: vs, h => by
    obtain ⟨x, t, e⟩ := h v List.mem_cons_self
    subst e
    exact .cons x t (sv_strs fun u hu => h u (List.mem_cons_of_mem _ hu))
theorem str_cmp {vs : List Value} {ss : List Str} (hI : StrsAre vs ss) : SrtO.Cmp prog w A s oneType' (fun p => p.1 ∈ vs) (SrtO.lt2 ltSv) := by
  intro p q hm hm'
  obtain ⟨a, t, e⟩ := strs_mem hI _ hm
  obtain ⟨b, u, e'⟩ := strs_mem hI _ hm'
  show wpAny (model prog w) A (keyLt' oneType' p.1 q.1) (fun r s' => s' = s ∧ r = ltSv p.1 q.1) (fun _ _ => False) s
  rw [e, e', keyLt'_oneType]
  exact oneLt_str ⟨rfl, rfl⟩
theorem strs_sortable {a : Addr} {vs : List Value} {ss : List Str} (hI : StrsAre vs ss) (h2 : 2 ≤ vs.length) : SrtO.SortableO prog w A s a vs ltSv := by
  intro h' _
  refine ⟨oneType', fun Q E hq => ?_, str_cmp hI⟩
  match vs, hI, h2 with
  | v1 :: v2 :: rest, hI, _ =>
    rw [keyKind_strs hI]
    exact wpAny_pure hq
  | [], _, h => exact absurd h (by decide)
  | [v], _, h => exact absurd h (by simp)
/-- none is less than one ahead of it -/
def UpS (l : List Str) : Prop := l.Pairwise fun a b => ltS b a = false
theorem strs_out {vs out : List Value} {ss : List Str} (hI : StrsAre vs ss) (hs : SrtO.Srtd ltSv out) (hb : SrtO.Stb ltSv out vs) : StrsAre out (out.map sv) ∧ (out.map sv).Perm ss ∧ UpS (out.map sv) := by
  refine ⟨sv_strs fun v hv => strs_mem hI v (hb.perm.mem_iff.mp hv), ?_, ?_⟩
  · have q := hb.perm.map sv
    rw [strs_sv hI] at q
    exact q
  · exact List.pairwise_map.mpr (hs.imp fun {x y} h => h)
end
section
variable {X : Cx}
/-- the end of a sort: the new list -/
theorem sort_end {pins : List (Addr × Obj)} {σ : L2.St} {H : Hp} {s : Shared} {Q : VK} {h1 h' : Heap} {tk n : Nat} {out : List Value} {ys : List V} (I : Inv X pins σ H s) (k1 : ∀ b o, s.heap.get? b = some o → h1.get? b = some o) (k2 : ∀ b o, h1.get? b = some o → h'.get? b = some o)
    (e : h'.get? h1.objs.size = some (seqObj "list" out.toArray n)) (hv : Vals ys out) (hz : ys.length ≤ sizeLine) (q : ∀ p, H p = none → Q (.ref p) (upd H p (.lst ys))) : EP X pins σ Q (.ref h1.objs.size) { s with heap := h', toks := tk } := by
  have I1 : Inv X pins σ H { s with heap := h1, toks := tk } := I.kept k1
  exact ⟨.ref h1.objs.size, upd H h1.objs.size (.lst ys), I1.laid (t' := tk) k2 (Nat.le_refl _) (show ObjOk X.prog X.w _ _ _ (.lst ys) from ⟨hz, out, n, hv, e⟩), rfl, q _ (I1.hok.fresh (Nat.le_refl _))⟩
/-- sorted(t), t a tuple of ints -/
def rSortT (K : PySem.W.Frag) : List V → Hp → VK → Prop := fun vs H Q => ∃ (a : Addr) (ns : List Int), vs = [V.ref a] ∧ SqT K H a (ns.map V.int) ∧
  ∀ (ns' : List Int) (p : Addr), ns'.Perm ns → ns'.Pairwise (· ≤ ·) → H p = none → Q (.ref p) (upd H p (.lst (ns'.map V.int)))
theorem cr_sortT : CallR X (.builtin "sorted") (rSortT X.K) := by
  intro pins s σ H vs us Q I r h
  obtain ⟨a, ns, rfl, hs, q⟩ := h
  obtain ⟨u, eu, rx⟩ := vals1 r
  subst eu
  cases rx
  obtain ⟨its, rv, ⟨o, ho, hc, m, hd⟩, hz⟩ := I.tuple hs
  have hi := rv.ints
  have hlz : its.length ≤ sizeLine := by rw [← rv.length]; exact hz
  refine sort_core (ok := fun vs => vs = its) SrtO.swo_int (fun R E' hR => wpAny_collect_seq a (.inr rfl) ho hc hd (fun h' hk => hR _ h' s.toks (by simp) hk) (by simpa using hlz)) (fun vs e => by rw [e]; exact hlz)
    (fun vs h₁ a' tk e h2 _ _ => by rw [e] at h2 ⊢; exact SrtO.ints_sortable hi h2) fun vs out h1 h' tk n e hs hb k1 k2 he => ?_
  subst e
  obtain ⟨g1, g2, g3⟩ := SrtO.ints_out hi hs hb
  refine sort_end I k1 k2 he (vals_of_ints g1) ?_ fun p hp => q _ p g2 g3 hp
  rw [List.length_map, g2.length_eq, ← List.length_map (f := V.int)]
  exact hz
/-- sorted(d), d a dict whose keys are texts, any number of them -/
def rSortD : List V → Hp → VK → Prop := fun vs H Q => ∃ (a : Addr) (kvs : List (Key × V)) (ks : List Str), vs = [V.ref a] ∧ Rd H a (.dK kvs) ∧ kvs.map (·.1) = ks.map Sum.inr ∧
  ∀ (ys : List Str) (p : Addr), ys.Perm ks → UpS ys → H p = none → Q (.ref p) (upd H p (.lst (ys.map V.str)))
theorem cr_sortD (hcalm : X.calm = true) : CallR X (.builtin "sorted") rSortD := by
  intro pins s σ H xs us Q I r q
  obtain ⟨a, kvs, ks, ex, hd, hks, q⟩ := q
  subst ex
  obtain ⟨u, eu, rx⟩ := vals1 r
  subst eu
  cases rx
  obtain ⟨z, lo, vs, rel, dd⟩ := dk_rd I.hok hd
  obtain ⟨ep, hat⟩ := dd.dictAt
  have hkeys : vs.map (·.1) = ks.map Sum.inr := rel.keys.symm.trans hks
  have hl : vs.length = ks.length := by
    have e := congrArg List.length hkeys
    rw [List.length_map, List.length_map] at e
    exact e
  have hkz : ks.length ≤ sizeLine := by rw [← hl, ← rel.length]; exact z
  refine sort_core (ok := fun us => StrsAre us ks) swo_str (fun R E' hR => ?_) (fun us e => by rw [StrsAre.length e]; exact hkz) (fun us h₁ a' tk e h2 _ _ => strs_sortable e h2) fun us out h1 h' tk n e hs hb k1 k2 he => ?_
  · refine PySem.W.kdu_collect (A := X.A.in1) (PySem.W.kdl_dict (knd := mixKind X.prog X.w) (kvs := vs) (ep := ep) lo) (I.ok.hd hcalm) hat (by rw [hl]; exact hkz) fun h' tk acc hk hacc => ?_
    refine hR acc.toList h' tk ?_ hk
    have hal : acc.toList.length = ks.length := by rw [Array.length_toList, hacc.1, hl]
    refine strs_at hal fun j v e => ?_
    obtain ⟨k, x, e1, e2⟩ := hacc.2 j v (by rw [← Array.getElem?_toList]; exact e)
    have e3 : (vs.map (·.1))[j]? = some k := by rw [List.getElem?_map, e1]; rfl
    rw [hkeys, List.getElem?_map] at e3
    cases e4 : ks[j]? with
    | none => rw [e4] at e3; cases e3
    | some y =>
      rw [e4] at e3
      have e5 : Sum.inr y = k := Option.some.inj e3
      subst e5
      obtain ⟨t, ev⟩ := Value.isStrOf_shape (x := y) (v := v) e2
      exact ⟨y, t, rfl, ev⟩
  · obtain ⟨g1, g2, g3⟩ := strs_out e hs hb
    refine sort_end I k1 k2 he (vals_of_strs g1) ?_ fun p hp => q _ p g2 g3 hp
    rw [List.length_map, g2.length_eq]
    exact hkz
/-- sorted(l), l a list of texts, any number of them -/
def rSortLS (K : PySem.W.Frag) : List V → Hp → VK → Prop := fun vs H Q => ∃ (a : Addr) (ss : List Str), vs = [V.ref a] ∧ SqL K H a (ss.map V.str) ∧
  ∀ (ys : List Str) (p : Addr), ys.Perm ss → UpS ys → H p = none → Q (.ref p) (upd H p (.lst (ys.map V.str)))
theorem cr_sortLS : CallR X (.builtin "sorted") (rSortLS X.K) := by
  intro pins s σ H vs us Q I r h
  obtain ⟨a, ss, rfl, hs, q⟩ := h
  obtain ⟨u, eu, rx⟩ := vals1 r
  subst eu
  cases rx
  obtain ⟨its, rv, ⟨o, m, ho, hc, _, hd⟩, hz⟩ := I.list hs
  have hi := rv.strs
  have hlz : its.length ≤ sizeLine := by rw [← rv.length]; exact hz
  refine sort_core (ok := fun vs => vs = its) swo_str (fun R E' hR => wpAny_collect_seq a (.inl rfl) ho hc hd (fun h' hk => hR _ h' s.toks (by simp) hk) (by simpa using hlz)) (fun vs e => by rw [e]; exact hlz)
    (fun vs h₁ a' tk e h2 _ _ => by rw [e] at h2 ⊢; exact strs_sortable hi h2) fun vs out h1 h' tk n e hs hb k1 k2 he => ?_
  subst e
  obtain ⟨g1, g2, g3⟩ := strs_out hi hs hb
  refine sort_end I k1 k2 he (vals_of_strs g1) ?_ fun p hp => q _ p g2 g3 hp
  rw [List.length_map, g2.length_eq, ← List.length_map (f := V.str)]
  exact hz
end
end Sb
namespace Sb
open PySem PySem.Spec PyProof.Rows L2
/-- a pair of a text and any value, as an object -/
def NmPair (h : Heap) (v : Value) (x : Str) : Prop := ∃ a o t y n, v = .ref a ∧ h.get? a = some o ∧ o.cls = .type "tuple" ∧ o.data = .seq #[.str x t, y] n
theorem NmPair.keeps {h h' : Heap} {v : Value} {x : Str} (p : NmPair h v x) (k : ∀ b o, h.get? b = some o → o.cls = .type "tuple" → h'.get? b = some o) : NmPair h' v x := by
  obtain ⟨a, o, t, y, n, e, ho, hc, hd⟩ := p
  exact ⟨a, o, t, y, n, e, k _ _ ho hc, hc, hd⟩
theorem nm_firsts {h : Heap} : ∀ {vs : List Value}, (∀ v ∈ vs, ∃ x, NmPair h v x) → ∃ fs : List Value, PySem.W.KatTups h vs fs ∧ fs.length = vs.length ∧ ∀ f ∈ fs, ∃ x t, f = Value.str x t
  | [], _ => ⟨[], PySem.W.KatTups.nil, rfl, fun _ hm => by simp at hm⟩
  | v :: vs, hp => by
    obtain ⟨fs, h1, h2, h3⟩ := nm_firsts (vs := vs) fun v' hm => hp v' (List.mem_cons_of_mem _ hm)
    obtain ⟨x, a, o, t, y, n, e, ho, hc, hd⟩ := hp v (List.mem_cons_self ..)
    subst e
    refine ⟨.str x t :: fs, PySem.W.KatTups.cons ho hc hd rfl h1, by rw [List.length_cons, List.length_cons, h2], fun f hm => ?_⟩
    rcases List.mem_cons.mp hm with rfl | hm
    · exact ⟨x, t, rfl⟩
    · exact h3 f hm
section
variable {prog : Program} {w : World} {A : Around} {s : Shared}
theorem nm_cmp {vs : List Value} {k : Value → Str} (hp : ∀ v ∈ vs, NmPair s.heap v (k v)) (un : ∀ v ∈ vs, ∀ u ∈ vs, k v = k u → v = u) :
    SrtO.Cmp prog w A s (tuples' true) (fun p => p.1 ∈ vs) (SrtO.lt2 fun v u => ltS (k v) (k u)) := by
  intro p q hm hm'
  have h1 := hp _ hm
  have h2 := hp _ hm'
  have u0 := un _ hm _ hm'
  show wpAny (model prog w) A (keyLt' (tuples' true) p.1 q.1) (fun r s' => s' = s ∧ r = ltS (k p.1) (k q.1)) (fun _ _ => False) s
  generalize k p.1 = x at h1 u0 ⊢
  generalize k q.1 = x' at h2 u0 ⊢
  obtain ⟨a, o, t, y, n, e, ho, hc, hd⟩ := h1
  obtain ⟨a', o', t', y', n', e', ho', hc', hd'⟩ := h2
  rw [e, e'] at u0 ⊢
  refine PySem.W.kat_lt ho hd ho' hd' ?_
  show PySem.W.KatLex prog w A true (decide (2 < 2)) _ [(.str x t, .str x' t'), (y, y')] 0 s
  refine PySem.W.kat_cons (wpAny_eqBool_str ?_)
  refine PySem.W.kat_go (fun e1 => ?_) (fun e1 => ?_)
  · have ex : x = x' := of_decide_eq_true e1
    have ea : a = a' := by injection u0 ex
    subst ea
    rw [ho] at ho'
    cases ho'
    rw [hd] at hd'
    injection hd' with g1 g2
    have gy : y = y' := by injection g1 with g; injection g with _ g; injection g
    subst gy
    refine PySem.W.kat_yes (PySem.W.kat_cons (SeqAt.EqAt.same y prog w _ _ ?_))
    refine PySem.W.kat_yes (PySem.W.kat_nil ⟨rfl, ?_⟩)
    show decide (2 < 2) = ltS x x'
    rw [ex]
    exact (swo_str.refl (.str x' 0)).symm
  · exact PySem.W.kat_no (oneLt_str ⟨rfl, rfl⟩)
theorem nm_sortable {a : Addr} {vs : List Value} {k : Value → Str} (h0 : 0 < vs.length) (hp : ∀ v ∈ vs, NmPair s.heap v (k v)) (un : ∀ v ∈ vs, ∀ u ∈ vs, k v = k u → v = u) (ha : ∀ o, s.heap.get? a = some o → o.cls ≠ .type "tuple") :
    SrtO.SortableO prog w A s a vs fun v u => ltS (k v) (k u) := by
  intro h' keep
  have hp' : ∀ v ∈ vs, NmPair h' v (k v) := fun v hm => (hp v hm).keeps fun b o e c => keep b o (fun z => by subst z; exact ha o e c) e
  obtain ⟨fs, h1, h2, h3⟩ := nm_firsts fun v hm => ⟨_, hp' v hm⟩
  refine ⟨tuples' true, fun Q E hq => ?_, nm_cmp hp' un⟩
  refine PySem.W.kat_kind (T := .type "str") h1 (by omega) (fun f hm => ?_) (by rfl) ?_
  · obtain ⟨x, t, rfl⟩ := h3 f hm
    exact PySem.W.Looks.now
  · have e : (Value.type "str" != Value.type "tuple") = true := by first | decide +kernel | rfl | decide
    rw [e]
    exact hq
end
section
variable {X : Cx}
/-- sorted(t), t a tuple of pairs whose first parts are unlike texts: the same pairs, in some order -/
def rSortB (K : PySem.W.Frag) : List V → Hp → VK → Prop := fun vs H Q => ∃ (a : Addr) (xs : List V) (k : V → Str), vs = [V.ref a] ∧ SqT K H a xs ∧ (∀ x ∈ xs, ∃ t y, x = V.ref t ∧ H t = some (.tup [.str (k x), y])) ∧ (∀ x ∈ xs, ∀ y ∈ xs, k x = k y → x = y) ∧
  ∀ (ys : List V) (p : Addr), ys.Perm xs → H p = none → Q (.ref p) (upd H p (.lst ys))
theorem cr_sortB : CallR X (.builtin "sorted") (rSortB X.K) := by
  intro pins s σ H vs us Q I r h
  obtain ⟨a, xs, k, rfl, hs, hx, un, q⟩ := h
  obtain ⟨u, eu, rx⟩ := vals1 r
  subst eu
  cases rx
  obtain ⟨its, rv, ⟨o, ho, hc, m, hd⟩, hz⟩ := I.tuple hs
  obtain ⟨e1, e2⟩ := refs_back rv fun x m => by
    obtain ⟨t, y, e, _⟩ := hx x m
    exact ⟨t, e⟩
  have hp : ∀ v ∈ its, NmPair s.heap v (k (backV v)) := fun v hv => by
    obtain ⟨t, rfl⟩ := e2 v hv
    have hm : V.ref t ∈ xs := by rw [e1]; exact List.mem_map.mpr ⟨_, hv, rfl⟩
    obtain ⟨t', y, e, ht⟩ := hx _ hm
    cases e
    obtain ⟨_, its2, r2, o, ho, hc, n, hd⟩ := I.hok _ _ ht
    obtain ⟨u1, u2, rfl, ri, rj⟩ := vals2 r2
    obtain ⟨t1, rfl⟩ := ri
    exact ⟨t, o, t1, u2, n, rfl, ho, hc, hd⟩
  have hun : ∀ v ∈ its, ∀ u ∈ its, k (backV v) = k (backV u) → v = u := fun v hv u hu e => by
    obtain ⟨t, rfl⟩ := e2 v hv
    obtain ⟨t', rfl⟩ := e2 u hu
    have z := un (.ref t) (by rw [e1]; exact List.mem_map.mpr ⟨_, hv, rfl⟩) (.ref t') (by rw [e1]; exact List.mem_map.mpr ⟨_, hu, rfl⟩) e
    cases z
    rfl
  have hlz : its.length ≤ sizeLine := by rw [← rv.length]; exact hz
  have O : SrtO.Swo fun v u : Value => ltS (k (backV v)) (k (backV u)) := ⟨fun _ _ h => ltS_asym h, fun _ _ _ h1 h2 => ltS_tr h1 h2⟩
  refine sort_core (ok := fun vs => vs = its) O (fun R E' hR => wpAny_collect_seq a (.inr rfl) ho hc hd (fun h' hk => hR _ h' s.toks (by simp) hk) (by simpa using hlz)) (fun vs e => by rw [e]; exact hlz)
    (fun vs h₁ a' tk e h2 ha kk => by
      rw [e] at h2 ⊢
      refine nm_sortable (s := { s with heap := h₁, toks := tk }) (by omega) (fun v hm => (hp v hm).keeps fun b o e _ => (kk b o e).2) hun fun o e => ?_
      have e' : some o = some (seqObj "list" vs.toArray 0) := e.symm.trans ha
      cases e'
      intro c
      exact absurd (Value.type.inj c) (by decide)) fun vs out h1 h' tk n e hs hb k1 k2 he => ?_
  subst e
  have hv : Vals (out.map backV) out := vals_back fun u hu => e2 u (hb.perm.mem_iff.mp hu)
  have hpm : (out.map backV).Perm xs := by
    rw [e1]
    exact hb.perm.map backV
  exact sort_end I k1 k2 he hv (by rw [hpm.length_eq]; exact hz) fun p hn => q _ p hpm hn
/-- list(text): its signs -/
def signs (z : Str) : List V := z.cps.toList.map fun c => V.str ⟨#[c]⟩
def rListS : List V → Hp → VK → Prop := fun vs H Q => ∃ z : Str, vs = [V.str z] ∧ z.cps.size ≤ sizeLine ∧ ∀ p, H p = none → Q (.ref p) (upd H p (.lst (signs z)))
theorem cr_listS (hcalm : X.calm = true) : CallR X (.type "list") rListS := by
  intro pins s σ H vs us Q I r h
  obtain ⟨z, rfl, hz, q⟩ := h
  obtain ⟨u, eu, rx⟩ := vals1 r
  subst eu
  obtain ⟨t, rfl⟩ := rx
  refine call_list_str (I.ok.hd hcalm) z t (fun h' tk acc c' hk e hi => ?_) hz
  have hl : (signs z).length = acc.toList.length := by
    unfold signs
    rw [List.length_map, Array.length_toList, Array.length_toList, hi.1]
  have hv : Vals (signs z) acc.toList := by
    refine vals_of_at hl fun j x u e1 e2 => ?_
    unfold signs at e1
    rw [List.getElem?_map, Array.getElem?_toList] at e1
    obtain ⟨c, tk', e3, e4⟩ := hi.2 j u (by rw [← Array.getElem?_toList]; exact e2)
    rw [e3] at e1
    cases e1
    exact ⟨tk', e4⟩
  refine ⟨.ref s.heap.objs.size, upd H s.heap.objs.size (.lst (signs z)), I.laid (t' := tk) hk (Nat.le_refl _) (show ObjOk X.prog X.w _ _ _ (.lst (signs z)) from ⟨?_, acc.toList, c', hv, by rw [Array.toArray_toList]; exact e⟩), rfl, q _ (I.hok.fresh (Nat.le_refl _))⟩
  unfold signs
  rw [List.length_map, Array.length_toList]
  exact hz
end
end Sb
namespace Sb
open PySem PySem.Spec PyProof.Rows L2
section
variable {prog : Program} {w : World} {A : Around} {E : Value → Shared → Prop} {s : Shared}
theorem meets_enum1 {v : Value} {o : Obj} {H : Heap → Prop} (B : Begins v o H) :
    Meets (Builtin.«enumerate.__new__» ⟨[.type "enumerate", v], []⟩) (fun _ R s => H s.heap ∧
      R (.ok (.ret (.ref (s.heap.push o).objs.size))) { s with heap := (s.heap.push o).push { cls := .type "enumerate", data := .fields #[.none, .bool false, .ref s.heap.objs.size, rawInt 0, .none, .none] } }) :=
  .of_wp fun prog w A R s h => by
    obtain ⟨hp, g, d, tk, os⟩ := s
    obtain ⟨h1, h⟩ := h
    have hsub := sub_enumerate
    have q1 : ∀ {A' : Around} {E : Value → Shared → Prop} {Q : Value → Shared → Prop}, Q (.ref hp.objs.size) ⟨hp.push o, g, d, tk, os⟩ → wpAny (model prog w) A' (pyIter v) Q E ⟨hp, g, d, tk, os⟩ := fun q =>
      B.iter prog w _ _ ⟨hp, g, d, tk, os⟩ _ h1 q
    wp_walk using q1
    refine wpAny_stack_any fun st => wpAny_pure ?_
    split
    · rename_i c _ _ _ _ _
      cases (c == Value.type "enumerate") <;>
      · wp_walk using q1
        exact ⟨_, rfl, h⟩
    · wp_walk using q1
      exact ⟨_, rfl, h⟩
theorem enum1_begins {v : Value} {o : Obj} {H : Heap → Prop} {Q : Value → Shared → Prop} (B : Begins v o H) (h1 : H s.heap)
    (h : ∀ h', IsEnum h' (s.heap.objs.size + 1) s.heap.objs.size 0 .none → h'.get? s.heap.objs.size = some o → (∀ b o, s.heap.get? b = some o → h'.get? b = some o) → Q (.ref (s.heap.objs.size + 1)) { s with heap := h' }) :
    wpAny (model prog w) A (call (.type "enumerate") [v]) Q E s := by
  refine callType_new F.called_enumerate (by decide) (F.typeCall_enumerate_1 _) (F.newCall_enumerate_1 _) (fun obj => F.args_object_init_2 obj _) F.entry_enumerate_new (meets_enum1 B) ⟨h1, ?_⟩
  have hz : (s.heap.push o).objs.size = s.heap.objs.size + 1 := Heap.size_push ..
  show _ ∧ _
  rw [hz]
  have he : IsEnum ((s.heap.push o).push { cls := .type "enumerate", data := .fields #[.none, .bool false, .ref s.heap.objs.size, rawInt 0, .none, .none] }) (s.heap.objs.size + 1) s.heap.objs.size 0 .none := by
    have q := Heap.get?_push_size (s.heap.push o) (o := { cls := .type "enumerate", data := .fields #[.none, .bool false, .ref s.heap.objs.size, rawInt 0, .none, .none] }) rfl
    rw [hz] at q
    exact q
  exact ⟨⟨_, he, rfl⟩, h _ he (Heap.get?_push_of_some _ (Heap.get?_push_size _ B.free)) fun b o x => Heap.get?_push_of_some _ (Heap.get?_push_of_some _ x)⟩
end
/-- the tuple at a, each item in a new pair with its number -/
def Itet (K : PySem.W.Frag) (a : Addr) : It :=
  ⟨fun i H => ∃ (xs : List V) (x : V), SqT K H a xs ∧ xs[i]? = some x, fun i H v H' => ∃ T x, v = .ref T ∧ H T = none ∧ H' = upd H T (.tup [.int (i : Nat), x]) ∧ ∀ xs, SqT K H a xs → xs[i]? = some x, fun i H => ∃ xs : List V, SqT K H a xs ∧ xs.length = i⟩
theorem turn_enumT {P : Program} {w : World} {K : PySem.W.Frag} {elts : List Expr} {kk : Nat} {tpos : Pos} (a e it : Addr) (hei : e ≠ it) (hea : e ≠ a) (hai : a ≠ it) :
    Turn P w K (.Tuple elts kk tpos) (Itet K a) [e, it] e (fun i h => (∃ old, IsEnum h e it ((i : Nat) : Int) old) ∧ h.IsTupleIter it a i) where
  mem := by simp
  obj := fun i h st b hb => by
    obtain ⟨⟨old, he⟩, ⟨o, ho, hc, hd⟩⟩ := st
    rcases (show b = e ∨ b = it by simpa using hb) with z | z
    · rw [z]
      exact ⟨_, he, fun v q => nomatch q⟩
    · rw [z]
      exact ⟨o, ho, fun v q => by rw [hd] at q; cases q⟩
  keep := fun i h h' st k => by
    obtain ⟨⟨old, he⟩, o, ho, r⟩ := st
    exact ⟨⟨old, k e (by simp) _ he⟩, o, k it (by simp) _ ho, r⟩
  item := by
    intro X hP hw hK hc i pins s σ H E I hf st hg
    subst hP hw hK
    obtain ⟨⟨old, he⟩, hit⟩ := st
    obtain ⟨xs, x, hq, hx⟩ := hg
    obtain ⟨its, rv, p, hz⟩ := I.tuple hq
    obtain ⟨u, hu, ru⟩ := rv.get hx
    have hel : e < s.heap.objs.size := Heap.lt_size he
    have hil : it < s.heap.objs.size := by
      obtain ⟨_, q, _⟩ := hit
      exact Heap.lt_size q
    have hlt : i < its.toArray.size := by
      rw [List.size_toArray]
      exact (List.getElem?_eq_some_iff.mp hu).1
    refine wpAny_pyNext_enum_itemD (Draws.tuple (A := X.A.in1) (I.ok.hd hc) it a hai its.toArray) he ⟨hit, p⟩ hlt hei (by simp [hei, hea]) fun y h' tk hy ho hit' hT hsz hk => ?_
    have ey : y = u := by
      have q : its.toArray[i]? = some u := by simpa using hu
      rw [q] at hy
      exact (Option.some.inj hy).symm
    subst ey
    refine ⟨_, rfl, wpAny_letOwnedTupleGo_enum (s := { s with heap := h', toks := tk + 1 }) ho fun h'' he' sb => ?_⟩
    have hT2 : h''.get? s.heap.objs.size = some { cls := .type "tuple", data := .seq #[.int i tk, y] } := (sb.2 _ (Nat.ne_of_gt hel)).trans hT
    have new : ObjOk X.prog X.w (upd H s.heap.objs.size (.tup [.int (i : Nat), x])) h'' s.heap.objs.size (.tup [.int (i : Nat), x]) :=
      ⟨by show 2 ≤ sizeLine; decide, [.int i tk, y], .cons ⟨_, rfl⟩ (.cons ru .nil), ⟨_, hT2, rfl, _, rfl⟩⟩
    have I1 : Inv X pins σ (upd H s.heap.objs.size (.tup [.int (i : Nat), x])) { s with heap := h'', toks := tk + 1 } := by
      refine I.turnedNew (ch := [e, it]) (fun b ob hb q => ?_) hf (Nat.le_refl _) new
      have b1 : b ≠ e := fun z => hb (by simp [z])
      exact (sb.2 b b1).trans (hk b ob b1 (fun z => hb (by simp [z])) q)
    refine ⟨.ref s.heap.objs.size, _, I1, rfl, ⟨_, x, rfl, I.hok.fresh (Nat.le_refl _), rfl, fun ys hy => by rw [I.tuple_inj hy hq]; exact hx⟩, ⟨⟨y, ?_⟩, ?_⟩, fun b hb => ?_⟩
    · rw [show ((i + 1 : Nat) : Int) = (i : Int) + 1 by omega]
      exact he'
    · obtain ⟨o2, q1, q2⟩ := hit'.1
      exact ⟨o2, (sb.2 it (Ne.symm hei)).trans q1, q2⟩
    · have hb' : b < s.heap.objs.size := by
        rcases (show b = e ∨ b = it by simpa using hb) with z | z
        · rw [z]; exact hel
        · rw [z]; exact hil
      rw [upd_ne (Nat.ne_of_lt hb')]
      exact (hf b hb).1
  done := by
    intro X hP hw hK hc i pins s σ H E I hf st hg
    subst hP hw hK
    obtain ⟨⟨old, he⟩, hit⟩ := st
    obtain ⟨xs, hq, hx⟩ := hg
    obtain ⟨its, rv, p, hz⟩ := I.tuple hq
    obtain ⟨f0, f1, f2, f3, f4, f5⟩ := hf it (by simp)
    have hn : i = its.toArray.size := by rw [List.size_toArray, ← rv.length, hx]
    subst hn
    exact wpAny_pyNext_enum_endD (Draws.tuple (A := X.A.in1) (I.ok.hd hc) it a hai its.toArray) he ⟨hit, p⟩ fun h' eb => ⟨rfl, I.turned (t' := s.toks) (fun b o hb q => eb b o hb q) f0 f1 f3 f4 f5⟩
  self := fun A i s Q E st h => by
    obtain ⟨⟨_, he⟩, _⟩ := st
    exact wpAny_pyIter_enum he h
def iEnumT (K : PySem.W.Frag) (ta : TA) : TI := fun σ H R => ta σ H fun vs H1 => ∃ a xs, vs = [.ref a] ∧ SqT K H1 a xs ∧ R (Itet K a) H1
theorem pi_enumT {X : Cx} {e : Expr} {ta : TA} {p pos tpos : Pos} {elts : List Expr} {kk : Nat} (hg : Gl X "enumerate") (hm : X.mg "enumerate" = none) (ha : PA X [e] ta) (hs : starEach [e] X.env = [(false, eval e X.env)] := by rfl) :
    PI X (.Tuple elts kk tpos) (.Call (.Name "enumerate" p) [e] [] pos) (iEnumT X.K ta) := by
  refine ⟨fun pins s σ H R I h => ?_⟩
  refine Call_ (ld_blt I hg hm boot_enumerate (PyProof.Rows.callWith_type1 (thn (ha.run pos pins s σ H _ I h) fun us s1 ⟨vs, H1, I1, r1, q1⟩ => ?_) hs rfl))
  obtain ⟨a, xs, ex, hq, q⟩ := q1
  subst ex
  obtain ⟨u, eu, rx⟩ := vals1 r1
  subst eu
  cases rx
  obtain ⟨its, rv, p', hz⟩ := I1.tuple hq
  have hal : a < s1.heap.objs.size := by
    obtain ⟨_, e, _⟩ := p'
    exact Heap.lt_size e
  refine enum1_begins (begins_tuple a its.toArray) p' fun h' he hit hk => wpAny_pyIter_enum he ?_
  have I2 : Inv X pins σ H1 { s1 with heap := h' } := I1.kept (t' := s1.toks) hk
  refine ⟨s1.heap.objs.size + 1, [s1.heap.objs.size + 1, s1.heap.objs.size], _, _, H1, rfl, I2, turn_enumT a (s1.heap.objs.size + 1) s1.heap.objs.size (Nat.succ_ne_self _) (Nat.ne_of_gt (Nat.lt_succ_of_lt hal)) (Nat.ne_of_lt hal), ⟨⟨.none, he⟩, _, hit, rfl, rfl⟩, fun b hb => ?_, q⟩
  have hle : s1.heap.objs.size ≤ b := by
    rcases (show b = s1.heap.objs.size + 1 ∨ b = s1.heap.objs.size by simpa using hb) with z | z
    · rw [z]; exact Nat.le_add_right _ _
    · rw [z]; exact Nat.le_refl _
  exact I1.fpOk hle (I1.hok.fresh hle)
theorem walk_enumT {K : PySem.W.Frag} {a : Addr} {xs : List V} : Walk (Itet K a) xs.length (fun H => SqT K H a xs) (YPair (fun i => some (.int (i : Nat))) (fun i => xs[i]?)) where
  goes := fun i H hi h => ⟨xs, xs[i], h, by simp [hi]⟩
  stops := fun H h => ⟨xs, h, rfl⟩
  yields := fun i H x H' hi h ⟨T, y, e1, e2, e3, e4⟩ => ⟨T, _, y, e1, e2, e3, rfl, e4 xs h⟩
section
variable {prog : Program} {w : World} {A : Around} {E : Value → Shared → Prop} {s : Shared}
theorem places_rev (n : Nat) : Builtin.Slice.slicePlaces ((n : Int) - 1) (-1) (-1) = n := by
  unfold Builtin.Slice.slicePlaces
  rw [if_neg (by decide)]
  by_cases h : n = 0
  · subst h
    rfl
  · rw [if_pos (by omega)]
    have e : ((n : Int) - 1 - -1 - 1) / (- -1) + 1 = (n : Int) := by
      rw [show (- -1 : Int) = 1 by decide, Int.ediv_one]
      omega
    rw [e]
    rfl
theorem fm_congr {α β : Type} {f g : α → Option β} : ∀ {l : List α}, (∀ x ∈ l, f x = g x) → l.filterMap f = l.filterMap g
  | [], _ => rfl
  | x :: l, h => by
    rw [List.filterMap_cons, List.filterMap_cons, h x List.mem_cons_self, fm_congr fun y hy => h y (List.mem_cons_of_mem _ hy)]
theorem pick_rev (xs : Array Value) : ((List.range xs.size).filterMap fun (m : Nat) => xs[(((xs.size : Int) - 1) + (m : Int) * (-1)).toNat]?).toArray = xs.toList.reverse.toArray := by
  have e : (List.range xs.size).filterMap (fun (m : Nat) => xs[(((xs.size : Int) - 1) + (m : Int) * (-1)).toNat]?) = ((List.range xs.size).map fun k => xs.size - 1 - k).filterMap (xs[·]?) := by
    rw [List.filterMap_map]
    refine fm_congr fun m hm => ?_
    have := List.mem_range.mp hm
    show xs[_]? = xs[_]?
    rw [show (((xs.size : Int) - 1) + (m : Int) * (-1)).toNat = xs.size - 1 - m by omega]
  rw [e, PySem.W.krv_range, List.filterMap_reverse, PySem.W.krv_all]
theorem getItem_tuple_rev {t sl : Addr} {items : Array Value} {vs : Value} {Q : Value → Shared → Prop} (ht : IsTup s.heap t items) (hs : s.heap.IsSliceOf sl .none .none vs) (ps : IsPart vs (some (-1)))
    (h : Q (.ref s.heap.objs.size) { s with heap := s.heap.push { cls := .type "tuple", data := .seq items.toList.reverse.toArray } }) (hsz : items.size ≤ sizeLine) : wpAny (model prog w) A (getItem (.ref t) (.ref sl)) Q E s := by
  have hok : sizeOk (.seq items.toList.reverse.toArray) := by
    show items.toList.reverse.toArray.size ≤ sizeLine
    rw [List.size_toArray, List.length_reverse, Array.length_toList]
    exact hsz
  obtain ⟨os, hos, hcs, hds⟩ := id hs
  have hTs : s.TypeIs (.ref sl) "slice" := ⟨os, hos, hcs⟩
  unfold getItem
  try with_reducible refine wpAny_holding ?_
  first | refine wpAny_bind (wpAny_pure ?_) | skip
  refine wpAny_bind (wpAny_sequenceKey ht.typeIs (by decide) ?_)
  refine wpAny_bind (wpAny_callSpecial?_slot (name := Str.ofString "__getitem__") ht.typeIs PyProof.Rows.slot_tuple_getitem
    (wpAny_call_entry PyProof.Rows.slot_tuple_getitem ht.typeIs entry_tuple_getitem ?_ (args_tuple_getitem _ _)))
  show wpAny _ _ (Builtin.Tuple.tupleItemsOf (.ref t) >>= _) _ _ s
  refine wpAny_bind (tupleItemsOf_ ht ?_)
  refine wpAny_bind (wpAny_typeOf hTs ?_)
  rw [if_pos (by decide)]
  refine wpAny_bind ?_
  unfold Builtin.Slice.sliceApplied Builtin.Slice.sliceFields
  refine wpAny_bind (wpAny_bind (wpAny_field hos hds (x := .none) rfl (wpAny_bind (wpAny_field hos hds (x := .none) rfl (wpAny_bind (wpAny_field hos hds (x := vs) rfl (wpAny_pure ?_)))))))
  refine wpAny_bind (HT.slicePart_ ps ?_)
  show wpAny _ _ (if ((-1 : Int) == 0) = true then _ else _) _ _ s
  rw [if_neg (by decide)]
  refine wpAny_bind (HT.slicePart_ .none (wpAny_bind (HT.slicePart_ .none (wpAny_bind (wpAny_pure ?_)))))
  show wpAny _ _ (pure ((items.size : Int) - 1, (-1 : Int), Builtin.Slice.slicePlaces ((items.size : Int) - 1) (-1) (-1))) _ _ s
  rw [places_rev]
  refine wpAny_pure ?_
  show wpAny _ _ (if ((items.size : Int) - 1 == 0 && (-1 : Int) == 1 && items.size == items.size) = true then _ else _) _ _ s
  rw [if_neg (by simp), pick_rev]
  first
    | exact wpAny_bind (m := Builtin.Tuple.tupleExact _) (wpAny_newObj_type (wpAny_pure ⟨_, rfl, wpAny_pure h⟩) hok)
    | exact wpAny_bind (wpAny_bind (m := Builtin.Tuple.tupleExact _) (wpAny_newObj_type (wpAny_pure ⟨_, rfl, wpAny_pure h⟩) hok))
    | exact wpAny_bind (wpAny_bind (m := Builtin.Tuple.tupleExact _) (wpAny_newObj_type (wpAny_pure (wpAny_pure ⟨_, rfl, wpAny_pure h⟩)) hok))
end
def tRevT (K : PySem.W.Frag) (te : TE) : TE := fun σ H Q => te σ H fun x H1 => ∃ a xs, x = .ref a ∧ SqT K H1 a xs ∧ ∀ p, H1 p = none → Q (.ref p) (upd H1 p (.tup xs.reverse))
theorem pe_revT {X : Cx} {e : Expr} {te : TE} {k : Nat} {p1 p2 p3 pos : Pos} (he : PE X e te) : PE X (.Subscript e (.Slice none none (some (.UnaryOp .USub (.Constant (.int 1) k p1) p2)) p3) pos) (tRevT X.K te) := by
  refine ⟨fun pins s σ H Q I h => ?_⟩
  refine Subscript_ (thn (he.run pins s σ H _ I h) fun v s1 ⟨x, H1, I1, r1, a, xs, ex, hx, q⟩ => ?_)
  subst ex
  cases r1
  have hst : PO X (some (.UnaryOp .USub (.Constant (.int 1) k p1) p2)) (tPart (tUn (rU fun i => .int (-i)) (tC (.int 1)))) := po_some (pe_un un_neg pe_int)
  refine wpAny_Slice (thn (po_none.run pins s1 σ H1 (fun o H2 => o = none ∧ H2 = H1) I1 ⟨rfl, rfl⟩) fun vl s2 ⟨l, H2, I2, pl, el, e2⟩ => ?_)
  subst el e2
  refine thn (po_none.run pins s2 σ H2 (fun o H3 => o = none ∧ H3 = H2) I2 ⟨rfl, rfl⟩) fun vu s3 ⟨u, H3, I3, pu, eu, e3⟩ => ?_
  subst eu e3
  refine thn (hst.run pins s3 σ H3 (fun o H4 => o = some (-1) ∧ H4 = H3) I3 ⟨1, rfl, -1, rfl, rfl, rfl⟩) fun vs s4 ⟨o, H4, I4, ps, eo, e4⟩ => ?_
  subst eo e4
  have I5 : Inv X pins σ H4 { s4 with heap := s4.heap.push { cls := .type "slice", data := .fields #[vl, vu, vs] } } := I4.kept (t' := s4.toks) fun b ob q => Heap.get?_push_of_some _ q
  obtain ⟨its, r, ht, hz⟩ := I5.tuple hx
  have hlen := r.length
  cases pl
  cases pu
  show wpAny (model X.prog X.w) X.A (subscriptTail e (.Slice none none (some (.UnaryOp .USub (.Constant (.int 1) k p1) p2)) p3) (.ref a) (.ref s4.heap.objs.size)) (EP X pins σ Q) X.xe { s4 with heap := s4.heap.push { cls := .type "slice", data := .fields #[.none, .none, vs] } }
  refine tail_any (ops := [.ref a, .ref s4.heap.objs.size]) ht.typeIs PyProof.Rows.slot_tuple_getitem.lookup ?_ (by with_unfolding_all rfl)
  refine getItem_tuple_rev ht (Heap.IsSliceOf.new _ .none .none vs) ps ?_ (by rw [List.size_toArray]; omega)
  refine ⟨.ref _, _, I5.laid (t' := s4.toks) (o := .tup xs.reverse) (fun b ob q => Heap.get?_push_of_some _ q) (Nat.le_refl _) ?_, rfl, q _ (I5.hok.fresh (Nat.le_refl _))⟩
  exact ⟨by rw [List.length_reverse]; exact hz, its.reverse, r.reverse, ⟨_, Heap.get?_push_size _ rfl, rfl, 0, by simp⟩⟩
end Sb
namespace Sb
open PySem PySem.Spec PyProof.Rows L2
theorem take_some {α : Type} {l : List α} {i : Nat} {d : α} (h : l[i]? = some d) : l.take (i + 1) = l.take i ++ [d] := by
  obtain ⟨hl, rfl⟩ := List.getElem?_eq_some_iff.mp h
  rw [List.take_succ_eq_append_getElem hl]
section
variable {J : It} {n : Nat} {G : Hp → Prop} {Y : Nat → Hp → V → Hp → Prop}
/-- each turn gives one thing -/
theorem lc_data (w : Walk J n G Y) (ds : List PyData) {g : TG} {te : TE} {vs : List Nat} {σ : L2.St} {H1 : Hp} {D : Addr} {Qd : Hp → Prop} (hn : ds.length = n) (hz : n ≤ sizeLine) (hD : H1 D = none)
    (hG : ∀ H, Same H1 H → G H) (hY : ∀ i H x H', Y i H x H' → Same H H')
    (hs : ∀ i x H H' (Nx : V → Hp → Prop), i < n → Same H1 H → Same H1 H' → Y i H x H' → (∀ y H4 d, Same H' H4 → ds[i]? = some d → Im H4 y d → Nx y H4) → g x (wipe σ vs) H' fun σ2 H2 => wipe σ2 vs = wipe σ vs ∧ te σ2 H2 Nx)
    (hd : ∀ H xs, Same H1 H → H D = some (.lst xs) → Ims H xs ds → Qd H) :
    ∃ W : Nat → Nat → Hp → Prop, (∃ m, W 0 m (upd H1 D (.lst []))) ∧ ∀ i m H, W i m H →
      (J.stop i H ∧ Qd H) ∨ (J.go i H ∧ ∃ Nx : Hp → Prop, (∀ H', Nx H' → ∃ m', m' < m ∧ W (i + 1) m' H') ∧ ∀ x H', J.yld i H x H' → g x (wipe σ vs) H' fun σ2 H2 => wipe σ2 vs = wipe σ vs ∧ tYes σ2 H2 fun b H3 =>
        if b = true then te σ2 H3 fun y H4 => ∃ acc, H4 D = some (.lst acc) ∧ acc.length < sizeLine ∧ Nx (upd H4 D (.lst (acc ++ [y]))) else Nx H3) := by
  refine lc_it w (fun i H => Same H1 H ∧ ∃ xs, H D = some (.lst xs) ∧ Ims H xs (ds.take i)) ⟨Same.new hD, [], upd_same, .nil⟩ (fun i H _ p => hG H p.1) (fun i x H H' hi p y => ?_) (fun H p => ?_)
  · obtain ⟨e, xs, h1, h2⟩ := p
    have e1 := hY i H x H' y
    refine hs i x H H' _ hi e (e.trans e1) y (fun v H4 d e2 hd1 hd2 => ?_)
    have e3 : Same H H4 := e1.trans e2
    have hl : xs.length = i := by rw [h2.len, List.length_take, hn]; omega
    refine ⟨xs, e3 _ _ h1, by omega, Same.mut (e.trans e3) hD, xs ++ [v], upd_same, ?_⟩
    rw [take_some hd1]
    have t := TK.put (o := .lst (xs ++ [v])) (e3 _ _ h1) (fun _ z => by cases z)
    exact ((h2.on e3).by t).snoc (hd2.by t)
  · obtain ⟨e, xs, h1, h2⟩ := p
    rw [← hn, List.take_length] at h2
    exact hd H xs e h1 h2
/-- each turn gives a thing or none -/
theorem lc_dataF (w : Walk J n G Y) (f : Nat → Option PyData) {g : TG} {tt : TT} {te : TE} {vs : List Nat} {σ : L2.St} {H1 : Hp} {D : Addr} {Qd : Hp → Prop} (hz : n ≤ sizeLine) (hD : H1 D = none)
    (hG : ∀ H, Same H1 H → G H) (hY : ∀ i H x H', Y i H x H' → Same H H')
    (hs : ∀ i x H H' (Nx : V → Hp → Prop) (Ns : Hp → Prop), i < n → Same H1 H → Same H1 H' → Y i H x H' → (∀ y H4 d, Same H' H4 → f i = some d → Im H4 y d → Nx y H4) → (∀ H4, Same H' H4 → f i = none → Ns H4) →
      g x (wipe σ vs) H' fun σ2 H2 => wipe σ2 vs = wipe σ vs ∧ tt σ2 H2 fun b H3 => if b = true then te σ2 H3 Nx else Ns H3)
    (hd : ∀ H xs, Same H1 H → H D = some (.lst xs) → Ims H xs ((List.range n).filterMap f) → Qd H) :
    ∃ W : Nat → Nat → Hp → Prop, (∃ m, W 0 m (upd H1 D (.lst []))) ∧ ∀ i m H, W i m H →
      (J.stop i H ∧ Qd H) ∨ (J.go i H ∧ ∃ Nx : Hp → Prop, (∀ H', Nx H' → ∃ m', m' < m ∧ W (i + 1) m' H') ∧ ∀ x H', J.yld i H x H' → g x (wipe σ vs) H' fun σ2 H2 => wipe σ2 vs = wipe σ vs ∧ tt σ2 H2 fun b H3 =>
        if b = true then te σ2 H3 fun y H4 => ∃ acc, H4 D = some (.lst acc) ∧ acc.length < sizeLine ∧ Nx (upd H4 D (.lst (acc ++ [y]))) else Nx H3) := by
  refine lc_it w (fun i H => Same H1 H ∧ ∃ xs, H D = some (.lst xs) ∧ Ims H xs ((List.range i).filterMap f)) ⟨Same.new hD, [], upd_same, .nil⟩ (fun i H _ p => hG H p.1) (fun i x H H' hi p y => ?_) (fun H p => ?_)
  · obtain ⟨e, xs, h1, h2⟩ := p
    have e1 := hY i H x H' y
    refine hs i x H H' _ _ hi e (e.trans e1) y (fun v H4 d e2 hd1 hd2 => ?_) (fun H4 e2 hd1 => ?_)
    · have e3 : Same H H4 := e1.trans e2
      have hl : xs.length ≤ i := by
        rw [h2.len]
        exact Nat.le_trans (List.length_filterMap_le f _) (by simp)
      refine ⟨xs, e3 _ _ h1, by omega, Same.mut (e.trans e3) hD, xs ++ [v], upd_same, ?_⟩
      rw [List.range_succ, List.filterMap_append]
      simp only [List.filterMap_cons, List.filterMap_nil, hd1]
      have t := TK.put (o := .lst (xs ++ [v])) (e3 _ _ h1) (fun _ z => by cases z)
      exact ((h2.on e3).by t).snoc (hd2.by t)
    · have e3 : Same H H4 := e1.trans e2
      refine ⟨e.trans e3, xs, e3 _ _ h1, ?_⟩
      rw [List.range_succ, List.filterMap_append]
      simp only [List.filterMap_cons, List.filterMap_nil, hd1, List.append_nil]
      exact h2.on e3
  · obtain ⟨e, xs, h1, h2⟩ := p
    exact hd H xs e h1 h2
theorem yat_same {xs : List V} : ∀ i H x H', YAt xs i H x H' → Same H H' := fun i H x H' y => by rw [y.1]; exact Same.refl H
theorem yfn_same {f : Nat → V} : ∀ i H x H', YFn f i H x H' → Same H H' := fun i H x H' y => by rw [y.1]; exact Same.refl H
theorem ypair_same {xs ys : Nat → Option V} : ∀ i H x H', YPair xs ys i H x H' → Same H H' := fun i H x H' y => by
  obtain ⟨T, a, b, _, h, e, _⟩ := y
  rw [e]
  exact Same.new h
theorem ystr_same {z : Str} : ∀ i H x H', (fun (i : Nat) (H : Hp) (v : V) (H' : Hp) => H' = H ∧ ∃ c, z.cps[i]? = some c ∧ v = V.str ⟨#[c]⟩) i H x H' → Same H H' := fun i H x H' y => by rw [y.1]; exact Same.refl H
end
end Sb
namespace Sb
def gt (t : Trn) (p : Nat) : Nat := t.getD p 0
theorem gt_some {t : Trn} {p : Nat} (h : p < t.length) : t[p]? = some (gt t p) := by
  unfold gt
  simp [h]
theorem gt_eq {t : Trn} {p g : Nat} (h : t[p]? = some g) : gt t p = g := by
  unfold gt
  simp [h]
theorem gt_mem {t : Trn} {p : Nat} (h : p < t.length) : gt t p ∈ t := List.mem_of_getElem? (gt_some h)
def aft (t u : Trn) : Trn := t.map (gt u)
theorem aft_len (t u : Trn) : (aft t u).length = t.length := List.length_map ..
def bckTo (t : Trn) : Nat → Trn
  | 0 => List.replicate t.length 0
  | i + 1 => (bckTo t i).set (gt t i) i
def bck (t : Trn) : Trn := bckTo t t.length
theorem bckTo_len (t : Trn) : ∀ i, (bckTo t i).length = t.length
  | 0 => List.length_replicate
  | i + 1 => by rw [bckTo, List.length_set, bckTo_len t i]
theorem bck_len (t : Trn) : (bck t).length = t.length := bckTo_len t _
/-- n places, each led to one of them -/
def Tn (n : Nat) (t : Trn) : Prop := t.length = n ∧ ∀ x ∈ t, x < n
theorem Tn.gt {n : Nat} {t : Trn} (h : Tn n t) {p : Nat} (hp : p < n) : gt t p < n := h.2 _ (gt_mem (by rw [h.1]; exact hp))
theorem Tn.aft {n : Nat} {t u : Trn} (h : Tn n t) (k : Tn n u) : Tn n (aft t u) := by
  refine ⟨(aft_len t u).trans h.1, fun x m => ?_⟩
  obtain ⟨p, hp, rfl⟩ := List.mem_map.mp m
  exact k.gt (h.2 p hp)
theorem bckTo_lt {t : Trn} : ∀ {i : Nat}, i ≤ t.length → ∀ x ∈ bckTo t i, x < t.length
  | 0, _, x, m => by
    obtain ⟨h1, rfl⟩ := List.mem_replicate.mp m
    omega
  | i + 1, h, x, m => by
    rcases List.mem_or_eq_of_mem_set m with m | rfl
    · exact bckTo_lt (by omega) x m
    · omega
theorem Tn.bck {n : Nat} {t : Trn} (h : Tn n t) : Tn n (bck t) := ⟨(bck_len t).trans h.1, fun x m => by
  have := bckTo_lt (Nat.le_refl _) x m
  rw [h.1] at this
  exact this⟩
theorem tn_range (n : Nat) : Tn n (List.range n) := ⟨List.length_range, fun x m => List.mem_range.mp m⟩
/-- a turn of n places -/
def Prm (n : Nat) (t : Trn) : Prop := t.Perm (List.range n)
theorem Prm.tn {n : Nat} {t : Trn} (h : Prm n t) : Tn n t := ⟨h.length_eq.trans List.length_range, fun x m => List.mem_range.mp (h.mem_iff.mp m)⟩
theorem Prm.nd {n : Nat} {t : Trn} (h : Prm n t) : t.Nodup := h.nodup_iff.mpr List.nodup_range
/-- a ring: on from a place until a known one -/
def ringGo (t : Trn) : Nat → List Nat → List Nat → Nat → List Nat × List Nat
  | 0, gone, ring, _ => (gone, ring)
  | f + 1, gone, ring, p => if p ∈ gone then (gone, ring) else ringGo t f (gone ++ [p]) (ring ++ [p]) (gt t p)
def ringsTo (t : Trn) : Nat → List Nat × List Trn
  | 0 => ([], [])
  | i + 1 =>
    let r := ringGo t (t.length + 1) (ringsTo t i).1 [] i
    (r.1, if r.2 = [] then (ringsTo t i).2 else (ringsTo t i).2 ++ [r.2])
def rings (t : Trn) : List Trn := (ringsTo t t.length).2
theorem ringGo_ok {t : Trn} {n : Nat} (h : Tn n t) : ∀ (f : Nat) (gone ring : List Nat) (p : Nat), gone.Nodup → (∀ x ∈ gone, x < n) → (∀ x ∈ ring, x < n) → p < n → (ringGo t f gone ring p).1.Nodup ∧ (∀ x ∈ (ringGo t f gone ring p).1, x < n) ∧ ∀ x ∈ (ringGo t f gone ring p).2, x < n
  | 0, _, _, _, h1, h2, h3, _ => ⟨h1, h2, h3⟩
  | f + 1, gone, ring, p, h1, h2, h3, h4 => by
    rw [ringGo]
    by_cases m : p ∈ gone
    · rw [if_pos m]; exact ⟨h1, h2, h3⟩
    · rw [if_neg m]
      refine ringGo_ok h f _ _ _ ?_ ?_ ?_ (h.gt h4)
      · rw [List.nodup_append]
        refine ⟨h1, List.pairwise_singleton .., ?_⟩
        intro a ha b hb e
        rw [List.mem_singleton] at hb
        exact m (hb ▸ e ▸ ha)
      · intro x hx
        rcases List.mem_append.mp hx with hx | hx
        · exact h2 x hx
        · rw [List.mem_singleton] at hx; omega
      · intro x hx
        rcases List.mem_append.mp hx with hx | hx
        · exact h3 x hx
        · rw [List.mem_singleton] at hx; omega
theorem ringsTo_ok {t : Trn} {n : Nat} (h : Tn n t) : ∀ i, i ≤ n → (ringsTo t i).1.Nodup ∧ (∀ x ∈ (ringsTo t i).1, x < n) ∧ (∀ r ∈ (ringsTo t i).2, ∀ x ∈ r, x < n) ∧ (ringsTo t i).2.length ≤ i
  | 0, _ => by simp [ringsTo]
  | i + 1, hi => by
    obtain ⟨h1, h2, h3, h4⟩ := ringsTo_ok h i (by omega)
    obtain ⟨g1, g2, g3⟩ := ringGo_ok h (t.length + 1) (ringsTo t i).1 [] i h1 h2 (fun _ m => nomatch m) (by omega)
    refine ⟨g1, g2, ?_, ?_⟩
    · intro r hr
      simp only [ringsTo] at hr
      split at hr
      · exact h3 r hr
      · rcases List.mem_append.mp hr with hr | hr
        · exact h3 r hr
        · rw [List.mem_singleton] at hr; subst hr; exact g3
    · simp only [ringsTo]
      split
      · omega
      · rw [List.length_append]; exact Nat.succ_le_succ h4
theorem rings_ok {t : Trn} {n : Nat} (h : Tn n t) : ∀ r ∈ rings t, ∀ x ∈ r, x < n := (ringsTo_ok h _ (Nat.le_of_eq h.1)).2.2.1
theorem rings_len {t : Trn} {n : Nat} (h : Tn n t) : (rings t).length ≤ n := by
  have := (ringsTo_ok h _ (Nat.le_of_eq h.1)).2.2.2
  exact Nat.le_trans this (Nat.le_of_eq h.1)
/-- raised to a number -/
def inTo (r : Trn) (k : Int) : Nat → Trn → Trn
  | 0, f => f
  | j + 1, f => (inTo r k j f).set (gt r j) (gt r (((j : Int) + k) % (r.length : Int)).toNat)
def outTo (rs : List Trn) (k : Int) (f : Trn) : Nat → Trn
  | 0 => f
  | i + 1 => inTo (rs.getD i []) k (rs.getD i []).length (outTo rs k f i)
def rai (t : Trn) (k : Int) : Trn := outTo (rings t) k t (rings t).length
theorem inTo_len (r : Trn) (k : Int) (f : Trn) : ∀ j, (inTo r k j f).length = f.length
  | 0 => rfl
  | j + 1 => by rw [inTo, List.length_set, inTo_len r k f j]
theorem outTo_len (rs : List Trn) (k : Int) (f : Trn) : ∀ i, (outTo rs k f i).length = f.length
  | 0 => rfl
  | i + 1 => by rw [outTo, inTo_len, outTo_len rs k f i]
theorem rai_len (t : Trn) (k : Int) : (rai t k).length = t.length := outTo_len ..
theorem emod_lt {a : Int} {n : Nat} (h : 0 < n) : (a % (n : Int)).toNat < n := by
  have h1 := Int.emod_nonneg a (by omega : (n : Int) ≠ 0)
  have h2 := Int.emod_lt_of_pos a (by omega : (0 : Int) < (n : Int))
  omega
theorem inTo_lt {r : Trn} {k : Int} {n : Nat} (hr : ∀ x ∈ r, x < n) {f : Trn} (hf : ∀ x ∈ f, x < n) : ∀ j, j ≤ r.length → ∀ x ∈ inTo r k j f, x < n
  | 0, _ => hf
  | j + 1, hj => fun x m => by
    rcases List.mem_or_eq_of_mem_set m with m | rfl
    · exact inTo_lt hr hf j (by omega) x m
    · exact hr _ (gt_mem (emod_lt (by omega)))
theorem outTo_lt {rs : List Trn} {k : Int} {n : Nat} (hr : ∀ r ∈ rs, ∀ x ∈ r, x < n) {f : Trn} (hf : ∀ x ∈ f, x < n) : ∀ i, i ≤ rs.length → ∀ x ∈ outTo rs k f i, x < n
  | 0, _ => hf
  | i + 1, hi => inTo_lt (by
      have : rs.getD i [] ∈ rs := by
        rw [List.getD_eq_getElem?_getD, List.getElem?_eq_getElem (by omega)]
        exact List.getElem_mem _
      exact hr _ this) (outTo_lt hr hf i (by omega)) _ (Nat.le_refl _)
theorem Tn.rai {n : Nat} {t : Trn} (h : Tn n t) (k : Int) : Tn n (rai t k) := ⟨(rai_len t k).trans h.1, outTo_lt (rings_ok h) h.2 _ (Nat.le_refl _)⟩
/-- the least common multiple, number by number -/
def lcmTo (ns : List Nat) : Nat → Nat
  | 0 => 1
  | i + 1 => lcmTo ns i / Nat.gcd (lcmTo ns i) (gt ns i) * gt ns i
def lcms (ns : List Nat) : Nat := lcmTo ns ns.length
def led (l : List Nat) (t : Trn) : List Nat := (List.range l.length).map fun p => l.getD (t.idxOf p) 0
theorem led_len (l : List Nat) (t : Trn) : (led l t).length = l.length := by unfold led; rw [List.length_map, List.length_range]
end Sb
namespace Sb
open PySem PySem.Spec PyProof.Rows L2
section
variable {P : Program} {w : World} {K : PySem.W.Frag} {mg : Str → Option Value} {base : Heap}
def spIsInteger : Sp := fun vs H Q _ => ∃ i : Int, vs = [.int i] ∧ Q (.bl true) H
theorem c_is_integer (z : Z K mg) : Cal P w K mg base 1 "is_integer" spIsInteger := by
  have S : FnScope ["value"] ["value"] (defScope sIsInteger) := ⟨rfl, rfl, rfl, by decide +kernel, rfl, by decide +kernel, by decide +kernel⟩
  refine cal_by z.d_is_integer z.g_is_integer S (fun _ _ _ _ _ _ us hl => match us, hl with | [_], _ => rfl) (fun vs H Q E h => ?_) (fun cdv A outer s H vs Q E hr h => ?_)
  · obtain ⟨i, rfl, _⟩ := h
    rfl
  · obtain ⟨i, rfl, q⟩ := h
    refine ⟨_, pss_one (ps_ret (pe_and (pe_callB call_isi (by rfl) z.b_isinstance boot_isinstance (pa_cons (pv 0) (pa_cons (pe_bltn (v := .ty "int") (by rfl) z.b_int boot_int rfl) pa_nil)))
      (pe_one (pe_not (pe_callB call_isi (by rfl) z.b_isinstance boot_isinstance (pa_cons (pv 0) (pa_cons (pe_bltn (v := .ty "bool") (by rfl) z.b_bool boot_bool rfl) pa_nil))))))), ?_⟩
    refine ⟨_, rfl, _, _, _, _, true, rfl, .ty _, .base (.int i), kit_ty (by decide +kernel), true, rfl, iteT ?_⟩
    exact ⟨_, rfl, _, _, _, _, false, rfl, .ty _, .base (.int i), kit_ty (by decide +kernel), false, rfl, q⟩
def spIsBetween : Sp := fun vs H Q _ => ∃ i a b : Int, vs = [.int i, .int a, .int b] ∧ Q (.bl (decide (a ≤ i) && decide (i ≤ b))) H
theorem c_is_between (z : Z K mg) : Cal P w K mg base 2 "is_between" spIsBetween := by
  have S : FnScope ["value", "least", "most"] ["value", "least", "most"] (defScope sIsBetween) := ⟨rfl, rfl, rfl, by decide +kernel, rfl, by decide +kernel, by decide +kernel⟩
  refine cal_by z.d_is_between z.g_is_between S (fun _ _ _ _ _ _ us hl => match us, hl with | [_, _, _], _ => rfl) (fun vs H Q E h => ?_) (fun cdv A outer s H vs Q E hr h => ?_)
  · obtain ⟨i, a, b, rfl, _⟩ := h
    rfl
  · obtain ⟨i, a, b, rfl, q⟩ := h
    refine ⟨_, pss_one (ps_ret (pe_and (pe_f (c_is_integer z) hr (by decide) rfl (pa_cons (pv 0) pa_nil)) (pe_one (pe_chain op_le op_le (pv 1) (pv 0) (pv 2))))), ?_⟩
    refine ⟨_, rfl, i, rfl, true, rfl, iteT ?_⟩
    refine ⟨_, rfl, _, rfl, _, _, rfl, rfl, _, rfl, ?_⟩
    refine ite2 (fun c => ?_) (fun c => ?_)
    · rw [c] at q
      exact ⟨_, rfl, _, _, rfl, rfl, q⟩
    · rw [Bool.not_eq_true] at c
      rw [c] at q
      exact q
def spCheckNumber : Sp := fun vs H Q _ => ∃ i a b : Int, vs = [.int i, .int a, .int b] ∧ a ≤ i ∧ i ≤ b ∧ Q .non H
theorem c_check_number (z : Z K mg) : Cal P w K mg base 3 "check_number" spCheckNumber := by
  have S : FnScope ["value", "least", "most"] ["value", "least", "most"] (defScope sCheckNumber) := ⟨rfl, rfl, rfl, by decide +kernel, rfl, by decide +kernel, by decide +kernel⟩
  refine cal_by z.d_check_number z.g_check_number S (fun _ _ _ _ _ _ us hl => match us, hl with | [_, _, _], _ => rfl) (fun vs H Q E h => ?_) (fun cdv A outer s H vs Q E hr h => ?_)
  · obtain ⟨i, a, b, rfl, _⟩ := h
    rfl
  · obtain ⟨i, a, b, rfl, h1, h2, q⟩ := h
    refine ⟨_, pss_one (ps_if (pt_not (pt_val (pe_f (c_is_between z) hr (by decide) rfl (pa_cons (pv 0) (pa_cons (pv 1) (pa_cons (pv 2) pa_nil)))))) pss_never pss_nil), ?_⟩
    refine ⟨_, rfl, _, rfl, _, rfl, i, a, b, rfl, _, rfl, ?_⟩
    rw [decide_eq_true h1, decide_eq_true h2]
    exact iteF q
end
end Sb
namespace Sb
open PySem PySem.Spec PyProof.Rows L2
theorem ims_rep {H : Hp} : ∀ {n : Nat} {xs : List V}, Ims H xs (List.replicate n (.bool true)) → xs = (List.replicate n true).map V.bl
  | 0, _, h => by cases h; rfl
  | n + 1, _, h => by
    cases h with
    | cons h1 h2 => rw [h1.blE, ims_rep h2]; rfl
theorem all_rep (n : Nat) : (List.replicate n true).all id = true := by simp
theorem rgV_nat (n : Nat) : rgV 0 n = vN (List.range n) := by
  unfold rgV vN
  rw [show ((n : Int) - 0).toNat = n by omega]
  exact List.map_congr_left fun i _ => by rw [Int.zero_add]
theorem rgOk_nat {n : Nat} (h : n ≤ 1000) : RgOk 0 (n : Int) := .of_le (by decide) (by omega) (by decide) (by omega)
section
variable {P : Program} {w : World} {K : PySem.W.Frag} {mg : Str → Option Value} {base : Heap}
def NameOk (x : Str) : Prop := 1 ≤ x.length ∧ x.length ≤ 8 ∧ ∀ c ∈ x.cps.toList, c ∈ ("abcdefghijklmnopqrstuvwxyz" : Str).cps.toList
def spIsName : Sp := fun vs H Q _ => ∃ x : Str, vs = [.str x] ∧ NameOk x ∧ ∀ H', Same H H' → Q (.bl true) H'
theorem c_is_name (z : Z K mg) : Cal P w K mg base 1 "is_name" spIsName := by
  have S : FnScope ["value", "sign"] ["value"] (defScope sIsName) := ⟨rfl, rfl, rfl, by decide +kernel, rfl, by decide +kernel, by decide +kernel⟩
  refine cal_by z.d_is_name z.g_is_name S (fun _ _ _ _ _ _ us hl => match us, hl with | [_], _ => rfl) (fun vs H Q E h => ?_) (fun cdv A outer s H vs Q E hr h => ?_)
  · obtain ⟨x, rfl, _⟩ := h
    rfl
  · obtain ⟨x, rfl, ⟨h1, h2, h3⟩, q⟩ := h
    refine ⟨_, pss_cons (ps_if (PW.pt (pw_or (pt_not (pt_val (pe_callB call_isi (by rfl) z.b_isinstance boot_isinstance (pa_cons (pv 0) (pa_cons (pe_bltn (v := .ty "str") (by rfl) z.b_str boot_str rfl) pa_nil))))) (pw_or1 (pt_not (pt_chain op_le op_le pe_int (pe_callB call_len_str (by rfl) z.b_len boot_len (pa_cons (pv 0) pa_nil)) (C8.pe_gc (by rfl) z.c_LONGEST_NAME))))))
      (pss_one (ps_ret pe_bl))
      pss_nil)
    (pss_one (ps_ret (pe_callB (cr_all rfl) (by rfl) z.b_all (by decide +kernel) (pa_cons (pe_lc (own := [("sign", 1)]) (g := gName 1) rfl S.nd (pi_str (pv 0)) (blkOk_by (own := [("sign", 1)]) (N := ["value", "sign"]) (sc := defScope sIsName) (by decide +kernel)) (fun _ _ _ _ _ => (pg_name (i := 1) S.nd rfl (Or.inl rfl))) (fun _ _ _ _ _ => pts_nil) (fun _ _ _ _ _ => (pe_cmpR op_in_sign (pv 1) (C8.pe_gc (by rfl) z.c_LETTERS) rfl))) pa_nil)))), ?_⟩
    refine ⟨_, rfl, _, _, _, _, true, rfl, .ty _, .base (.str x), kit_ty (by decide +kernel), _, rfl, ?_⟩
    refine iteF ?_
    refine ⟨_, rfl, _, rfl, by show x.length ≤ 2 ^ 24; omega, _, _, rfl, rfl, _, rfl, ?_⟩
    rw [decide_eq_true (by omega : (1 : Int) ≤ (x.length : Int))]
    refine iteT ⟨_, _, rfl, rfl, true, congrArg V.bl (decide_eq_true (by omega)), iteF ?_⟩
    refine ⟨_, rfl, x, rfl, fun D hD => lc_data walk_str (List.replicate x.cps.size (.bool true)) List.length_replicate (show x.length ≤ 2 ^ 24 by omega) hD (fun _ _ => trivial) ystr_same (fun i y H1 H2 Nx hi e e2 hy q => ?_) (fun H1 xs e h5 h6 => ?_)⟩
    · obtain ⟨rfl, c, hc, rfl⟩ := hy
      refine ⟨rfl, _, rfl, c, _, rfl, rfl, ?_⟩
      rw [decide_eq_true (h3 c (by simpa using Array.mem_of_getElem? hc))]
      exact q _ _ _ (Same.refl _) (by simp [hi]) (.bl true)
    · rw [ims_rep h6] at h5
      refine ⟨D, _, rfl, SqL.of h5, ?_⟩
      rw [all_rep]
      exact q _ e
def spIsButtonName : Sp := fun vs H Q _ => ∃ x : Str, vs = [.str x] ∧ NameOk x ∧ x ≠ ("tie" : Str) ∧ ∀ H', Same H H' → Q (.bl true) H'
theorem c_is_button_name (z : Z K mg) : Cal P w K mg base 2 "is_button_name" spIsButtonName := by
  have S : FnScope ["value"] ["value"] (defScope sIsButtonName) := ⟨rfl, rfl, rfl, by decide +kernel, rfl, by decide +kernel, by decide +kernel⟩
  refine cal_by z.d_is_button_name z.g_is_button_name S (fun _ _ _ _ _ _ us hl => match us, hl with | [_], _ => rfl) (fun vs H Q E h => ?_) (fun cdv A outer s H vs Q E hr h => ?_)
  · obtain ⟨x, rfl, _⟩ := h
    rfl
  · obtain ⟨x, rfl, h1, h2, q⟩ := h
    refine ⟨_, pss_one (ps_ret (pe_and (pe_f (c_is_name z) hr (by decide) rfl (pa_cons (pv 0) pa_nil)) (pe_one (pe_cmpR op_ne (pv 0) (C8.pe_gc (by rfl) z.c_TIE) (nomark _))))), ?_⟩
    refine ⟨_, rfl, x, rfl, h1, fun H1 e => ⟨true, rfl, iteT ⟨_, rfl, rfl, ?_⟩⟩⟩
    rw [decide_eq_false fun z => h2 (V.str.inj z)]
    exact q H1 e
def spIsTurn : Sp := fun vs H Q _ => ∃ (v : V) (t : Trn), vs = [v] ∧ Im H v (eT t) ∧ 1 ≤ t.length ∧ t.length ≤ 24 ∧ Prm t.length t ∧ ∀ H', Same H H' → Q (.bl true) H'
theorem c_is_turn (z : Z K mg) : Cal P w K mg base 2 "is_turn" spIsTurn := by
  have S : FnScope ["value", "place"] ["value"] (defScope sIsTurn) := ⟨rfl, rfl, rfl, by decide +kernel, rfl, by decide +kernel, by decide +kernel⟩
  refine cal_by z.d_is_turn z.g_is_turn S (fun _ _ _ _ _ _ us hl => match us, hl with | [_], _ => rfl) (fun vs H Q E h => ?_) (fun cdv A outer s H vs Q E hr h => ?_)
  · obtain ⟨v, t, rfl, _⟩ := h
    rfl
  · obtain ⟨v, t, rfl, hv, h1, h2, hp, q⟩ := h
    obtain ⟨a, rfl, ha⟩ := hv.tE
    refine ⟨_, pss_cons (ps_if (PW.pt (pw_or (pt_not (pt_val (pe_callB call_isi (by rfl) z.b_isinstance boot_isinstance (pa_cons (pv 0) (pa_cons (pe_bltn (v := .ty "tuple") (by rfl) z.b_tuple boot_tuple rfl) pa_nil))))) (pw_or1 (pt_not (pt_chain op_le op_le pe_int (pe_callB call_len_seq (by rfl) z.b_len boot_len (pa_cons (pv 0) pa_nil)) (C8.pe_gc (by rfl) z.c_MOST_PLACES))))))
      (pss_one (ps_ret pe_bl))
      pss_nil)
    (pss_one (ps_ret (pe_and (pe_callB (cr_all rfl) (by rfl) z.b_all (by decide +kernel) (pa_cons (pe_lc (own := [("place", 1)]) (g := gName 1) rfl S.nd (pi_tup (pv 0)) (blkOk_by (own := [("place", 1)]) (N := ["value", "place"]) (sc := defScope sIsTurn) (by decide +kernel)) (fun _ _ _ _ _ => (pg_name (i := 1) S.nd rfl (Or.inl rfl))) (fun _ _ _ _ _ => pts_nil) (fun _ _ _ _ _ => (pe_f (c_is_integer z) hr (by decide) rfl (pa_cons (pv 1) pa_nil)))) pa_nil)) (pe_one (pe_cmpR (op_eqD hr.units) (pe_callB cr_sortT (by rfl) z.b_sorted boot_sorted (pa_cons (pv 0) pa_nil)) (pe_listRg rfl (by rfl) z.b_list (prg_1 (by rfl) z.b_range (pe_callB call_len_seq (by rfl) z.b_len boot_len (pa_cons (pv 0) pa_nil)))) (nomark _)))))), ?_⟩
    refine ⟨_, rfl, _, _, _, _, true, rfl, .ty _, .base (.tup ha), kit_ty (by decide +kernel), _, rfl, iteF ?_⟩
    refine ⟨_, rfl, _, _, rfl, .inr (SqT.of ha), _, _, rfl, rfl, _, rfl, ?_⟩
    rw [vN_len, decide_eq_true (by omega : (1 : Int) ≤ (t.length : Int))]
    refine iteT ⟨_, _, rfl, rfl, true, congrArg V.bl (decide_eq_true (by omega)), iteF ?_⟩
    refine ⟨_, rfl, a, rfl, ⟨_, SqT.of ha⟩, fun D hD => lc_data (walk_tup (xs := vN t)) (List.replicate t.length (.bool true)) (by rw [List.length_replicate, vN_len]) (by rw [vN_len]; show _ ≤ 2 ^ 24; omega) hD (fun H1 e => SqT.of (e _ _ ha)) yat_same (fun i y H1 H2 Nx hi e e2 hy q => ?_) (fun H1 xs e h5 h6 => ?_)⟩
    · obtain ⟨rfl, hc⟩ := hy
      rw [vN_len] at hi
      rw [vN_get, gt_some hi] at hc
      cases hc
      exact ⟨rfl, _, rfl, _, rfl, q _ _ _ (Same.refl _) (by simp [hi]) (.bl _)⟩
    · rw [ims_rep h6] at h5
      refine ⟨D, _, rfl, SqL.of h5, ?_⟩
      rw [all_rep]
      refine ⟨true, rfl, iteT ⟨_, rfl, a, t.map fun n : Nat => (n : Int), rfl, ?_, fun ns' p hp1 hp2 hp3 => ⟨_, rfl, _, _, rfl, .inr (SqT.of (Same.new hp3 _ _ (e _ _ ha))), _, rfl, ?_⟩⟩⟩
      · have : (t.map fun n : Nat => (n : Int)).map V.int = vN t := by rw [List.map_map]; rfl
        rw [this]
        exact SqT.of (e _ _ ha)
      · have e1 : ns' = (List.range t.length).map fun n : Nat => (n : Int) := by
          refine List.Perm.eq_of_pairwise (le := (· ≤ ·)) (fun a b _ _ h1 h2 => Int.le_antisymm h1 h2) hp2 ?_ (hp1.trans (hp.map _))
          rw [List.pairwise_map]
          exact List.pairwise_lt_range.imp fun h => by omega
        rw [vN_len]
        refine ⟨rgOk_nat (by omega), fun r hr => ?_⟩
        rw [rgV_nat]
        have e2 : ns'.map V.int = vN (List.range t.length) := by rw [e1, List.map_map]; rfl
        refine ⟨_, _, dp_L ((upd_ne (ne_of_none upd_same hr)).trans (upd_same.trans (by rw [e2]))), dp_L upd_same, shaped_L _, shaped_L _, ?_⟩
        rw [PyData.eqv, eq_nats, decide_eq_true rfl]
        exact q _ ((e.trans (Same.new hp3)).trans (Same.new hr))
def spCheckTurn : Sp := fun vs H Q _ => ∃ (v : V) (t : Trn), vs = [v] ∧ Im H v (eT t) ∧ 1 ≤ t.length ∧ t.length ≤ 24 ∧ Prm t.length t ∧ ∀ H', Same H H' → Q .non H'
theorem c_check_turn (z : Z K mg) : Cal P w K mg base 3 "check_turn" spCheckTurn := by
  have S : FnScope ["value"] ["value"] (defScope sCheckTurn) := ⟨rfl, rfl, rfl, by decide +kernel, rfl, by decide +kernel, by decide +kernel⟩
  refine cal_by z.d_check_turn z.g_check_turn S (fun _ _ _ _ _ _ us hl => match us, hl with | [_], _ => rfl) (fun vs H Q E h => ?_) (fun cdv A outer s H vs Q E hr h => ?_)
  · obtain ⟨v, t, rfl, _⟩ := h
    rfl
  · obtain ⟨v, t, rfl, hv, h1, h2, hp, q⟩ := h
    refine ⟨_, pss_one (ps_if (pt_not (pt_val (pe_f (c_is_turn z) hr (by decide) rfl (pa_cons (pv 0) pa_nil))))
      pss_never
      pss_nil), ?_⟩
    exact ⟨_, rfl, v, t, rfl, hv, h1, h2, hp, fun H1 e => ⟨true, rfl, iteF (q H1 e)⟩⟩
def spStaying : Sp := fun vs H Q _ => ∃ n : Nat, vs = [.int n] ∧ n ≤ 1000 ∧ ∀ v H', Same H H' → Im H' v (eT (List.range n)) → Q v H'
theorem c_staying (z : Z K mg) : Cal P w K mg base 1 "staying" spStaying := by
  have S : FnScope ["many"] ["many"] (defScope sStaying) := ⟨rfl, rfl, rfl, by decide +kernel, rfl, by decide +kernel, by decide +kernel⟩
  refine cal_by z.d_staying z.g_staying S (fun _ _ _ _ _ _ us hl => match us, hl with | [_], _ => rfl) (fun vs H Q E h => ?_) (fun cdv A outer s H vs Q E hr h => ?_)
  · obtain ⟨n, rfl, _⟩ := h
    rfl
  · obtain ⟨n, rfl, hn, q⟩ := h
    refine ⟨_, pss_one (ps_ret (pe_tupRg rfl (by rfl) z.b_tuple (prg_1 (by rfl) z.b_range (pv 0)))), ?_⟩
    refine ⟨_, rfl, n, rfl, rgOk_nat hn, fun p hp => ?_⟩
    rw [rgV_nat]
    exact q _ _ (Same.new hp) (im_t upd_same)
def spAfter : Sp := fun vs H Q _ => ∃ (v u : V) (t o : Trn), vs = [v, u] ∧ Im H v (eT t) ∧ Im H u (eT o) ∧ t.length ≤ 1000 ∧ (∀ x ∈ t, x < o.length) ∧ ∀ r H', Same H H' → Im H' r (eT (aft t o)) → Q r H'
theorem c_after (z : Z K mg) : Cal P w K mg base 1 "after" spAfter := by
  have S : FnScope ["one", "other", "place"] ["one", "other"] (defScope sAfter) := ⟨rfl, rfl, rfl, by decide +kernel, rfl, by decide +kernel, by decide +kernel⟩
  refine cal_by z.d_after z.g_after S (fun _ _ _ _ _ _ us hl => match us, hl with | [_, _], _ => rfl) (fun vs H Q E h => ?_) (fun cdv A outer s H vs Q E hr h => ?_)
  · obtain ⟨v, u, t, o, rfl, _⟩ := h
    rfl
  · obtain ⟨v, u, t, o, rfl, hv, hu, hl, hx, q⟩ := h
    obtain ⟨a, rfl, ha⟩ := hv.tE
    obtain ⟨b, rfl, hb⟩ := hu.tE
    refine ⟨_, pss_one (ps_ret (pe_callTy call_tuple_of (by rfl) z.b_tuple boot_tuple (pa_cons (pe_lc (own := [("place", 2)]) (g := gName 2) rfl S.nd (pi_tup (pv 0)) (blkOk_by (own := [("place", 2)]) (N := ["one", "other", "place"]) (sc := defScope sAfter) (by decide +kernel)) (fun _ _ _ _ _ => (pg_name (i := 2) S.nd rfl (Or.inl rfl))) (fun _ _ _ _ _ => pts_nil) (fun _ _ _ _ _ => (pe_ix (r := rIxT K) ix_tup (pv 1) (pv 2) (fun _ _ => rfl)))) pa_nil))), ?_⟩
    refine ⟨_, rfl, a, rfl, ⟨_, SqT.of ha⟩, fun D hD => lc_data (walk_tup (xs := vN t)) ((aft t o).map fun n : Nat => .int (n : Int)) (by rw [List.length_map, aft_len, vN_len]) (by rw [vN_len]; show _ ≤ 2 ^ 24; omega) hD (fun H1 e => SqT.of (e _ _ ha)) yat_same (fun i y H1 H2 Nx hi e e2 hy q => ?_) (fun H1 xs e h5 h6 => ?_)⟩
    · obtain ⟨rfl, hc⟩ := hy
      rw [vN_len] at hi
      rw [vN_get, gt_some hi] at hc
      cases hc
      have hp := hx _ (gt_mem hi)
      refine ⟨rfl, _, rfl, _, rfl, _, _, _, _, rfl, rfl, SqT.of (e _ _ hb), atI_nat (by rw [vN_get, gt_some hp]; rfl), ?_⟩
      exact q _ _ _ (Same.refl _) (by simp [aft, gt_some hi]) (.int _)
    · rw [h6.nats] at h5
      exact ⟨D, _, rfl, .inl ⟨SqL.of h5, fun l hl => q _ _ (e.trans (Same.new hl)) (im_t upd_same)⟩⟩
def spTurnedBack : Sp := fun vs H Q _ => ∃ (v : V) (t : Trn), vs = [v] ∧ Im H v (eT t) ∧ t.length ≤ 1000 ∧ (∀ x ∈ t, x < t.length) ∧ ∀ r H', Same H H' → Im H' r (eT (bck t)) → Q r H'
theorem c_turned_back (z : Z K mg) : Cal P w K mg base 1 "turned_back" spTurnedBack := by
  have S : FnScope ["turn", "found", "place", "goal", "spare"] ["turn"] (defScope sTurnedBack) := ⟨rfl, rfl, rfl, by decide +kernel, rfl, by decide +kernel, by decide +kernel⟩
  refine cal_by z.d_turned_back z.g_turned_back S (fun _ _ _ _ _ _ us hl => match us, hl with | [_], _ => rfl) (fun vs H Q E h => ?_) (fun cdv A outer s H vs Q E hr h => ?_)
  · obtain ⟨v, t, rfl, _⟩ := h
    rfl
  · obtain ⟨v, t, rfl, hv, hl, hx, q⟩ := h
    obtain ⟨a, rfl, ha⟩ := hv.tE
    refine ⟨_, pss_cons (ps_setLc (i := 1) (own := [("spare", 4)]) (g := gName 4) rfl S.nd rfl rfl (sw_true rfl rfl rfl (by decide +kernel)) (pi_tup (pv 0)) (blkOk_by (own := [("spare", 4)]) (N := ["turn", "found", "place", "goal", "spare"]) (sc := defScope sTurnedBack) (by decide +kernel)) (fun _ _ _ _ _ => (pg_name (i := 4) S.nd rfl (Or.inl rfl))) (fun _ _ _ _ _ => pts_nil) (fun _ _ _ _ _ => pe_int))
    (pss_cons (ps_for PassesOwn.never rfl (pi_enumT (by rfl) z.b_enumerate (pa_cons (pv 0) pa_nil)) (pg_tup rfl (pgs_cons (pg_name (i := 2) S.nd rfl (Or.inl rfl)) (pgs_cons (pg_name (i := 3) S.nd rfl (Or.inl rfl)) pgs_nil)))
      (pss_one (ps_asg (pv 2) (pg_sub (pv 1) (pv 3) set_list))))
    (pss_one (ps_ret (pe_callTy call_tuple_of (by rfl) z.b_tuple boot_tuple (pa_cons (pv 1) pa_nil))))), ?_⟩
    refine ⟨_, rfl, a, rfl, ⟨_, SqT.of ha⟩, fun D hD => lc_data (walk_tup (xs := vN t)) ((List.replicate t.length 0).map fun n : Nat => .int (n : Int)) (by rw [List.length_map, List.length_replicate, vN_len]) (by rw [vN_len]; show _ ≤ 2 ^ 24; omega) hD (fun H1 e => SqT.of (e _ _ ha)) yat_same (fun i y H1 H2 Nx hi e e2 hy q => ?_) (fun H1 xs e h5 h6 => ?_)⟩
    · obtain ⟨rfl, hc⟩ := hy
      rw [vN_len] at hi
      exact ⟨rfl, q _ _ _ (Same.refl _) (by simp [hi]) (.int _)⟩
    · rw [h6.nats] at h5
      refine ⟨_, rfl, a, _, rfl, SqT.of (e _ _ ha), for_it (walk_enumT (xs := vN t)) (fun i σ H2 => Same H H2 ∧ H2 D = some (.lst (vN (bckTo t i))) ∧ ∃ u v, σ = [some (.ref a), some (.ref D), u, v, none]) ⟨e, h5, none, none, rfl⟩ (fun i σ H2 _ p => SqT.of (p.1 _ _ ha)) (fun i x σ H2 H3 hi p hy => ?_) (fun σ H2 p => ?_)⟩
      · obtain ⟨e1, h7, u, v, rfl⟩ := p
        obtain ⟨T, y, z, rfl, hT, rfl, hy, hz⟩ := hy
        rw [vN_len] at hi
        replace hz : (vN t)[i]? = some z := hz
        rw [vN_get, gt_some hi] at hz
        cases hy
        cases hz
        have hg := hx _ (gt_mem hi)
        have hDT : D ≠ T := ne_of_none h7 hT
        refine ⟨T, _, rfl, SqT.of upd_same, rfl, _, _, rfl, _, _, rfl, rfl, _, rfl, _, rfl, _, rfl, ?_⟩
        refine ⟨D, _, _, gt t i, rfl, rfl, (upd_ne hDT).trans h7, ?_, ?_⟩
        · unfold ixN
          rw [vN_len, bckTo_len, if_pos (by omega), if_pos (by omega)]
          rfl
        · refine ⟨Same.mut (e1.trans (Same.new hT)) hD, ?_, _, _, rfl⟩
          rw [upd_same, bckTo, vN, vN, List.map_set]
      · obtain ⟨e1, h7, u, v, rfl⟩ := p
        rw [vN_len] at h7
        exact ⟨_, rfl, D, _, rfl, .inl ⟨SqL.of h7, fun l hl => q _ _ (e1.trans (Same.new hl)) (im_t upd_same)⟩⟩
end
end Sb
namespace Sb
open PySem PySem.Spec PyProof.Rows L2
def eRs (rs : List Trn) : PyData := .tuple (rs.map eT)
section
variable {H : Hp}
theorem Ims.mget {α : Type} {f : α → PyData} {vs : List V} {l : List α} {i : Nat} {x : V} (h : Ims H vs (l.map f)) (e : vs[i]? = some x) : ∃ b, l[i]? = some b ∧ Im H x (f b) := by
  obtain ⟨d, e1, h1⟩ := h.get e
  rw [List.getElem?_map] at e1
  cases q : l[i]? with
  | none => rw [q] at e1; cases e1
  | some b =>
    rw [q] at e1
    cases e1
    exact ⟨b, rfl, h1⟩
theorem Ims.mlen {α : Type} {f : α → PyData} {vs : List V} {l : List α} (h : Ims H vs (l.map f)) : vs.length = l.length := h.len.trans (List.length_map ..)
theorem Ims.snocM {α : Type} {f : α → PyData} {vs : List V} {l : List α} {v : V} {b : α} (h : Ims H vs (l.map f)) (h1 : Im H v (f b)) : Ims H (vs ++ [v]) ((l ++ [b]).map f) := by
  rw [List.map_append]
  exact h.snoc h1
theorem vN_snoc (t : Trn) (p : Nat) : vN t ++ [V.int p] = vN (t ++ [p]) := by
  unfold vN
  rw [List.map_append]
  rfl
end
theorem valV_set (v : V) (p : Nat) : ∀ gone : List Nat, valV (gone.map fun p => (kN p, v)) (kN p) = if p ∈ gone then some v else none
  | [] => rfl
  | q :: gone => by
    rw [List.map_cons]
    by_cases e : q = p
    · rw [valV_pos (p := (kN q, v)) (congrArg kN e), if_pos (by simp [e])]
    · rw [valV_neg (p := (kN q, v)) fun z => e (kN_inj _ _ z), valV_set v p gone]
      have e2 : ¬ p = q := fun z => e z.symm
      simp [e2]
section
variable {P : Program} {w : World} {K : PySem.W.Frag} {mg : Str → Option Value} {base : Heap}
theorem nd_len {n : Nat} {l : List Nat} (h : l.Nodup) (hl : ∀ x ∈ l, x < n) : l.length ≤ n := by
  have := List.Nodup.length_le_of_subset (l₂ := List.range n) h fun x m => List.mem_range.mpr (hl x m)
  rwa [List.length_range] at this
def spRingsOf : Sp := fun vs H Q _ => ∃ (v : V) (t : Trn), vs = [v] ∧ Im H v (eT t) ∧ t.length ≤ 1000 ∧ Tn t.length t ∧ ∀ r H', Same H H' → Im H' r (eRs (rings t)) → Q r H'
theorem c_rings_of (z : Z K mg) : Cal P w K mg base 1 "rings_of" spRingsOf := by
  have S : FnScope ["turn", "gone", "found", "place", "ring"] ["turn"] (defScope sRingsOf) := ⟨rfl, rfl, rfl, by decide +kernel, rfl, by decide +kernel, by decide +kernel⟩
  refine cal_by z.d_rings_of z.g_rings_of S (fun _ _ _ _ _ _ us hl => match us, hl with | [_], _ => rfl) (fun vs H Q E h => ?_) (fun cdv A outer s H vs Q E hr h => ?_)
  · obtain ⟨v, t, rfl, _⟩ := h
    rfl
  · obtain ⟨v, t, rfl, hv, hl, ht, q⟩ := h
    obtain ⟨a, rfl, ha⟩ := hv.tE
    refine ⟨_, pss_cons (ps_par (i := 1) (j := 2) (by rfl) S.nd rfl rfl (by decide) rfl rfl (pa_cons pe_dnewK (pa_cons (pe_lst pa_nil) pa_nil)) (by rfl))
    (pss_cons (ps_for PassesOwn.never rfl (pi_range1 (by rfl) z.b_range (pa_cons (pe_callB call_len_seq (by rfl) z.b_len boot_len (pa_cons (pv 0) pa_nil)) pa_nil)) (pg_name (i := 3) S.nd rfl (Or.inl rfl))
      (pss_cons (ps_set (i := 4) S.nd rfl (Or.inl rfl) (pe_lst pa_nil))
      (pss_cons (ps_while PassesOwn.never (pt_cmp (pc_dnotin (hu_of hr) (pv 3) (pv 1)))
        (pss_cons (ps_dput (hu_of hr) (pv 1) (pv 3) pe_bl rfl)
        (pss_cons (ps_expr (pe_bm PySem.F.plainAttrs_list PySem.F.slot_list_append PySem.F.type_list_append mt_append (pv 4) (pa_cons (pv 3) pa_nil)))
        (pss_one (ps_set (i := 3) S.nd rfl (Or.inl rfl) (pe_ix ix_tup (pv 0) (pv 3) (fun _ _ => rfl)))))))
      (pss_one (ps_if (pt_cmpR (op_neD hr.units) (pv 4) (pe_lst pa_nil) (nomark _))
        (pss_one (ps_expr (pe_bm PySem.F.plainAttrs_list PySem.F.slot_list_append PySem.F.type_list_append mt_append (pv 2) (pa_cons (pe_callTy call_tuple_of (by rfl) z.b_tuple boot_tuple (pa_cons (pv 4) pa_nil)) pa_nil))))
        pss_nil)))))
    (pss_one (ps_ret (pe_callTy call_tuple_of (by rfl) z.b_tuple boot_tuple (pa_cons (pv 2) pa_nil))))), ?_⟩
    intro d hd
    refine ⟨by decide, fun F hF => ⟨_, _, rfl, ?_⟩⟩
    have hFd : d ≠ F := ne_of_none upd_same hF
    have hF0 : H F = none := (Same.new hd).free hF
    refine ⟨_, rfl, _, _, rfl, .inr (SqT.of ((Same.new hd).trans (Same.new hF) _ _ ha)), ?_⟩
    rw [vN_len]
    refine ⟨_, rfl, by omega, by omega, ?_⟩
    rw [Int.toNat_natCast]
    refine for_it walk_range (fun i σ H2 => Same H H2 ∧ H2 d = some (.dK ((ringsTo t i).1.map fun p => (kN p, V.bl true))) ∧ (∃ xs, H2 F = some (.lst xs) ∧ Ims H2 xs ((ringsTo t i).2.map eT)) ∧ ∃ u v, σ = [some (.ref a), some (.ref d), some (.ref F), u, v]) ⟨(Same.new hd).trans (Same.new hF), (upd_ne hFd).trans upd_same, ⟨[], upd_same, .nil⟩, none, none, rfl⟩ (fun i σ H2 _ p => trivial) (fun i x σ H2 H3 hi p hy => ?_) (fun σ H2 p => ?_)
    · obtain ⟨e1, h1, ⟨xs, h2, h3⟩, u, v, rfl⟩ := p
      obtain ⟨rfl, rfl⟩ := hy
      refine ⟨by decide, fun G hG => ?_⟩
      have hGd : d ≠ G := ne_of_none h1 hG
      have hGF : F ≠ G := ne_of_none h2 hG
      obtain ⟨k1, k2, k3, k4⟩ := ringsTo_ok ht i (by omega)
      refine ⟨fun m σ H4 => ∃ gone ring p, ringGo t m gone ring p = ringGo t (t.length + 1) (ringsTo t i).1 [] i ∧ t.length < m + gone.length ∧ gone.Nodup ∧ (∀ x ∈ gone, x < t.length) ∧ p < t.length ∧ ring.length ≤ gone.length ∧ Same H H4 ∧ H4 d = some (.dK (gone.map fun p => (kN p, V.bl true))) ∧ H4 F = some (.lst xs) ∧ Ims H4 xs ((ringsTo t i).2.map eT) ∧ H4 G = some (.lst (vN ring)) ∧ σ = [some (.ref a), some (.ref d), some (.ref F), some (.int (p : Int)), some (.ref G)], ⟨t.length + 1, ?_⟩, ?_⟩
      · refine ⟨_, [], i, rfl, by omega, k1, k2, hi, Nat.zero_le _, e1.trans (Same.new hG), (upd_ne hGd).trans h1, (upd_ne hGF).trans h2, h3.on (Same.new hG), upd_same, ?_⟩
        show _ = [_, _, _, some (V.int (i : Int)), _]
        rw [← Int.zero_add (i : Int)]
        rfl
      · rintro m σ H4 ⟨gone, ring, p, g1, g2, g3, g4, g5, g6, e2, g7, g8, g9, g10, rfl⟩
        refine ⟨_, rfl, _, rfl, d, _, rfl, DGet.k (k := kN p) g7, _, rfl, ?_⟩
        rw [valV_set]
        by_cases hm : p ∈ gone
        · rw [if_pos hm]
          refine iteF ?_
          have r1 : ringGo t m gone ring p = (gone, ring) := by
            cases m with
            | zero => rfl
            | succ m => rw [ringGo, if_pos hm]
          rw [r1] at g1
          have r2 : ringsTo t (i + 1) = (gone, if ring = [] then (ringsTo t i).2 else (ringsTo t i).2 ++ [ring]) := by
            rw [ringsTo, ← g1]
          refine ⟨_, rfl, by decide, fun L hL => ⟨_, _, dp_L (Same.new hL _ _ g10), .lst (SqL.of upd_same) .nil, shaped_L _, rfl, ?_⟩⟩
          rw [PyData.eqv]
          cases ring with
          | nil =>
            refine ⟨false, rfl, iteF ⟨e2.trans (Same.new hL), ?_, ⟨xs, Same.new hL _ _ g8, ?_⟩, _, _, rfl⟩⟩
            · rw [r2]; exact Same.new hL _ _ g7
            · rw [r2]; exact g9.on (Same.new hL)
          | cons p0 ring =>
            refine ⟨true, rfl, iteT ⟨_, rfl, .inl ⟨rfl, _, SqL.of (Same.new hL _ _ g8)⟩, _, rfl, G, _, rfl, .inl ⟨SqL.of (Same.new hL _ _ g10), fun T hT => ?_⟩⟩⟩
            have e3 := (Same.new (o := HO.lst []) hL).trans (Same.new (o := HO.tup (vN (p0 :: ring))) hT)
            refine ⟨F, _, _, rfl, rfl, e3 _ _ g8, ?_, ?_⟩
            · have := g9.mlen
              show _ < 2 ^ 24
              omega
            · refine ⟨Same.mut (e2.trans e3) hF0, ?_, ⟨_, upd_same, ?_⟩, _, _, rfl⟩
              · rw [r2, upd_ne hFd]; exact e3 _ _ g7
              · rw [r2]
                have tk := TK.put (o := .lst (xs ++ [V.ref T])) (e3 _ _ g8) (fun _ z => by cases z)
                exact ((g9.on e3).by tk).snocM (im_t (by rw [upd_ne (ne_of_none (Same.new hL _ _ g8) hT).symm]; exact upd_same))
        · rw [if_neg hm]
          refine iteT ?_
          obtain ⟨m, rfl⟩ : ∃ k, m = k + 1 := by
            cases m with
            | zero => have := nd_len g3 g4; omega
            | succ m => exact ⟨m, rfl⟩
          rw [ringGo, if_neg hm] at g1
          refine ⟨_, fun σ' H' w => ⟨m, Nat.lt_succ_self m, w⟩, ?_⟩
          have l1 := nd_len g3 g4
          have hsz : (gone.map fun p => (kN p, V.bl true)).length < sizeLine := by
            rw [List.length_map]
            show _ < 2 ^ 24
            omega
          have hGd' : G ≠ d := fun z => hGd z.symm
          have hGF' : F ≠ d := fun z => hFd z.symm
          have hn : gone.Nodup → p ∉ gone → (gone ++ [p]).Nodup := fun h1 h2 => by
            rw [List.nodup_append]
            refine ⟨h1, List.pairwise_singleton .., fun a ha b hb e => h2 ?_⟩
            rw [List.mem_singleton] at hb
            exact hb ▸ e ▸ ha
          refine ⟨_, rfl, _, rfl, d, _, rfl, DPut.k (k := kN p) g7 hsz, ?_⟩
          refine ⟨_, rfl, .inl ⟨rfl, _, SqL.of ((upd_ne hGd').trans g10)⟩, _, rfl, G, _, _, rfl, rfl, (upd_ne hGd').trans g10, ?_, ?_⟩
          · rw [vN_len]
            show _ < 2 ^ 24
            omega
          · have ha4 : H4 a = some (.tup (vN t)) := e2 _ _ ha
            have had : a ≠ d := ne_of ha4 g7 (by intro z; cases z)
            have haG : a ≠ G := ne_of ha4 g10 (by intro z; cases z)
            refine ⟨_, rfl, _, rfl, a, _, _, _, rfl, rfl, SqT.of ((upd_ne haG).trans ((upd_ne had).trans ha4)), atI_nat (by rw [vN_get, gt_some g5]; rfl), ?_⟩
            refine ⟨gone ++ [p], ring ++ [p], gt t p, g1, by rw [List.length_append]; simp; omega, hn g3 hm, ?_, ht.gt g5, by simp; exact g6, Same.mut (Same.mut e2 hd) (e1.free hG), ?_, ?_, ?_, ?_, rfl⟩
            · intro x hx
              rcases List.mem_append.mp hx with hx | hx
              · exact g4 x hx
              · rw [List.mem_singleton] at hx; omega
            · rw [upd_ne hGd, upd_same, putK_new (by rw [valV_set, if_neg hm]), List.map_append]
              rfl
            · exact (upd_ne hGF).trans ((upd_ne hGF').trans g8)
            · exact Ims.by (Ims.by g9 (TK.put g7 (fun _ z => by cases z))) (TK.put ((upd_ne hGd').trans g10) (fun _ z => by cases z))
            · rw [upd_same, vN_snoc]
    · obtain ⟨e1, h1, ⟨xs, h2, h3⟩, u, v, rfl⟩ := p
      exact ⟨_, rfl, F, _, rfl, .inl ⟨SqL.of h2, fun l hl => q _ _ (e1.trans (Same.new hl)) (.tup upd_same (h3.on (Same.new hl)))⟩⟩
end
end Sb
namespace Sb
open PySem PySem.Spec PyProof.Rows L2
section
variable {P : Program} {w : World} {K : PySem.W.Frag} {mg : Str → Option Value} {base : Heap}
def spCommon : Sp := fun vs H Q _ => ∃ a b : Nat, vs = [.int a, .int b] ∧ Q (.int (Nat.gcd a b : Nat)) H
theorem c_common (z : Z K mg) : Cal P w K mg base 1 "common" spCommon := by
  have S : FnScope ["high", "low"] ["high", "low"] (defScope sCommon) := ⟨rfl, rfl, rfl, by decide +kernel, rfl, by decide +kernel, by decide +kernel⟩
  refine cal_by z.d_common z.g_common S (fun _ _ _ _ _ _ us hl => match us, hl with | [_, _], _ => rfl) (fun vs H Q E h => ?_) (fun cdv A outer s H vs Q E hr h => ?_)
  · obtain ⟨a, b, rfl, _⟩ := h
    rfl
  · obtain ⟨a, b, rfl, q⟩ := h
    refine ⟨_, pss_cons (ps_while PassesOwn.never (pt_cmpR op_gt (pv 1) pe_int (nomark _))
      (pss_one (ps_par (i := 0) (j := 1) (by rfl) S.nd rfl rfl (by decide) rfl rfl (pa_cons (pv 1) (pa_cons (pe_op op_mod (pv 0) (pv 1)) pa_nil)) (by rfl))))
    (pss_one (ps_ret (pv 0))), ?_⟩
    refine ⟨fun m σ H' => ∃ c d : Nat, m = d ∧ Nat.gcd c d = Nat.gcd a b ∧ H' = H ∧ σ = [some (.int c), some (.int d)], ⟨b, a, b, rfl, rfl, rfl, rfl⟩, ?_⟩
    rintro m σ H' ⟨c, d, rfl, e, rfl, rfl⟩
    refine ⟨_, rfl, _, _, rfl, rfl, _, rfl, ?_⟩
    by_cases h0 : m = 0
    · rw [decide_eq_false (by omega)]
      subst h0
      rw [Nat.gcd_zero_right] at e
      rw [← e] at q
      exact iteF ⟨_, rfl, q⟩
    · rw [decide_eq_true (by omega)]
      refine iteT ⟨_, fun σ' H'' w => w, ?_⟩
      refine ⟨_, rfl, _, rfl, _, rfl, _, _, rfl, rfl, by show (0 : Int) < (m : Int); omega, _, _, rfl, ?_⟩
      refine ⟨c % m, Nat.mod_lt _ (by omega), m, c % m, rfl, ?_, rfl, ?_⟩
      · rw [← e, Nat.gcd_comm c m, Nat.gcd_comm m (c % m), ← Nat.gcd_rec]
      · rw [Int.natCast_emod]
        rfl
def spMultipleOf : Sp := fun vs H Q _ => ∃ (v : V) (ns : List Nat), vs = [v] ∧ Im H v (eT ns) ∧ (∀ x ∈ ns, 0 < x ∧ x ≤ 1000) ∧ Q (.int (lcms ns : Nat)) H
theorem lcmTo_pos {ns : List Nat} (h : ∀ x ∈ ns, 0 < x ∧ x ≤ 1000) : ∀ i, i ≤ ns.length → 0 < lcmTo ns i
  | 0, _ => Nat.one_pos
  | i + 1, hi => by
    have h1 := lcmTo_pos h i (by omega)
    have h2 := (h _ (gt_mem (by omega : i < ns.length))).1
    exact Nat.mul_pos (Nat.div_pos (Nat.gcd_le_left _ h1) (Nat.gcd_pos_of_pos_left _ h1)) h2
theorem c_multiple_of (z : Z K mg) : Cal P w K mg base 2 "multiple_of" spMultipleOf := by
  have S : FnScope ["numbers", "found", "number"] ["numbers"] (defScope sMultipleOf) := ⟨rfl, rfl, rfl, by decide +kernel, rfl, by decide +kernel, by decide +kernel⟩
  refine cal_by z.d_multiple_of z.g_multiple_of S (fun _ _ _ _ _ _ us hl => match us, hl with | [_], _ => rfl) (fun vs H Q E h => ?_) (fun cdv A outer s H vs Q E hr h => ?_)
  · obtain ⟨v, ns, rfl, _⟩ := h
    rfl
  · obtain ⟨v, ns, rfl, hv, hx, q⟩ := h
    obtain ⟨a, rfl, ha⟩ := hv.tE
    refine ⟨_, pss_cons (ps_set (i := 1) S.nd rfl (Or.inl rfl) pe_int)
    (pss_cons (ps_for PassesOwn.never rfl (pi_tup (pv 0)) (pg_name (i := 2) S.nd rfl (Or.inl rfl))
      (pss_one (ps_set (i := 1) S.nd rfl (Or.inl rfl) (pe_op op_mul (pe_op op_fdivN (pv 1) (pe_f (c_common z) hr (by decide) rfl (pa_cons (pv 1) (pa_cons (pv 2) pa_nil)))) (pv 2)))))
    (pss_one (ps_ret (pv 1)))), ?_⟩
    refine ⟨_, rfl, a, rfl, ⟨_, SqT.of ha⟩, for_it (walk_tup (xs := vN ns)) (fun i σ H2 => H2 = H ∧ ∃ u, σ = [some (.ref a), some (.int (lcmTo ns i : Nat)), u]) ⟨rfl, none, rfl⟩ (fun i σ H2 _ p => by rw [p.1]; exact SqT.of ha) (fun i x σ H2 H3 hi p hy => ?_) (fun σ H2 p => ?_)⟩
    · obtain ⟨rfl, u, rfl⟩ := p
      obtain ⟨rfl, hc⟩ := hy
      rw [vN_len] at hi
      rw [vN_get, gt_some hi] at hc
      cases hc
      have h1 := lcmTo_pos hx i (by omega)
      have h2 := hx _ (gt_mem hi)
      have h3 := Nat.gcd_pos_of_pos_left (gt ns i) h1
      have h4 := Nat.gcd_le_right (n := gt ns i) (lcmTo ns i) h2.1
      refine ⟨_, rfl, _, rfl, _, rfl, lcmTo ns i, gt ns i, rfl, _, _, rfl, rfl, ⟨by omega, by rw [Int.natAbs_natCast]; omega⟩, _, rfl, _, _, rfl, rfl, .inr ⟨by omega, by omega⟩, rfl, some (.int (gt ns i : Nat)), ?_⟩
      rw [Int.fdiv_eq_ediv_of_nonneg _ (by omega)]
      rfl
    · obtain ⟨rfl, u, rfl⟩ := p
      rw [vN_len]
      exact ⟨_, rfl, q⟩
def spFalling : Sp := fun vs H Q _ => ∃ (a : Addr) (ns : List Nat), vs = [.ref a] ∧ H a = some (.lst (vN ns)) ∧ ∀ v H' ms, Same H H' → ms.Perm ns → Im H' v (eT ms) → Q v H'
theorem c_falling (z : Z K mg) : Cal P w K mg base 1 "falling" spFalling := by
  have S : FnScope ["numbers"] ["numbers"] (defScope sFalling) := ⟨rfl, rfl, rfl, by decide +kernel, rfl, by decide +kernel, by decide +kernel⟩
  refine cal_by z.d_falling z.g_falling S (fun _ _ _ _ _ _ us hl => match us, hl with | [_], _ => rfl) (fun vs H Q E h => ?_) (fun cdv A outer s H vs Q E hr h => ?_)
  · obtain ⟨a, ns, rfl, _⟩ := h
    rfl
  · obtain ⟨a, ns, rfl, ha, q⟩ := h
    refine ⟨_, pss_one (ps_ret (pe_callTy call_tuple_of (by rfl) z.b_tuple boot_tuple (pa_cons (pe_revL (pe_callB cr_sortedI (by rfl) z.b_sorted boot_sorted (pa_cons (pv 0) pa_nil))) pa_nil))), ?_⟩
    refine ⟨_, rfl, a, ns.map fun n : Nat => (n : Int), rfl, ?_, fun ns' p hp1 hp2 hp3 => ⟨p, _, rfl, SqL.of upd_same, fun r hr => ⟨r, _, rfl, .inl ⟨SqL.of upd_same, fun l hl => ?_⟩⟩⟩⟩
    · have : (ns.map fun n : Nat => (n : Int)).map V.int = vN ns := by rw [List.map_map]; rfl
      rw [this]
      exact SqL.of ha
    · have e1 : ns' = (ns'.map Int.toNat).map fun n : Nat => (n : Int) := by
        rw [List.map_map]
        conv => lhs; rw [← List.map_id ns']
        refine List.map_congr_left fun x m => ?_
        obtain ⟨y, _, rfl⟩ := List.mem_map.mp (hp1.mem_iff.mp m)
        rfl
      have e2 : (ns'.map V.int).reverse = vN (ns'.map Int.toNat).reverse := by
        rw [vN, List.map_reverse, e1]
        simp
      refine q _ _ (ns'.map Int.toNat).reverse (((Same.new hp3).trans (Same.new hr)).trans (Same.new hl)) ?_ (im_t (by rw [upd_same, e2]))
      refine (List.reverse_perm _).trans ?_
      have := hp1.map Int.toNat
      rw [List.map_map] at this
      exact this.trans (by rw [show (Int.toNat ∘ fun n : Nat => (n : Int)) = id from rfl, List.map_id])
def spKindFor : Sp := fun vs H Q _ => ∃ (v : V) (t : Trn), vs = [v] ∧ Im H v (eT t) ∧ t.length ≤ 1000 ∧ Tn t.length t ∧ ∀ v H' ms, Same H H' → ms.Perm ((rings t).map List.length) → Im H' v (eT ms) → Q v H'
theorem c_kind_for (z : Z K mg) : Cal P w K mg base 2 "kind_for" spKindFor := by
  have S : FnScope ["turn", "ring"] ["turn"] (defScope sKindFor) := ⟨rfl, rfl, rfl, by decide +kernel, rfl, by decide +kernel, by decide +kernel⟩
  refine cal_by z.d_kind_for z.g_kind_for S (fun _ _ _ _ _ _ us hl => match us, hl with | [_], _ => rfl) (fun vs H Q E h => ?_) (fun cdv A outer s H vs Q E hr h => ?_)
  · obtain ⟨v, t, rfl, _⟩ := h
    rfl
  · obtain ⟨v, t, rfl, hv, hl, ht, q⟩ := h
    refine ⟨_, pss_one (ps_ret (pe_f (c_falling z) hr (by decide) rfl (pa_cons (pe_lc (own := [("ring", 1)]) (g := gName 1) rfl S.nd (pi_tup (pe_f (c_rings_of z) hr (by decide) rfl (pa_cons (pv 0) pa_nil))) (blkOk_by (own := [("ring", 1)]) (N := ["turn", "ring"]) (sc := defScope sKindFor) (by decide +kernel)) (fun _ _ _ _ _ => (pg_name (i := 1) S.nd rfl (Or.inl rfl))) (fun _ _ _ _ _ => pts_nil) (fun _ _ _ _ _ => (pe_callB (r := fun xs H Q => ∃ p ys, xs = [.ref p] ∧ (SqL K H p ys ∨ SqT K H p ys) ∧ Q (.int ys.length) H) call_len_seq (by rfl) z.b_len boot_len (pa_cons (pv 1) pa_nil)))) pa_nil))), ?_⟩
    refine ⟨_, rfl, _, t, rfl, hv, hl, ht, fun r H1 e1 hr1 => ?_⟩
    obtain ⟨a, xs, rfl, h1, h2⟩ := hr1.tupE
    have hlen := rings_len ht
    have hl2 := h2.mlen
    refine ⟨a, rfl, ⟨_, SqT.of h1⟩, fun D hD => lc_data (walk_tup (xs := xs)) (((rings t).map List.length).map fun n : Nat => .int (n : Int)) (by rw [List.length_map, List.length_map, hl2]) (by show _ ≤ 2 ^ 24; omega) hD (fun H1 e => SqT.of (e _ _ h1)) yat_same (fun i y H2 H3 Nx hi e e2 hy q => ?_) (fun H2 ys e h5 h6 => ?_)⟩
    · obtain ⟨rfl, hc⟩ := hy
      obtain ⟨b, h7, h8⟩ := h2.mget hc
      obtain ⟨c, rfl, h9⟩ := (h8.on e).tE
      refine ⟨rfl, _, rfl, c, _, rfl, .inr (SqT.of h9), ?_⟩
      rw [vN_len]
      exact q _ _ _ (Same.refl _) (by simp [h7]) (.int _)
    · rw [h6.nats] at h5
      exact ⟨D, _, rfl, h5, fun v H' ms e3 hp hv => q v H' ms ((e1.trans e).trans e3) hp hv⟩
def spNearestNumber : Sp := fun vs H Q _ => ∃ (n : Int) (W : Nat), vs = [.int n, .int W] ∧ 0 < W ∧ Q (.int (if 2 * (n % W) ≤ W then n % W else n % W - W)) H
theorem c_nearest_number (z : Z K mg) : Cal P w K mg base 1 "nearest_number" spNearestNumber := by
  have S : FnScope ["number", "whole", "rest"] ["number", "whole"] (defScope sNearestNumber) := ⟨rfl, rfl, rfl, by decide +kernel, rfl, by decide +kernel, by decide +kernel⟩
  refine cal_by z.d_nearest_number z.g_nearest_number S (fun _ _ _ _ _ _ us hl => match us, hl with | [_, _], _ => rfl) (fun vs H Q E h => ?_) (fun cdv A outer s H vs Q E hr h => ?_)
  · obtain ⟨n, W, rfl, _⟩ := h
    rfl
  · obtain ⟨n, W, rfl, hW, q⟩ := h
    refine ⟨_, pss_cons (ps_set (i := 2) S.nd rfl (Or.inl rfl) (pe_op op_mod (pv 0) (pv 1)))
    (pss_one (ps_ret (pe_ifExp (pt_cmpR op_le (pe_op op_mul pe_int (pv 2)) (pv 1) (nomark _)) (pv 2) (pe_op op_sub (pv 2) (pv 1))))), ?_⟩
    refine ⟨_, rfl, _, rfl, _, _, rfl, rfl, by show (0 : Int) < (W : Int); omega, _, rfl, _, _, rfl, rfl, .inl ⟨by decide, by decide⟩, _, rfl, _, _, rfl, rfl, _, rfl, ?_⟩
    by_cases c : 2 * (n % (W : Int)) ≤ W
    · rw [decide_eq_true c]
      rw [if_pos c] at q
      exact iteT ⟨_, rfl, q⟩
    · rw [decide_eq_false c]
      rw [if_neg c] at q
      exact iteF ⟨_, rfl, _, rfl, _, _, rfl, rfl, q⟩
end
end Sb
namespace Sb
open PySem PySem.Spec PyProof.Rows L2
section
variable {P : Program} {w : World} {K : PySem.W.Frag} {mg : Str → Option Value} {base : Heap}
def spRaisedTo : Sp := fun vs H Q _ => ∃ (v : V) (t : Trn) (k : Int), vs = [v, .int k] ∧ Im H v (eT t) ∧ t.length ≤ 1000 ∧ Tn t.length t ∧ ∀ r H', Same H H' → Im H' r (eT (rai t k)) → Q r H'
theorem ixN_nat {n j : Nat} (h : j < n) : ixN n (j : Int) = some j := by
  unfold ixN
  rw [if_pos (by omega), if_pos (by omega)]
  rfl
theorem c_raised_to (z : Z K mg) : Cal P w K mg base 2 "raised_to" spRaisedTo := by
  have S : FnScope ["turn", "number", "found", "ring", "index", "place"] ["turn", "number"] (defScope sRaisedTo) := ⟨rfl, rfl, rfl, by decide +kernel, rfl, by decide +kernel, by decide +kernel⟩
  refine cal_by z.d_raised_to z.g_raised_to S (fun _ _ _ _ _ _ us hl => match us, hl with | [_, _], _ => rfl) (fun vs H Q E h => ?_) (fun cdv A outer s H vs Q E hr h => ?_)
  · obtain ⟨v, t, k, rfl, _⟩ := h
    rfl
  · obtain ⟨v, t, k, rfl, hv, hl, ht, q⟩ := h
    obtain ⟨a, rfl, ha⟩ := hv.tE
    refine ⟨_, pss_cons (ps_set (i := 2) S.nd rfl (Or.inl rfl) (pe_callTy call_list_of (by rfl) z.b_list boot_list (pa_cons (pv 0) pa_nil)))
    (pss_cons (ps_for PassesOwn.never rfl (pi_tup (pe_f (c_rings_of z) hr (by decide) rfl (pa_cons (pv 0) pa_nil))) (pg_name (i := 3) S.nd rfl (Or.inl rfl))
      (pss_one (ps_for PassesOwn.never rfl (pi_enumT (by rfl) z.b_enumerate (pa_cons (pv 3) pa_nil)) (pg_tup rfl (pgs_cons (pg_name (i := 4) S.nd rfl (Or.inl rfl)) (pgs_cons (pg_name (i := 5) S.nd rfl (Or.inl rfl)) pgs_nil)))
        (pss_one (ps_asg (pe_ix ix_tup (pv 3) (pe_op op_mod (pe_op op_add (pv 4) (pv 1)) (pe_callB call_len_seq (by rfl) z.b_len boot_len (pa_cons (pv 3) pa_nil))) (fun _ _ => rfl)) (pg_sub (pv 2) (pv 5) set_list))))))
    (pss_one (ps_ret (pe_callTy call_tuple_of (by rfl) z.b_tuple boot_tuple (pa_cons (pv 2) pa_nil))))), ?_⟩
    refine ⟨_, rfl, a, _, rfl, .inr (SqT.of ha), fun F hF => ?_⟩
    refine ⟨_, rfl, _, t, rfl, hv.on (Same.new hF), hl, ht, fun r H1 e1 hr1 => ?_⟩
    obtain ⟨b, xs, rfl, h1, h2⟩ := hr1.tupE
    have hrg := rings_ok ht
    have hlen := h2.mlen
    refine ⟨b, rfl, ⟨_, SqT.of h1⟩, for_it (walk_tup (xs := xs)) (fun i σ H2 => Same H H2 ∧ H2 b = some (.tup xs) ∧ Ims H2 xs ((rings t).map eT) ∧ H2 F = some (.lst (vN (outTo (rings t) k t i))) ∧ ∃ u v w, σ = [some (.ref a), some (.int k), some (.ref F), u, v, w]) ⟨(Same.new hF).trans e1, h1, h2, e1 _ _ upd_same, none, none, none, rfl⟩ (fun i σ H2 _ p => SqT.of p.2.1) (fun i x σ H2 H3 hi p hy => ?_) (fun σ H2 p => ?_)⟩
    · obtain ⟨e2, h3, h4, h5, u1, u2, u3, rfl⟩ := p
      obtain ⟨rfl, hc⟩ := hy
      obtain ⟨r, h6, h7⟩ := h4.mget hc
      obtain ⟨c, rfl, h8⟩ := h7.tE
      have hrm : r ∈ rings t := List.mem_of_getElem? h6
      have hgd : (rings t).getD i [] = r := by rw [List.getD_eq_getElem?_getD, h6]; rfl
      refine ⟨_, rfl, c, _, rfl, SqT.of h8, for_it (walk_enumT (xs := vN r)) (fun j σ H4 => Same H H4 ∧ TK H3 H4 ∧ H4 F = some (.lst (vN (inTo r k j (outTo (rings t) k t i)))) ∧ ∃ u v, σ = [some (.ref a), some (.int k), some (.ref F), some (.ref c), u, v]) ⟨e2, TK.refl _, h5, _, _, rfl⟩ (fun j σ H4 _ p => SqT.of (p.2.1 _ _ h8)) (fun j x σ H4 H5 hj p hy => ?_) (fun σ H4 p => ?_)⟩
      · obtain ⟨e3, t3, h9, v1, v2, rfl⟩ := p
        obtain ⟨T, y, g, rfl, hT, rfl, hy, hz⟩ := hy
        rw [vN_len] at hj
        replace hz : (vN r)[j]? = some g := hz
        rw [vN_get, gt_some hj] at hz
        cases hy
        cases hz
        have hFT : F ≠ T := ne_of_none h9 hT
        have h8' : upd H4 T (.tup [.int (j : Nat), .int (gt r j : Nat)]) c = some (.tup (vN r)) := TK.new hT _ _ (t3 _ _ h8)
        have hm := emod_lt (a := (j : Int) + k) (n := r.length) (by omega)
        have hmn := Int.emod_nonneg ((j : Int) + k) (by omega : (r.length : Int) ≠ 0)
        refine ⟨T, _, rfl, SqT.of upd_same, rfl, _, _, rfl, _, _, rfl, rfl, ?_⟩
        refine ⟨_, rfl, _, rfl, _, rfl, _, _, rfl, rfl, _, rfl, c, _, rfl, .inr (SqT.of h8'), ?_⟩
        rw [vN_len]
        refine ⟨_, _, rfl, rfl, by show (0 : Int) < (r.length : Int); omega, c, _, _, V.int (gt r (((j : Int) + k) % (r.length : Int)).toNat : Nat), rfl, rfl, SqT.of h8', ?_, _, rfl, _, rfl, F, _, _, gt r j, rfl, rfl, (upd_ne hFT).trans h9, ?_, ?_⟩
        · rw [← Int.toNat_of_nonneg hmn]
          refine atI_nat ?_
          rw [vN_get, Int.toNat_natCast, gt_some hm]
          rfl
        · refine ixN_nat ?_
          rw [vN_len, inTo_len, outTo_len]
          exact hrg r hrm _ (gt_mem hj)
        · refine ⟨Same.mut (e3.trans (Same.new hT)) hF, (t3.trans (TK.new hT)).trans (TK.put ((upd_ne hFT).trans h9) (fun _ z => by cases z)), ?_, _, _, rfl⟩
          rw [upd_same, inTo, vN, vN, List.map_set]
      · obtain ⟨e3, t3, h9, v1, v2, rfl⟩ := p
        rw [vN_len] at h9
        refine ⟨e3, t3 _ _ h3, h4.by t3, ?_, _, _, _, rfl⟩
        rw [h9, outTo, hgd]
    · obtain ⟨e2, h3, h4, h5, u1, u2, u3, rfl⟩ := p
      rw [hlen] at h5
      exact ⟨_, rfl, F, _, rfl, .inl ⟨SqL.of h5, fun l hl => q _ _ (e2.trans (Same.new hl)) (im_t upd_same)⟩⟩
end
end Sb
namespace Sb
open PySem PySem.Spec PyProof.Rows L2
section
variable {P : Program} {w : World} {K : PySem.W.Frag} {mg : Str → Option Value} {base : Heap}
theorem met_by {c m qual : Str} {st : Stmt} {N ps : List Str} {k : Nat} {sp : Sp} (hF : ∃ fd, Fun K m qual st (mA K c m) fd) (hc : Cls K (gA K c)) (hm : Meth K (gA K c) m (mA K c m)) (S : FnScope N ps (defScope st))
    (hb : ∀ (kV doc pm : Value) (an : Option Addr) (cdv ct : Value) (us : List Value), us.length = ps.length → bindArgs (PySem.W.fnOf m qual (defArgs st) (defBody st) (defScope st) .none kV doc pm an cdv ct) ⟨us, []⟩ = pure (ps.zip us))
    (len : ∀ vs H Q E, sp vs H Q E → vs.length = ps.length)
    (hbody : ∀ (cdv : Value) (A : Around) (outer : List Env) (s : Shared) (H : Hp) (vs : List V) (Q : VK) (E : XK), Room k (A.deeper (envOfC qual (defScope st) s.heap.objs.size (mA K c m) cdv)) → sp vs H Q E →
      ∃ t, PSs (cxOf CX0 P w K mg base N qual (defScope st) (mA K c m) cdv A outer s H E).nox (defBody st) t ∧ t { nx := fun _ H' => Q .non H', rt := Q } (start N vs) H) : Met P w K mg base (k + 1) c m sp := by
  obtain ⟨fd, F⟩ := hF
  obtain ⟨h1, h2⟩ := fn_by F S hb len hbody
  exact ⟨fd, ps, h1, h2, hc, hm⟩
theorem mak_by {c qual : Str} {st : Stmt} {N ps : List Str} {k : Nat} {sp : Sp} (hF : ∃ fd, Fun K "__init__" qual st (mA K c "__init__") fd) (hM : Mk K (gA K c) (mA K c "__init__")) (hg : mg c = some (.ref (gA K c))) (S : FnScope N ps (defScope st))
    (hb : ∀ (kV doc pm : Value) (an : Option Addr) (cdv ct : Value) (us : List Value), us.length = ps.length → bindArgs (PySem.W.fnOf "__init__" qual (defArgs st) (defBody st) (defScope st) .none kV doc pm an cdv ct) ⟨us, []⟩ = pure (ps.zip us))
    (len : ∀ vs H Q E, sp vs H Q E → vs.length = ps.length)
    (hbody : ∀ (cdv : Value) (A : Around) (outer : List Env) (s : Shared) (H : Hp) (vs : List V) (Q : VK) (E : XK), Room k (A.deeper (envOfC qual (defScope st) s.heap.objs.size (mA K c "__init__") cdv)) → sp vs H Q E →
      ∃ t, PSs (cxOf CX0 P w K mg base N qual (defScope st) (mA K c "__init__") cdv A outer s H E).nox (defBody st) t ∧ t { nx := fun _ H' => Q .non H', rt := Q } (start N vs) H) : Mak P w K mg base (k + 1) c sp := by
  obtain ⟨fd, F⟩ := hF
  obtain ⟨h1, h2⟩ := fn_by F S hb len hbody
  exact ⟨fd, ps, h1, h2, hM, hg⟩
/-- the getter at g -/
def Get (P : Program) (w : World) (K : PySem.W.Frag) (mg : Str → Option Value) (base : Heap) (k : Nat) (c f : Str) (g : Addr) (sp : Sp) : Prop :=
  ∃ (fd : FuncData) (ps : List Str) (p : Addr), FnOk P w K mg base CX0 k g fd ps sp ∧ Binds K fd ps [] ∧ Cls K (gA K c) ∧ PropOf K (gA K c) f p g
theorem get_by {c x qual : Str} {g p : Addr} {st : Stmt} {N ps : List Str} {k : Nat} {sp : Sp} (hF : ∃ fd, Fun K x qual st g fd) (hc : Cls K (gA K c)) (hp : PropOf K (gA K c) x p g) (S : FnScope N ps (defScope st))
    (hb : ∀ (kV doc pm : Value) (an : Option Addr) (cdv ct : Value) (us : List Value), us.length = ps.length → bindArgs (PySem.W.fnOf x qual (defArgs st) (defBody st) (defScope st) .none kV doc pm an cdv ct) ⟨us, []⟩ = pure (ps.zip us))
    (len : ∀ vs H Q E, sp vs H Q E → vs.length = ps.length)
    (hbody : ∀ (cdv : Value) (A : Around) (outer : List Env) (s : Shared) (H : Hp) (vs : List V) (Q : VK) (E : XK), Room k (A.deeper (envOfC qual (defScope st) s.heap.objs.size g cdv)) → sp vs H Q E →
      ∃ t, PSs (cxOf CX0 P w K mg base N qual (defScope st) g cdv A outer s H E).nox (defBody st) t ∧ t { nx := fun _ H' => Q .non H', rt := Q } (start N vs) H) : Get P w K mg base (k + 1) c x g sp := by
  obtain ⟨fd, F⟩ := hF
  obtain ⟨h1, h2⟩ := fn_by F S hb len hbody
  exact ⟨fd, ps, p, h1, h2, hc, hp⟩
end
section
variable {X : Cx} {k j : Nat} {c f : Str} {g : Addr} {sp : Sp} {e : Expr} {pos : Pos} {ta : TE}
theorem pe_get (G : Get X.prog X.w X.K X.mg X.base k c f g sp) (hr : Room j X.A) (hk : k + 1 ≤ j) (he : PE X e ta) (hab : attributeBase e f X.env (eval e X.env) = eval e X.env := by rfl) : PE X (.Attribute e f pos) (tProp (gA X.K c) sp [] E0 ta) := by
  obtain ⟨fd, ps, p, F, b, hc, hp⟩ := G
  exact pe_prop he hc hp F (hr.mono hk) b .nil pass0 hab
end
/-- a board of n places with these buttons -/
def Bd (K : PySem.W.Frag) (H : Hp) (v : V) (n : Nat) (bs : List Btn) : Prop :=
  ∃ (a dx : Addr) (T E : V), v = .ref a ∧ H a = some (.ins (gA K "Board") dx [("size", .int n), ("buttons", T), ("ties", E)]) ∧ Im H T (eBs bs)
section
variable {K : PySem.W.Frag} {H H' : Hp} {v : V} {n : Nat} {bs : List Btn}
theorem Bd.on (h : Bd K H v n bs) (e : Same H H') : Bd K H' v n bs := by
  obtain ⟨a, dx, T, E, rfl, h1, h2⟩ := h
  exact ⟨a, dx, T, E, rfl, e _ _ h1, h2.on e⟩
end
end Sb
namespace Sb
open PySem PySem.Spec PyProof.Rows L2
def BtnOk (n : Nat) (b : Btn) : Prop := NameOk b.1 ∧ b.1 ≠ ("tie" : Str) ∧ Prm n b.2
def BtnsOk (n : Nat) (bs : List Btn) : Prop := 1 ≤ n ∧ n ≤ 24 ∧ bs.length ≤ 8 ∧ (∀ b ∈ bs, BtnOk n b) ∧ (bs.map (·.1)).Nodup
def eNs (xs : List Str) : PyData := .tuple (xs.map .str)
section
variable {P : Program} {w : World} {K : PySem.W.Frag} {mg : Str → Option Value} {base : Heap}
def spIsButton : Sp := fun vs H Q _ => ∃ (v : V) (b : Btn) (n : Nat) (d : Addr) (kvs : List (Key × V)), vs = [v, .int n, .ref d] ∧ Im H v (eB b) ∧ BtnOk n b ∧ 1 ≤ n ∧ n ≤ 24 ∧ H d = some (.dK kvs) ∧ valV kvs (kS b.1) = none ∧ ∀ H', Same H H' → Q (.bl true) H'
theorem c_is_button (z : Z K mg) : Cal P w K mg base 3 "is_button" spIsButton := by
  have S : FnScope ["value", "size", "known"] ["value", "size", "known"] (defScope sIsButton) := ⟨rfl, rfl, rfl, by decide +kernel, rfl, by decide +kernel, by decide +kernel⟩
  refine cal_by z.d_is_button z.g_is_button S (fun _ _ _ _ _ _ us hl => match us, hl with | [_, _, _], _ => rfl) (fun vs H Q E h => ?_) (fun cdv A outer s H vs Q E hr h => ?_)
  · obtain ⟨v, b, n, d, kvs, rfl, _⟩ := h
    rfl
  · obtain ⟨v, b, n, d, kvs, rfl, hv, ⟨b1, b2, b3⟩, n1, n2, hd, hk, q⟩ := h
    obtain ⟨a, c, rfl, ha, hc⟩ := hv.bE
    refine ⟨_, pss_cons (ps_if (PW.pt (pw_or (pt_not (pt_val (pe_callB call_isi (by rfl) z.b_isinstance boot_isinstance (pa_cons (pv 0) (pa_cons (pe_bltn (v := .ty "tuple") (by rfl) z.b_tuple boot_tuple rfl) pa_nil))))) (pw_or1 (pt_cmpR op_ne (pe_callB call_len_seq (by rfl) z.b_len boot_len (pa_cons (pv 0) pa_nil)) pe_int (nomark _)))))
      (pss_one (ps_ret pe_bl))
      pss_nil)
    (pss_cons (ps_if (PW.pt (pw_or (pt_not (pt_val (pe_f (c_is_button_name z) hr (by decide) rfl (pa_cons (pe_ix ix_tup (pv 0) pe_int (fun _ _ => rfl)) pa_nil)))) (pw_or1 (pt_cmp (pc_din (hu_of hr) (pe_ix ix_tup (pv 0) pe_int (fun _ _ => rfl)) (pv 2))))))
      (pss_one (ps_ret pe_bl))
      pss_nil)
    (pss_one (ps_ret (pe_and (pe_f (c_is_turn z) hr (by decide) rfl (pa_cons (pe_ix ix_tup (pv 0) pe_int (fun _ _ => rfl)) pa_nil)) (pe_one (pe_cmpR op_eq (pe_callB call_len_seq (by rfl) z.b_len boot_len (pa_cons (pe_ix ix_tup (pv 0) pe_int (fun _ _ => rfl)) pa_nil)) (pv 1) (nomark _))))))), ?_⟩
    have tn := b3.tn
    refine ⟨_, rfl, _, _, _, _, true, rfl, .ty _, .base (.tup ha), kit_ty (by decide +kernel), _, rfl, iteF ?_⟩
    refine ⟨_, rfl, _, _, rfl, .inr (SqT.of ha), rfl, _, rfl, iteF ?_⟩
    refine ⟨_, rfl, a, _, _, _, rfl, rfl, SqT.of ha, rfl, b.1, rfl, b1, b2, fun H1 e => ⟨_, rfl, iteF ?_⟩⟩
    refine ⟨_, rfl, a, _, _, _, rfl, rfl, SqT.of (e _ _ ha), rfl, _, rfl, d, _, rfl, DGet.k (k := kS b.1) (e _ _ hd), _, rfl, ?_⟩
    rw [hk]
    refine iteF ⟨_, rfl, a, _, _, _, rfl, rfl, SqT.of (e _ _ ha), rfl, _, b.2, rfl, im_t (e _ _ hc), by rw [tn.1]; exact n1, by rw [tn.1]; exact n2, by rw [tn.1]; exact b3, fun H2 e2 => ⟨true, rfl, iteT ?_⟩⟩
    refine ⟨_, rfl, a, _, _, _, rfl, rfl, SqT.of (e2 _ _ (e _ _ ha)), rfl, c, _, rfl, .inr (SqT.of (e2 _ _ (e _ _ hc))), _, rfl, rfl, ?_⟩
    rw [vN_len, tn.1, decide_eq_true rfl]
    exact q _ (e.trans e2)
def spButtonsFault : Sp := fun vs H Q _ => ∃ (v : V) (n : Nat) (bs : List Btn), vs = [v, .int n] ∧ Im H v (eBs bs) ∧ BtnsOk n bs ∧ ∀ H', Same H H' → Q (.int (-1)) H'
theorem c_buttons_fault (z : Z K mg) : Cal P w K mg base 4 "buttons_fault" spButtonsFault := by
  have S : FnScope ["value", "size", "known", "index", "button"] ["value", "size"] (defScope sButtonsFault) := ⟨rfl, rfl, rfl, by decide +kernel, rfl, by decide +kernel, by decide +kernel⟩
  refine cal_by z.d_buttons_fault z.g_buttons_fault S (fun _ _ _ _ _ _ us hl => match us, hl with | [_, _], _ => rfl) (fun vs H Q E h => ?_) (fun cdv A outer s H vs Q E hr h => ?_)
  · obtain ⟨v, n, bs, rfl, _⟩ := h
    rfl
  · obtain ⟨v, n, bs, rfl, hv, ⟨n1, n2, n3, hb, hn⟩, q⟩ := h
    obtain ⟨a, xs, rfl, ha, hx⟩ := hv.tupE
    refine ⟨_, pss_cons (ps_if (pt_not (pt_val (pe_callB call_isi (by rfl) z.b_isinstance boot_isinstance (pa_cons (pv 0) (pa_cons (pe_bltn (v := .ty "tuple") (by rfl) z.b_tuple boot_tuple rfl) pa_nil)))))
      (pss_one (ps_ret pe_non))
      pss_nil)
    (pss_cons (ps_set (i := 2) S.nd rfl (Or.inl rfl) pe_dnewK)
    (pss_cons (ps_for PassesOwn.never rfl (pi_enumT (by rfl) z.b_enumerate (pa_cons (pv 0) pa_nil)) (pg_tup rfl (pgs_cons (pg_name (i := 3) S.nd rfl (Or.inl rfl)) (pgs_cons (pg_name (i := 4) S.nd rfl (Or.inl rfl)) pgs_nil)))
      (pss_cons (ps_if (PW.pt (pw_or (pt_cmpR op_eq (pv 3) (C8.pe_gc (by rfl) z.c_MOST_BUTTONS) (nomark _)) (pw_or1 (pt_not (pt_val (pe_f (c_is_button z) hr (by decide) rfl (pa_cons (pv 4) (pa_cons (pv 1) (pa_cons (pv 2) pa_nil)))))))))
        (pss_one (ps_ret (pv 3)))
        pss_nil)
      (pss_one (ps_dput (hu_of hr) (pv 2) (pe_ix ix_tup (pv 4) pe_int (fun _ _ => rfl)) pe_bl rfl))))
    (pss_one (ps_ret (pe_un un_neg pe_int))))), ?_⟩
    refine ⟨_, rfl, _, _, _, _, true, rfl, .ty _, .base (.tup ha), kit_ty (by decide +kernel), _, rfl, iteF ?_⟩
    intro d hd
    have hlen := hx.mlen
    refine ⟨_, rfl, a, _, rfl, SqT.of (Same.new hd _ _ ha), for_it (walk_enumT (xs := xs)) (fun i σ H2 => Same H H2 ∧ H2 d = some (.dK (((bs.take i).map (·.1)).map fun x => (kS x, V.bl true))) ∧ ∃ u v, σ = [some (.ref a), some (.int n), some (.ref d), u, v]) ⟨Same.new hd, by rw [upd_same]; rfl, none, none, rfl⟩ (fun i σ H2 _ p => SqT.of (p.1 _ _ ha)) (fun i x σ H2 H3 hi p hy => ?_) (fun σ H2 p => ?_)⟩
    · obtain ⟨e1, h7, u, v, rfl⟩ := p
      obtain ⟨T, y, g, rfl, hT, rfl, hy, hz⟩ := hy
      replace hz : xs[i]? = some g := hz
      cases hy
      obtain ⟨b, hb1, hb2⟩ := (hx.on e1).mget hz
      have hdT : d ≠ T := ne_of_none h7 hT
      have hbm : b ∈ bs := List.mem_of_getElem? hb1
      have hfr : valV (((bs.take i).map (·.1)).map fun x => (kS x, V.bl true)) (kS b.1) = none := by
        cases e : valV (((bs.take i).map (·.1)).map fun x => (kS x, V.bl true)) (kS b.1) with
        | none => rfl
        | some x =>
          have := valV_in e
          rw [List.map_map] at this
          obtain ⟨y, hy, e2⟩ := List.mem_map.mp this
          obtain ⟨j, hj, e3⟩ := List.getElem_of_mem hy
          have hy2 : (bs.map (·.1))[j]? = some b.1 := by
            rw [← kS_inj _ _ e2, ← e3]
            have : j < i := by
              rw [List.length_map, List.length_take] at hj; omega
            rw [List.getElem_map, List.getElem_take, List.getElem?_map, List.getElem?_eq_getElem]
            rfl
          have hy3 : (bs.map (·.1))[i]? = some b.1 := by rw [List.getElem?_map, hb1]; rfl
          have hji : j < i := by
            rw [List.length_map, List.length_take] at hj; omega
          have := (List.getElem?_inj (i := j) (j := i) (by rw [List.length_map]; omega) hn).mp (hy2.trans hy3.symm)
          omega
      refine ⟨T, _, rfl, SqT.of upd_same, rfl, _, _, rfl, _, _, rfl, rfl, ?_⟩
      refine ⟨_, rfl, rfl, _, rfl, ?_⟩
      rw [decide_eq_false (by intro z; have := V.int.inj z; omega)]
      refine iteF ⟨_, rfl, _, rfl, _, rfl, g, b, n, d, _, rfl, hb2.on (Same.new hT), hb b hbm, n1, n2, (upd_ne hdT).trans h7, hfr, fun H4 e4 => ⟨true, rfl, iteF ?_⟩⟩
      obtain ⟨c, c2, rfl, hc1, hc2⟩ := hb2.bE
      have e5 := (Same.new (o := HO.tup [V.int (i : Nat), V.ref c]) hT).trans e4
      refine ⟨_, rfl, _, rfl, c, _, _, _, rfl, rfl, SqT.of (e5 _ _ hc1), rfl, d, _, rfl, DPut.k (k := kS b.1) (e5 _ _ h7) ?_, ?_⟩
      · rw [List.length_map, List.length_map, List.length_take]
        show _ < 2 ^ 24
        omega
      · refine ⟨Same.mut (e1.trans e5) hd, ?_, _, _, rfl⟩
        rw [upd_same, putK_new hfr, take_some hb1]
        simp
    · obtain ⟨e1, h7, u, v, rfl⟩ := p
      exact ⟨_, rfl, q _ e1⟩
def spTiesFault : Sp := fun vs H Q _ => ∃ (v : V) (n : Nat), vs = [v, .int n] ∧ Im H v (.tuple []) ∧ Q (.int (-1)) H
theorem c_ties_fault (z : Z K mg) : Cal P w K mg base 4 "ties_fault" spTiesFault := by
  have S : FnScope ["value", "size", "index", "tie"] ["value", "size"] (defScope sTiesFault) := ⟨rfl, rfl, rfl, by decide +kernel, rfl, by decide +kernel, by decide +kernel⟩
  refine cal_by z.d_ties_fault z.g_ties_fault S (fun _ _ _ _ _ _ us hl => match us, hl with | [_, _], _ => rfl) (fun vs H Q E h => ?_) (fun cdv A outer s H vs Q E hr h => ?_)
  · obtain ⟨v, n, rfl, _⟩ := h
    rfl
  · obtain ⟨v, n, rfl, hv, q⟩ := h
    obtain ⟨a, xs, rfl, ha, hx⟩ := hv.tupE
    cases hx
    refine ⟨_, pss_cons (ps_if (pt_not (pt_val (pe_callB call_isi (by rfl) z.b_isinstance boot_isinstance (pa_cons (pv 0) (pa_cons (pe_bltn (v := .ty "tuple") (by rfl) z.b_tuple boot_tuple rfl) pa_nil)))))
      (pss_one (ps_ret pe_non))
      pss_nil)
    (pss_cons (ps_for PassesOwn.never rfl (pi_enumT (by rfl) z.b_enumerate (pa_cons (pv 0) pa_nil)) (pg_tup rfl (pgs_cons (pg_name (i := 2) S.nd rfl (Or.inl rfl)) (pgs_cons (pg_name (i := 3) S.nd rfl (Or.inl rfl)) pgs_nil)))
      pss_never)
    (pss_one (ps_ret (pe_un un_neg pe_int)))), ?_⟩
    refine ⟨_, rfl, _, _, _, _, true, rfl, .ty _, .base (.tup ha), kit_ty (by decide +kernel), _, rfl, iteF ?_⟩
    exact ⟨_, rfl, a, _, rfl, SqT.of ha, for_it (walk_enumT (xs := [])) (fun i σ H2 => H2 = H) rfl (fun i σ H2 _ p => by rw [p]; exact SqT.of ha) (fun i x σ H2 H3 hi p hy => absurd hi (Nat.not_lt_zero _)) (fun σ H2 p => by rw [p]; exact ⟨_, rfl, q⟩)⟩
end
end Sb
namespace Sb
open PySem PySem.Spec PyProof.Rows L2
section
variable {H : Hp}
theorem ims_perm {α : Type} {f : α → PyData} {xs ys : List V} (p : ys.Perm xs) : ∀ {l : List α}, Ims H xs (l.map f) → ∃ l' : List α, l'.Perm l ∧ Ims H ys (l'.map f) := by
  induction p with
  | nil => exact fun h => ⟨_, List.Perm.refl _, h⟩
  | @cons x y1 y2 p ih =>
    intro l h
    cases l with
    | nil => cases h
    | cons b l =>
      cases h with
      | cons h1 h2 =>
        obtain ⟨l', p', h'⟩ := ih h2
        exact ⟨b :: l', p'.cons b, .cons h1 h'⟩
  | @swap x y y1 =>
    intro l h
    cases l with
    | nil => cases h
    | cons b l =>
      cases l with
      | nil =>
        cases h with
        | cons h1 h2 => cases h2
      | cons c l =>
        cases h with
        | cons h1 h2 =>
          cases h2 with
          | cons h2 h3 => exact ⟨c :: b :: l, List.Perm.swap b c l, .cons h2 (.cons h1 h3)⟩
  | trans p1 p2 ih1 ih2 =>
    intro l h
    obtain ⟨l1, q1, h1⟩ := ih2 h
    obtain ⟨l2, q2, h2⟩ := ih1 h1
    exact ⟨l2, q2.trans q1, h2⟩
/-- a pair's text -/
def keyOf (H : Hp) (v : V) : Str :=
  match v with
  | .ref t => match H t with
    | some (.tup [.str s, _]) => s
    | _ => ""
  | _ => ""
end
section
variable {P : Program} {w : World} {K : PySem.W.Frag} {mg : Str → Option Value} {base : Heap}
def spBoardInit (K : PySem.W.Frag) : Sp := fun vs H Q _ => ∃ (x dx : Addr) (vb vt : V) (n : Nat) (bs : List Btn), vs = [.ref x, .int n, vb, vt] ∧ H x = some (.ins (gA K "Board") dx []) ∧ Im H vb (eBs bs) ∧ Im H vt (.tuple []) ∧ BtnsOk n bs ∧
  ∀ H' bs', bs'.Perm bs → (∀ b o, b ≠ x → H b = some o → H' b = some o) → Bd K H' (.ref x) n bs' → Q .non H'
theorem k_Board (z : Z K mg) : Mak P w K mg base 5 "Board" (spBoardInit K) := by
  have S : FnScope ["self", "size", "buttons", "ties"] ["self", "size", "buttons", "ties"] (defScope sBoardInit) := ⟨rfl, rfl, rfl, by decide +kernel, rfl, by decide +kernel, by decide +kernel⟩
  refine mak_by z.d_Board___init z.mk_Board z.g_Board S (fun _ _ _ _ _ _ us hl => match us, hl with | [_, _, _, _], _ => rfl) (fun vs H Q E h => ?_) (fun cdv A outer s H vs Q E hr h => ?_)
  · obtain ⟨x, dx, vb, vt, n, bs, rfl, _⟩ := h
    rfl
  · obtain ⟨x, dx, vb, vt, n, bs, rfl, hx, hb, ht, hok, q⟩ := h
    have hok' := hok
    obtain ⟨n1, n2, n3, hbs, hn⟩ := hok'
    refine ⟨_, pss_cons (ps_expr (pe_f (c_check_number z) hr (by decide) rfl (pa_cons (pv 1) (pa_cons pe_int (pa_cons (C8.pe_gc (by rfl) z.c_MOST_PLACES) pa_nil)))))
    (pss_cons (ps_if (pt_cmpR op_ne (pe_f (c_buttons_fault z) hr (by decide) rfl (pa_cons (pv 2) (pa_cons (pv 1) pa_nil))) (pe_un un_neg pe_int) (nomark _))
      pss_never
      pss_nil)
    (pss_cons (ps_if (pt_cmpR op_ne (pe_f (c_ties_fault z) hr (by decide) rfl (pa_cons (pv 3) (pa_cons (pv 1) pa_nil))) (pe_un un_neg pe_int) (nomark _))
      pss_never
      pss_nil)
    (pss_cons (ps_fld (pv 0) (pv 1) rfl)
    (pss_cons (ps_fld (pv 0) (pe_callTy call_tuple_of (by rfl) z.b_tuple boot_tuple (pa_cons (pe_callB cr_sortB (by rfl) z.b_sorted boot_sorted (pa_cons (pv 2) pa_nil)) pa_nil)) rfl)
    (pss_one (ps_fld (pv 0) (pv 3) rfl)))))), ?_⟩
    refine ⟨_, rfl, n, 1, 24, rfl, by omega, by omega, ?_⟩
    refine ⟨_, rfl, _, rfl, vb, n, bs, rfl, hb, hok, fun H1 e1 => ⟨_, rfl, rfl, _, rfl, iteF ?_⟩⟩
    refine ⟨_, rfl, _, rfl, vt, n, rfl, ht.on e1, ⟨_, rfl, rfl, _, rfl, iteF ?_⟩⟩
    refine ⟨_, rfl, _, rfl, x, _, dx, _, rfl, e1 _ _ hx, z.cl_Board, z.n_size, by show 0 < 1000; decide, ?_⟩
    obtain ⟨a, xs, rfl, ha, hxs⟩ := (hb.on e1).tupE
    have hax : a ≠ x := ne_of ha (e1 _ _ hx) (by intro z; cases z)
    have tk1 : TK H1 (upd H1 x (.ins (gA K "Board") dx (putF "size" (.int n) []))) := TK.put (e1 _ _ hx) (fun _ z => by cases z)
    have hxs1 := hxs.by tk1
    generalize hH2 : upd H1 x (.ins (gA K "Board") dx (putF "size" (.int n) [])) = H2 at tk1 hxs1
    have hkey : ∀ (i : Nat) (v : V), xs[i]? = some v → ∃ b, bs[i]? = some b ∧ Im H2 v (eB b) ∧ keyOf H2 v = b.1 := fun i v hv => by
      obtain ⟨b, h1, h2⟩ := hxs1.mget hv
      obtain ⟨c, d, rfl, h3, h4⟩ := h2.bE
      refine ⟨b, h1, h2, ?_⟩
      show (match H2 c with | some (.tup [.str s, _]) => s | _ => "") = b.1
      rw [h3]
    refine ⟨_, rfl, a, xs, keyOf H2, rfl, SqT.of (tk1 _ _ ha), fun v hv => ?_, fun v hv v2 hv2 hk => ?_, fun ys p hp1 hp2 => ⟨p, ys, rfl, .inl ⟨SqL.of upd_same, fun T hT => ?_⟩⟩⟩
    · obtain ⟨i, hi⟩ := List.getElem?_of_mem hv
      obtain ⟨b, h1, h2, h3⟩ := hkey i v hi
      obtain ⟨c, d, rfl, h4, h5⟩ := h2.bE
      exact ⟨c, .ref d, rfl, by rw [h3]; exact h4⟩
    · obtain ⟨i, hi⟩ := List.getElem?_of_mem hv
      obtain ⟨j, hj⟩ := List.getElem?_of_mem hv2
      obtain ⟨b, h1, h2, h3⟩ := hkey i v hi
      obtain ⟨b', h4, h5, h6⟩ := hkey j v2 hj
      have e : i = j := by
        refine (List.getElem?_inj (l := bs.map (·.1)) (i := i) (j := j) ?_ hn).mp ?_
        · rw [List.length_map]
          exact (List.getElem?_eq_some_iff.mp h1).1
        · rw [List.getElem?_map, List.getElem?_map, h1, h4]
          show some b.1 = some b'.1
          rw [← h3, ← h6, hk]
      subst e
      rw [hi] at hj
      exact Option.some.inj hj
    · obtain ⟨bs', pb, hbs'⟩ := ims_perm hp1 hxs1
      have hx2 : H2 x = some (.ins (gA K "Board") dx (putF "size" (.int n) [])) := by rw [← hH2]; exact upd_same
      have e2 := (Same.new (o := HO.lst ys) hp2).trans (Same.new (o := HO.tup ys) hT)
      have hx3 := e2 _ _ hx2
      have hTx : T ≠ x := fun z => by rw [z] at hT; rw [Same.new hp2 _ _ hx2] at hT; cases hT
      refine ⟨_, rfl, x, _, dx, _, rfl, hx3, z.cl_Board, z.n_buttons, by show 1 < 1000; decide, ?_⟩
      refine ⟨_, rfl, _, rfl, x, _, dx, _, rfl, upd_same, z.cl_Board, z.n_ties, by show 2 < 1000; decide, ?_⟩
      refine q _ bs' pb (fun b o hb hbo => ?_) ⟨x, dx, .ref T, vt, rfl, upd_same, ?_⟩
      · rw [upd_ne hb, upd_ne hb]
        refine e2 _ _ ?_
        rw [← hH2, upd_ne hb]
        exact e1 _ _ hbo
      · have tk3 := TK.put (o := .ins (gA K "Board") dx (putF "buttons" (.ref T) (putF "size" (.int n) []))) hx3 (fun _ z => by cases z)
        refine .tup ((upd_ne hTx).trans ((upd_ne hTx).trans upd_same)) ?_
        exact ((hbs'.on e2).by tk3).by (TK.put upd_same (fun _ z => by cases z))
def spNames (K : PySem.W.Frag) : Sp := fun vs H Q _ => ∃ (v : V) (n : Nat) (bs : List Btn), vs = [v] ∧ Bd K H v n bs ∧ bs.length ≤ 8 ∧ ∀ r H', Same H H' → Im H' r (eNs (bs.map (·.1))) → Q r H'
theorem c_names (z : Z K mg) : Get P w K mg base 1 "Board" "names" (getAd K) (spNames K) := by
  have S : FnScope ["self", "name", "turn"] ["self"] (defScope sBoardNames) := ⟨rfl, rfl, rfl, by decide +kernel, rfl, by decide +kernel, by decide +kernel⟩
  refine get_by z.d_Board_names z.cl_Board z.prop S (fun _ _ _ _ _ _ us hl => match us, hl with | [_], _ => rfl) (fun vs H Q E h => ?_) (fun cdv A outer s H vs Q E hr h => ?_)
  · obtain ⟨v, n, bs, rfl, _⟩ := h
    rfl
  · obtain ⟨v, n, bs, rfl, ⟨a, dx, T, E1, rfl, ha, hT⟩, hl, q⟩ := h
    refine ⟨_, pss_one (ps_ret (pe_callTy call_tuple_of (by rfl) z.b_tuple boot_tuple (pa_cons (pe_lc (own := [("name", 1), ("turn", 2)]) (g := gTup K 2 (gCons (gName 1) (gCons (gName 2) gNil))) rfl S.nd (pi_tup (pe_fld (pv 0) rfl)) (blkOk_by (own := [("name", 1), ("turn", 2)]) (N := ["self", "name", "turn"]) (sc := defScope sBoardNames) (by decide +kernel)) (fun _ _ _ _ _ => (pg_tup rfl (pgs_cons (pg_name (i := 1) S.nd rfl (Or.inl rfl)) (pgs_cons (pg_name (i := 2) S.nd rfl (Or.inl rfl)) pgs_nil)))) (fun _ _ _ _ _ => pts_nil) (fun _ _ _ _ _ => (pv 1))) pa_nil))), ?_⟩
    obtain ⟨b, xs, rfl, hb, hxs⟩ := hT.tupE
    have hl2 := hxs.mlen
    refine ⟨_, rfl, a, _, dx, _, _, rfl, ha, z.cl_Board, z.n_buttons, rfl, b, rfl, ⟨_, SqT.of hb⟩, fun D hD => lc_data (walk_tup (xs := xs)) ((bs.map (·.1)).map .str) (by rw [List.length_map, List.length_map, hl2]) (by show _ ≤ 2 ^ 24; omega) hD (fun H1 e => SqT.of (e _ _ hb)) yat_same (fun i y H1 H2 Nx hi e e2 hy q => ?_) (fun H1 ys e h5 h6 => ?_)⟩
    · obtain ⟨rfl, hc⟩ := hy
      obtain ⟨bt, h7, h8⟩ := hxs.mget hc
      obtain ⟨c, d, rfl, h9, h10⟩ := (h8.on e).bE
      refine ⟨c, _, rfl, SqT.of h9, rfl, _, _, rfl, _, _, rfl, rfl, rfl, _, rfl, ?_⟩
      exact q _ _ _ (Same.refl _) (by simp [h7]) (.str _)
    · exact ⟨D, ys, rfl, .inl ⟨SqL.of h5, fun l hl => q _ _ (e.trans (Same.new hl)) (.tup upd_same (h6.on (Same.new hl)))⟩⟩
def spTurn (K : PySem.W.Frag) : Sp := fun vs H Q _ => ∃ (v : V) (x : Str) (n : Nat) (bs : List Btn) (t : Trn), vs = [v, .str x] ∧ Bd K H v n bs ∧ getA bs x = some t ∧ ∀ r, Im H r (eT t) → Q r H
theorem m_turn (z : Z K mg) : Met P w K mg base 1 "Board" "turn" (spTurn K) := by
  have S : FnScope ["self", "name", "known", "turn"] ["self", "name"] (defScope sBoardTurn) := ⟨rfl, rfl, rfl, by decide +kernel, rfl, by decide +kernel, by decide +kernel⟩
  refine met_by z.d_Board_turn z.cl_Board z.m_turn S (fun _ _ _ _ _ _ us hl => match us, hl with | [_, _], _ => rfl) (fun vs H Q E h => ?_) (fun cdv A outer s H vs Q E hr h => ?_)
  · obtain ⟨v, x, n, bs, t, rfl, _⟩ := h
    rfl
  · obtain ⟨v, x, n, bs, t, rfl, ⟨a, dx, T, E1, rfl, ha, hT⟩, hg, q⟩ := h
    refine ⟨_, pss_cons (ps_for PassesOwn.never rfl (pi_tup (pe_fld (pv 0) rfl)) (pg_tup rfl (pgs_cons (pg_name (i := 2) S.nd rfl (Or.inl rfl)) (pgs_cons (pg_name (i := 3) S.nd rfl (Or.inl rfl)) pgs_nil)))
      (pss_one (ps_if (pt_cmpR op_eq (pv 2) (pv 1) (nomark _)) (pss_one (ps_ret (pv 3))) pss_nil))) pss_never, ?_⟩
    obtain ⟨b, xs, rfl, hb, hxs⟩ := hT.tupE
    have hl2 := hxs.mlen
    refine ⟨_, rfl, a, _, dx, _, _, rfl, ha, z.cl_Board, z.n_buttons, rfl, b, rfl, ⟨_, SqT.of hb⟩, for_it (walk_tup (xs := xs)) (fun i σ H2 => H2 = H ∧ (∀ p ∈ bs.take i, p.1 ≠ x) ∧ ∃ u v, σ = [some (.ref a), some (.str x), u, v]) ⟨rfl, fun _ m => (by simp at m), none, none, rfl⟩ (fun i σ H2 _ p => by rw [p.1]; exact SqT.of hb) (fun i y σ H2 H3 hi p hy => ?_) (fun σ H2 p => ?_)⟩
    · obtain ⟨rfl, hf, u, v, rfl⟩ := p
      obtain ⟨rfl, hc⟩ := hy
      obtain ⟨bt, h7, h8⟩ := hxs.mget hc
      obtain ⟨c, d, rfl, h9, h10⟩ := h8.bE
      refine ⟨c, _, rfl, SqT.of h9, rfl, _, _, rfl, _, _, rfl, rfl, _, rfl, _, rfl, rfl, _, rfl, ?_⟩
      by_cases e : bt.1 = x
      · rw [decide_eq_true (congrArg V.str e)]
        refine iteT ⟨_, rfl, q _ (im_t ?_)⟩
        have : getA bs x = some bt.2 := by
          unfold getA
          have : bs.find? (fun p => decide (p.1 = x)) = some bt := by
            rw [List.find?_eq_some_iff_getElem]
            obtain ⟨hi2, hbt⟩ := List.getElem?_eq_some_iff.mp h7
            refine ⟨decide_eq_true e, i, hi2, hbt, fun j hj => ?_⟩
            rw [Bool.not_eq_true', decide_eq_false_iff_not]
            refine hf _ ?_
            rw [List.mem_take_iff_getElem]
            exact ⟨j, by omega, rfl⟩
          rw [this]
          rfl
        rw [hg] at this
        rw [Option.some.inj this]
        exact h10
      · rw [decide_eq_false fun z => e (V.str.inj z)]
        refine iteF ⟨rfl, fun p m => ?_, _, _, rfl⟩
        rw [take_some h7] at m
        rcases List.mem_append.mp m with m | m
        · exact hf p m
        · rw [List.mem_singleton] at m
          rw [m]
          exact e
    · obtain ⟨rfl, hf, u, v, rfl⟩ := p
      rw [hl2, List.take_length] at hf
      exact absurd rfl (hf _ (getA_mem hg))
def spCheckBoard (K : PySem.W.Frag) : Sp := fun vs H Q _ => ∃ (v : V) (n : Nat) (bs : List Btn), vs = [v] ∧ Bd K H v n bs ∧ Q .non H
theorem c_check_board (z : Z K mg) : Cal P w K mg base 1 "check_board" (spCheckBoard K) := by
  have S : FnScope ["value"] ["value"] (defScope sCheckBoard) := ⟨rfl, rfl, rfl, by decide +kernel, rfl, by decide +kernel, by decide +kernel⟩
  refine cal_by z.d_check_board z.g_check_board S (fun _ _ _ _ _ _ us hl => match us, hl with | [_], _ => rfl) (fun vs H Q E h => ?_) (fun cdv A outer s H vs Q E hr h => ?_)
  · obtain ⟨v, n, bs, rfl, _⟩ := h
    rfl
  · obtain ⟨v, n, bs, rfl, ⟨a, dx, T, E1, rfl, ha, hT⟩, q⟩ := h
    refine ⟨_, pss_one (ps_if (pt_not (pt_val (pe_callB (C8.call_isC z.ins) (by rfl) z.b_isinstance boot_isinstance (pa_cons (pv 0) (pa_cons (pe_glob (v := .ref (gA K "Board")) (by rfl) z.g_Board rfl) pa_nil)))))
      pss_never
      pss_nil), ?_⟩
    exact ⟨_, rfl, a, dx, _, rfl, ha, true, rfl, iteF q⟩
end
end Sb
namespace Sb
open PySem
def tOf (bs : List Btn) (x : Str) : Trn := (getA bs x).getD []
def turnTo (n : Nat) (bs : List Btn) (r : Row) : Nat → Trn
  | 0 => List.range n
  | i + 1 => aft (turnTo n bs r i) (rai (tOf bs (r.getD i ("", 0)).1) (r.getD i ("", 0)).2)
def turnFor (n : Nat) (bs : List Btn) (r : Row) : Trn := turnTo n bs r r.length
def PressOk (bs : List Btn) (p : Press) : Prop := p.1 ∈ bs.map (·.1) ∧ -(10 ^ 30) ≤ p.2 ∧ p.2 ≤ 10 ^ 30 ∧ p.2 ≠ 0
def RowOk (bs : List Btn) (r : Row) : Prop := r.length ≤ 2000 ∧ ∀ p ∈ r, PressOk bs p
def Known (bs : List Btn) (r : Row) : Prop := ∀ p ∈ r, p.1 ∈ bs.map (·.1)
theorem RowOk.known {bs : List Btn} {r : Row} (h : RowOk bs r) : Known bs r := fun p m => (h.2 p m).1
def backRow (r : Row) : Row := r.reverse.map fun p => (p.1, -p.2)
/-- the neighbours of one name put together -/
def putTo (f : Row) (p : Press) : Row :=
  match f.getLast? with
  | some q => if q.1 = p.1 then f.dropLast ++ [(p.1, q.2 + p.2)] else f ++ [p]
  | none => f ++ [p]
def together (r : Row) : Row := r.foldl putTo []
def near (k : Int) (W : Nat) : Int := if 2 * (k % W) ≤ W then k % W else k % W - W
def whole (t : Trn) : Nat := lcms ((rings t).map List.length)
def shStep (bs : List Btn) (r : Row) : Row := ((together r).map fun p => (p.1, near p.2 (whole (tOf bs p.1)))).filter fun p => decide (p.2 ≠ 0)
def shN (bs : List Btn) : Nat → Row → Row
  | 0, r => r
  | k + 1, r => shStep bs (shN bs k r)
def StOk (n : Nat) (l : List Nat) : Prop := l.length = n ∧ ∀ c ∈ l, c ∈ ("abcdefghijklmnopqrstuvwxyz" : Str).cps.toList ∨ c = 45
theorem tOf_some {bs : List Btn} {x : Str} (h : x ∈ bs.map (·.1)) : getA bs x = some (tOf bs x) ∧ (x, tOf bs x) ∈ bs := by
  obtain ⟨t, ht⟩ := getA_some_iff.mpr h
  have : tOf bs x = t := by unfold tOf; rw [ht]; rfl
  rw [this]
  exact ⟨ht, getA_mem ht⟩
theorem lcm_step (a b : Nat) : a / Nat.gcd a b * b = Nat.lcm a b := by
  unfold Nat.lcm
  exact Nat.div_mul_right_comm (Nat.gcd_dvd_left a b) b
theorem lcmTo_dvd {ns : List Nat} {m : Nat} : ∀ i, i ≤ ns.length → (lcmTo ns i ∣ m ↔ ∀ j, j < i → gt ns j ∣ m)
  | 0, _ => ⟨fun _ j h => absurd h (Nat.not_lt_zero _), fun _ => Nat.one_dvd _⟩
  | i + 1, hi => by
    rw [lcmTo, lcm_step, Nat.lcm_dvd_iff, lcmTo_dvd i (by omega)]
    constructor
    · rintro ⟨h1, h2⟩ j hj
      by_cases e : j = i
      · rw [e]; exact h2
      · exact h1 j (by omega)
    · exact fun h => ⟨fun j hj => h j (by omega), h i (by omega)⟩
theorem lcms_dvd {ns : List Nat} {m : Nat} : lcms ns ∣ m ↔ ∀ x ∈ ns, x ∣ m := by
  unfold lcms
  rw [lcmTo_dvd _ (Nat.le_refl _)]
  constructor
  · intro h x hx
    obtain ⟨i, hi⟩ := List.getElem?_of_mem hx
    have := h i (List.getElem?_eq_some_iff.mp hi).1
    rwa [gt_eq hi] at this
  · exact fun h j hj => h _ (gt_mem hj)
theorem lcms_perm {ns ms : List Nat} (p : ns.Perm ms) : lcms ns = lcms ms :=
  Nat.dvd_antisymm (lcms_dvd.mpr fun x hx => lcms_dvd.mp (Nat.dvd_refl _) x (p.mem_iff.mp hx)) (lcms_dvd.mpr fun x hx => lcms_dvd.mp (Nat.dvd_refl _) x (p.mem_iff.mpr hx))
theorem ringsTo_ne {t : Trn} : ∀ i, ∀ r ∈ (ringsTo t i).2, r ≠ []
  | 0, r, m => by simp [ringsTo] at m
  | i + 1, r, m => by
    simp only [ringsTo] at m
    split at m
    · exact ringsTo_ne i r m
    · rename_i h
      rcases List.mem_append.mp m with m | m
      · exact ringsTo_ne i r m
      · rw [List.mem_singleton] at m; rw [m]; exact h
end Sb
namespace Sb
open PySem PySem.Spec PyProof.Rows L2
section
variable {prog : Program} {w : World} {A : Around} {E : Value → Shared → Prop} {s : Shared} {z TI TO i1 i2 T : Addr} {fp1 fp2 : List Addr} {n1 n2 i : Nat} {P1 P2 : Nat → Value → Prop} {St1 St2 : Nat → Heap → Prop} {f : Bool} {oT : Obj}
/-- a zip's next while the pair it gave out is still held -/
theorem zipHeld_item {Q : Option Value → Shared → Prop} (S : ZipSep2 z TI TO i1 i2 fp1 fp2) (D1 : Draws prog w A.in1 i1 fp1 n1 P1 St1) (D2 : Draws prog w A.in1 i2 fp2 n2 P2 St2)
    (hz : IsZipHeld s.heap z TI TO T f) (hT : s.heap.get? T = some oT) (hTI : IsTupOf2 s.heap TI (.ref i1) (.ref i2)) (st1 : St1 i s.heap) (st2 : St2 i s.heap) (hlt1 : i < n1) (hlt2 : i < n2)
    (hQ : ∀ x1 x2 h' tk, P1 i x1 → P2 i x2 → IsZipHeld h' z TI TO T true → St1 (i + 1) h' → St2 (i + 1) h' → IsTupOf2 h' s.heap.objs.size x1 x2 →
      (∀ c o, c ≠ z → c ≠ i1 → c ≠ i2 → s.heap.get? c = some o → h'.get? c = some o) → Q (some (.ref s.heap.objs.size)) { s with heap := h', toks := tk }) :
    wpAny (model prog w) A (pyNext (.ref z)) Q E s := by
  have hTy : s.TypeIs (.ref z) "zip" := ⟨_, hz, rfl⟩
  unfold pyNext
  refine wpAny_bind (wpAny_attempt (wpAny_callSpecial?_slot (name := Str.ofString "__next__") hTy F.slot_zip_next (wpAny_call_entry F.slot_zip_next hTy F.entry_zip_next ?_ (F.args_zip_next_1 _))))
  show wpAny _ _ (field (.ref z) 2 >>= _) _ _ _
  refine wpAny_bind (wpAny_field hz rfl (x := .bool false) rfl ?_)
  show wpAny _ _ (field (.ref z) 3 >>= _) _ _ _
  refine wpAny_bind (wpAny_field hz rfl (x := .ref TI) rfl ?_)
  refine wpAny_bind (wpAny_seqItems hTI rfl ?_)
  show wpAny _ _ (Builtin.SmallTypes.ownedTupleIsFree (.ref z) >>= _) _ _ _
  refine wpAny_bind (wpAny_tupleHeld_zip hz hT fun h₁ hz₁ hs₁ => ?_)
  simp only [Bool.false_eq_true, if_false]
  refine wpAny_bind ?_
  rw [← Array.forIn_toList]
  simp only [List.forIn_cons, List.forIn_nil]
  refine wpAny_bind (wpAny_bind (wpAny_holding ?_))
  show wpAny _ _ (Builtin.SmallTypes.nextOf (.ref i1) >>= _) _ _ _
  refine wpAny_bind (D1.item i { s with heap := h₁ } _ _ hlt1 (D1.over st1 hs₁ S.zf1) fun x1 h₂ tk2 p1 st1₂ hs₂ => wpAny_pure ?_)
  refine wpAny_pure ?_
  refine wpAny_bind (wpAny_bind (wpAny_holding ?_))
  show wpAny _ _ (Builtin.SmallTypes.nextOf (.ref i2) >>= _) _ _ _
  refine wpAny_bind (D2.item i { s with heap := h₂, toks := tk2 } _ _ hlt2 (D2.over (D2.over st2 hs₁ S.zf2) hs₂ S.sep1_2) fun x2 h₃ tk3 p2 st2₃ hs₃ => wpAny_pure ?_)
  refine wpAny_pure (wpAny_pure ?_)
  show wpAny _ _ (newTuple [x1, x2] >>= _) _ _ _
  refine wpAny_bind (wpAny_newTuple ?_)
  have hsz : h₃.objs.size = s.heap.objs.size := by rw [hs₃.1, hs₂.1, hs₁.1]
  have hz₃ : IsZipHeld h₃ z TI TO T true := hs₃.extBut _ _ S.zi2 (hs₂.extBut _ _ S.zi1 hz₁)
  have hk : ∀ c o, c ≠ z → c ≠ i1 → c ≠ i2 → s.heap.get? c = some o → h₃.get? c = some o := fun c o c1 c2 c3 e => hs₃.extBut _ _ c3 (hs₂.extBut _ _ c2 (hs₁.extBut _ _ c1 e))
  have st1₃ : St1 (i + 1) h₃ := D1.over st1₂ hs₃ S.sep2_1
  refine wpAny_pure ⟨_, rfl, wpAny_pure ?_⟩
  show Q (some (.ref h₃.objs.size)) _
  have hp : IsTupOf2 (h₃.push { cls := .type "tuple", data := .seq #[x1, x2] }) h₃.objs.size x1 x2 := Heap.get?_push_size _ rfl
  rw [hsz] at hp ⊢
  exact hQ x1 x2 _ tk3 p1 p2 (Heap.get?_push_of_some _ hz₃) (D1.frame _ _ _ st1₃ fun b _ o e => Heap.get?_push_of_some _ e) (D2.frame _ _ _ st2₃ fun b _ o e => Heap.get?_push_of_some _ e) hp fun c o c1 c2 c3 e => Heap.get?_push_of_some _ (hk c o c1 c2 c3 e)
theorem zipHeld_end {Q : Option Value → Shared → Prop} (S : ZipSep2 z TI TO i1 i2 fp1 fp2) (D1 : Draws prog w A.in1 i1 fp1 n1 P1 St1) (D2 : Draws prog w A.in1 i2 fp2 n2 P2 St2)
    (hz : IsZipHeld s.heap z TI TO T f) (hT : s.heap.get? T = some oT) (hTI : IsTupOf2 s.heap TI (.ref i1) (.ref i2)) (st1 : St1 n1 s.heap) (st2 : St2 n1 s.heap)
    (hQ : ∀ h', (∀ c o, c ≠ z → c ≠ i1 → s.heap.get? c = some o → h'.get? c = some o) → Q none { s with heap := h' }) :
    wpAny (model prog w) A (pyNext (.ref z)) Q E s := by
  have hTy : s.TypeIs (.ref z) "zip" := ⟨_, hz, rfl⟩
  unfold pyNext
  refine wpAny_bind (wpAny_attempt (wpAny_callSpecial?_slot (name := Str.ofString "__next__") hTy F.slot_zip_next (wpAny_call_entry F.slot_zip_next hTy F.entry_zip_next ?_ (F.args_zip_next_1 _))))
  show wpAny _ _ (field (.ref z) 2 >>= _) _ _ _
  refine wpAny_bind (wpAny_field hz rfl (x := .bool false) rfl ?_)
  show wpAny _ _ (field (.ref z) 3 >>= _) _ _ _
  refine wpAny_bind (wpAny_field hz rfl (x := .ref TI) rfl ?_)
  refine wpAny_bind (wpAny_seqItems hTI rfl ?_)
  show wpAny _ _ (Builtin.SmallTypes.ownedTupleIsFree (.ref z) >>= _) _ _ _
  refine wpAny_bind (wpAny_tupleHeld_zip hz hT fun h₁ hz₁ hs₁ => ?_)
  simp only [Bool.false_eq_true, if_false]
  refine wpAny_bind ?_
  rw [← Array.forIn_toList]
  simp only [List.forIn_cons, List.forIn_nil]
  refine wpAny_bind (wpAny_bind (wpAny_holding ?_))
  show wpAny _ _ (Builtin.SmallTypes.nextOf (.ref i1) >>= _) _ _ _
  refine wpAny_bind (D1.done { s with heap := h₁ } _ _ (D1.over st1 hs₁ S.zf1) fun h₂ e hs₂ he => ?_)
  obtain ⟨o, ho, hc⟩ := he
  refine wpAny_bind (wpAny_isInstance (T := "StopIteration") (b := true) ⟨o, ho, hc⟩ isSubtype_stop ?_)
  exact wpAny_pure (hQ _ fun c o c1 c2 x => hs₂ _ _ c2 (hs₁.extBut _ _ c1 x))
end
section
variable {prog : Program} {w : World}
abbrev stT (i1 t : Addr) (xs : Array Value) (i : Nat) (h : Heap) : Prop := h.IsTupleIter i1 t i ∧ h.IsTuple t xs
abbrev stS (i2 : Addr) (x : Str) (tk : Tok) (i : Nat) (h : Heap) : Prop := h.IsStrIter i2 (strIterType x) x tk i
theorem stT_at {i1 t : Addr} {xs : Array Value} {i : Nat} {h h' : Heap} (st : stT i1 t xs i h) (k1 : ∀ o, h.get? i1 = some o → h'.get? i1 = some o) (k2 : ∀ o, h.get? t = some o → h'.get? t = some o) : stT i1 t xs i h' := by
  obtain ⟨⟨o, e, r⟩, o2, e2, r2⟩ := st
  exact ⟨⟨o, k1 _ e, r⟩, o2, k2 _ e2, r2⟩
theorem stS_at {i2 : Addr} {x : Str} {tk : Tok} {i : Nat} {h h' : Heap} (st : stS i2 x tk i h) (k : ∀ o, h.get? i2 = some o → h'.get? i2 = some o) : stS i2 x tk i h' := by
  obtain ⟨o, e, r⟩ := st
  exact ⟨o, k _ e, r⟩
/-- zip(t, x), t a tuple, x a text of as many signs -/
theorem pairs_zipTS (z TI TO i1 i2 t : Addr) (x : Str) (tk : Tok) (xs : Array Value) (S : ZipSep2 z TI TO i1 i2 [i1, t] [i2]) (hti : t ≠ i1) (hl : xs.size = x.cps.size) :
    PairArg prog w "zip" z [z, TI, TO, i1, i2, t] [z, TO, i1, i2] xs.size (fun i k v => xs[i]? = some k ∧ ∃ c u, x.cps[i]? = some c ∧ v = .str ⟨#[c]⟩ u)
      (fun h => IsZip h z TI TO .none ∧ IsTupOf2 h TI (.ref i1) (.ref i2) ∧ (∃ a b, IsTupOf2 h TO a b) ∧ stT i1 t xs 0 h ∧ stS i2 x tk 0 h) where
  type := fun s ok => ⟨_, ok.1, rfl⟩
  notDict := by decide
  keep := fun h h' ok hk => by
    obtain ⟨hz, hTI, ⟨a, b, hTO⟩, s1, s2⟩ := ok
    exact ⟨hk _ _ hz, hk _ _ hTI, ⟨a, b, hk _ _ hTO⟩, stT_at s1 (fun o e => hk _ o e) (fun o e => hk _ o e), stS_at s2 fun o e => hk _ o e⟩
  there := fun h ok b hb => by
    obtain ⟨hz, hTI, ⟨a, c, hTO⟩, ⟨⟨o1, h1, _⟩, o2, h2, _⟩, o3, h3, _⟩ := ok
    simp only [List.mem_cons, List.not_mem_nil, or_false] at hb
    rcases hb with e | e | e | e | e | e <;> rw [e]
    all_goals first | exact ⟨_, hz⟩ | exact ⟨_, hTI⟩ | exact ⟨_, hTO⟩ | exact ⟨_, h1⟩ | exact ⟨_, h3⟩ | exact ⟨_, h2⟩
  sub := fun b hb => by
    simp at hb ⊢
    rcases hb with e | e | e | e <;> simp [e]
  noKeys := fun A s Q E hA ok h => getAttrOr_miss_zip ok.1 rfl rfl rfl zip_no_keys (by decide +kernel) hA h
  iter := fun A s d Q E hA ok hd hdf h => by
    obtain ⟨hz, hTI, ⟨a, b, hTO⟩, s1, s2⟩ := ok
    simp only [List.mem_cons, List.not_mem_nil, or_false, not_or] at hdf
    obtain ⟨dz, dTI, dTO, di1, di2, dt⟩ := hdf
    have D1 := Draws.tuple (prog := prog) (w := w) (A := A.in1) hA i1 t hti xs
    have D2 := Draws.text (prog := prog) (w := w) (A := A.in1) hA i2 x tk
    refine wpAny_pyIter_zip hz (h z [z, TO, i1, i2] (fun i h => IsTupOf2 h TI (.ref i1) (.ref i2) ∧ stT i1 t xs i h ∧ stS i2 x tk i h ∧
      ((IsZip h z TI TO .none ∧ ∃ a b, IsTupOf2 h TO a b) ∨ ∃ T f oT, IsZipHeld h z TI TO T f ∧ h.get? T = some oT ∧ T ≠ z ∧ T ≠ i1 ∧ T ≠ i2 ∧ T ≠ d)) s.heap s.toks ?_
      ⟨hTI, s1, s2, .inl ⟨hz, a, b, hTO⟩⟩ (fun _ _ e => e) fun b hb => .inl hb)
    exact {
      off := fun hm => by
        simp only [List.mem_cons, List.not_mem_nil, or_false] at hm
        rcases hm with e | e | e | e
        · exact dz e
        · exact dTO e
        · exact di1 e
        · exact di2 e
      frame := fun i h₁ h₂ st hk => by
        obtain ⟨hTI, s1, s2, hz⟩ := st
        refine ⟨hk _ _ (Ne.symm dTI) hTI, stT_at s1 (fun o e => hk _ o (Ne.symm di1) e) (fun o e => hk _ o (Ne.symm dt) e), stS_at s2 fun o e => hk _ o (Ne.symm di2) e, ?_⟩
        rcases hz with ⟨hz, a, b, hTO⟩ | ⟨T, f, oT, hz, hT, r1, r2, r3, r4⟩
        · exact .inl ⟨hk _ _ (Ne.symm dz) hz, a, b, hk _ _ (Ne.symm dTO) hTO⟩
        · exact .inr ⟨T, f, oT, hk _ _ (Ne.symm dz) hz, hk _ _ r4 hT, r1, r2, r3, r4⟩
      item := fun i s₁ Q₁ E₁ hi st hds hQ => by
        obtain ⟨hTI, s1, s2, hz⟩ := st
        have hiy : i < x.cps.size := hl ▸ hi
        have lt : ∀ {c o}, s₁.heap.get? c = some o → s₁.heap.objs.size ≠ c := fun e => Nat.ne_of_gt (Heap.lt_size e)
        have n1 : s₁.heap.objs.size ≠ i1 := by
          obtain ⟨⟨_, e, _⟩, _⟩ := s1
          exact lt e
        have n2 : s₁.heap.objs.size ≠ i2 := by
          obtain ⟨_, e, _⟩ := s2
          exact lt e
        rcases hz with ⟨hz, a, b, hTO⟩ | ⟨T, f, oT, hz, hT, r1, r2, r3, r4⟩
        · refine wpAny_pyNext_zipD2_item S D1 D2 hz hTI hTO s1 s2 hi hiy fun y1 y2 h' tk' p1 p2 a1 a2 c1 c2 a5 a6 hk => ?_
          exact hQ s₁.heap.objs.size _ _ h' tk' ⟨p1, p2⟩ (.inl ⟨_, a5, rfl, _, rfl⟩)
            ⟨hk _ _ S.TIz S.TITO S.TIi1 S.TIi2 hTI, c1, c2, .inr ⟨s₁.heap.objs.size, false, _, a1, a5, lt hz, n1, n2, Nat.ne_of_gt hds⟩⟩
            fun c o hc e => hk c o (fun x => hc (by simp [x])) (fun x => hc (by simp [x])) (fun x => hc (by simp [x])) (fun x => hc (by simp [x])) e
        · refine zipHeld_item S D1 D2 hz hT hTI s1 s2 hi hiy fun y1 y2 h' tk' p1 p2 a1 c1 c2 a5 hk => ?_
          exact hQ s₁.heap.objs.size _ _ h' tk' ⟨p1, p2⟩ (.inl ⟨_, a5, rfl, _, rfl⟩)
            ⟨hk _ _ S.TIz S.TIi1 S.TIi2 hTI, c1, c2, .inr ⟨T, true, oT, a1, hk _ _ r1 r2 r3 hT, r1, r2, r3, r4⟩⟩
            fun c o hc e => hk c o (fun x => hc (by simp [x])) (fun x => hc (by simp [x])) (fun x => hc (by simp [x])) e
      done := fun s₁ Q₁ E₁ st hQ => by
        obtain ⟨hTI, s1, s2, hz⟩ := st
        rcases hz with ⟨hz, a, b, hTO⟩ | ⟨T, f, oT, hz, hT, r1, r2, r3, r4⟩
        · exact wpAny_pyNext_zipD2_end S D1 D2 hz hTI hTO s1 s2 (Nat.le_refl _) (Nat.le_of_eq hl) (.inl rfl) fun h' tk' hk => hQ h' tk' fun c o hc e => hk c o (fun x => hc (by simp [x])) (fun x => hc (by simp [x])) (fun x => hc (by simp [x])) (fun x => hc (by simp [x])) e
        · exact zipHeld_end S D1 D2 hz hT hTI s1 s2 fun h' hk => hQ h' s₁.toks fun c o hc e => hk c o (fun x => hc (by simp [x])) (fun x => hc (by simp [x])) e }
end
section
variable {prog : Program} {w : World} {A : Around} {E : Value → Shared → Prop} {s : Shared}
theorem kv_absent {kvs : List (Key × Value)} {k : Key} {v : Value} (h : ∀ p ∈ kvs, p.1 ≠ k) : stored kvs k v = kvs ++ [(k, v)] := by
  unfold stored
  rw [if_neg]
  intro c
  obtain ⟨p, hp, e⟩ := List.any_eq_true.mp c
  exact h p hp (of_decide_eq_true e)
theorem kv_snoc {κ : Type} : ∀ {xs : List (κ × V)} {ys : List (κ × Value)} {k : κ} {v : V} {u : Value}, KV xs ys → RelV v u → KV (xs ++ [(k, v)]) (ys ++ [(k, u)])
  | [], [], k, v, u, _, r => .cons ⟨rfl, r⟩ .nil
  | _ :: _, _ :: _, _, _, _, .cons h t, r => .cons h (kv_snoc t r)
  | [], _ :: _, _, _, _, h, _ => by cases h
  | _ :: _, [], _, _, _, h, _ => by cases h
/-- the pairs of dict(zip(t, x)) -/
def zipKV (t : List Nat) (x : Str) : List (Key × V) := (t.zip x.cps.toList).map fun p => (Sum.inl (p.1 : Int), V.str ⟨#[p.2]⟩)
theorem zipKV_get {t : List Nat} {x : Str} {i n c : Nat} (h1 : t[i]? = some n) (h2 : x.cps[i]? = some c) : (zipKV t x)[i]? = some (Sum.inl (n : Int), V.str ⟨#[c]⟩) := by
  unfold zipKV
  rw [List.getElem?_map]
  have e : (t.zip x.cps.toList)[i]? = some (n, c) := by
    rw [List.getElem?_zip_eq_some]
    exact ⟨h1, by rw [Array.getElem?_toList]; exact h2⟩
  rw [e]
  rfl
theorem call_dict_TS {z TI TO i1 i2 t : Addr} {x : Str} {tk : Tok} {xs : List Value} {ns : List Nat} {Q : Value → Shared → Prop} (hh : A.handled = none) (S : ZipSep2 z TI TO i1 i2 [i1, t] [i2]) (hti : t ≠ i1) (hl : ns.length = x.cps.size) (hv : Vals (vN ns) xs) (hn : ns.Nodup) (hz : ns.length ≤ sizeLine)
    (ok : IsZip s.heap z TI TO .none ∧ IsTupOf2 s.heap TI (.ref i1) (.ref i2) ∧ (∃ a b, IsTupOf2 s.heap TO a b) ∧ stT i1 t xs.toArray 0 s.heap ∧ stS i2 x tk 0 s.heap)
    (h : ∀ h' tk' kvs, h'.DictOf (mixKind prog w) s.heap.objs.size kvs → KV (zipKV ns x) kvs → (∀ b o, b ∉ [z, TO, i1, i2] → s.heap.get? b = some o → h'.get? b = some o) → Q (.ref s.heap.objs.size) { s with heap := h', toks := tk' }) :
    wpAny (model prog w) A (call (.type "dict") [.ref z]) Q E s := by
  have hxl : xs.length = ns.length := by rw [← hv.length, vN_len]
  have hsz : xs.toArray.size = x.cps.size := by rw [List.size_toArray, hxl, hl]
  have P := pairs_zipTS (prog := prog) (w := w) z TI TO i1 i2 t x tk xs.toArray S hti hsz
  refine call_dict_arg P ok fun s₁ hs₁ hdf ok₁ => ?_
  subst hs₁
  refine updateFrom_arg (A := A.in1) (Tab := fun i h => ∃ kvs, h.DictOf (mixKind prog w) s.heap.objs.size kvs ∧ KV ((zipKV ns x).take i) kvs) P .none hh ok₁ hdf ⟨[], Heap.DictOf.new s.heap, .nil⟩ (fun _ _ tb => by
    obtain ⟨_, d, _⟩ := tb
    exact d.lt_size) (fun i h h' wr' hd _ tb hk => by
    obtain ⟨kvs, d, r⟩ := tb
    exact ⟨kvs, d.at' fun o e => hk _ o hd e, r⟩) ?_ ?_
  · intro i key v s' Q' E' hi hrel tb _ hQ
    obtain ⟨hk, c, u, hc, ev⟩ := hrel
    obtain ⟨kvs, d, r⟩ := tb
    subst ev
    have hi' : i < ns.length := by rw [← hxl, ← List.size_toArray]; exact hi
    have en : ns[i]? = some ns[i] := List.getElem?_eq_getElem hi'
    have ek : ∃ tk2, key = .int (ns[i] : Int) tk2 := by
      obtain ⟨u2, e1, e2⟩ := hv.get (i := i) (x := V.int (ns[i] : Int)) (by rw [vN_get, en]; rfl)
      have e3 : xs[i]? = some key := by simpa using hk
      rw [e1] at e3
      cases e3
      exact e2
    obtain ⟨tk2, ek⟩ := ek
    subst ek
    have his : (mixKind prog w).is (Sum.inl (ns[i] : Int)) (.int (ns[i] : Int) tk2) = true := keyIs_int _ tk2
    have hlen : kvs.length ≤ i := by
      rw [← r.length]
      exact Nat.le_trans (by rw [List.length_take]; exact Nat.min_le_left _ _) (Nat.le_refl _)
    refine wpAny_dictSet_pairs (hsz := by omega) his d fun h' hm' hs => ?_
    refine hQ h' (s'.toks + 1) ⟨_, hm', ?_⟩ hs
    have hab : ∀ p ∈ kvs, p.1 ≠ Sum.inl (ns[i] : Int) := fun p hp e => by
      obtain ⟨j, hj, ej⟩ := List.mem_iff_getElem.mp hp
      have hjl : j < ((zipKV ns x).take i).length := by rw [r.length]; exact hj
      have hji : j < i := by
        rw [List.length_take] at hjl
        omega
      have hjn : j < ns.length := by omega
      have hjc : j < x.cps.size := by omega
      obtain ⟨q, e1, e2⟩ := paired_get r (i := j) (a := (Sum.inl (ns[j] : Int), V.str ⟨#[x.cps[j]]⟩)) (by
        rw [List.getElem?_take_of_lt hji]
        exact zipKV_get (List.getElem?_eq_getElem hjn) (Array.getElem?_eq_getElem hjc))
      rw [List.getElem?_eq_getElem hj, ej] at e1
      cases e1
      have e3 : (Sum.inl (ns[j] : Int) : Key) = Sum.inl (ns[i] : Int) := e2.1.trans e
      have e4 : ns[j] = ns[i] := by
        have := Sum.inl.inj e3
        omega
      have e5 := (List.getElem_inj hn).mp e4
      omega
    rw [kv_absent hab, List.take_add_one, zipKV_get en hc]
    exact kv_snoc r ⟨u, rfl⟩
  · intro h' tk' tb hk
    obtain ⟨kvs, d, r⟩ := tb
    rw [List.take_of_length_le (by unfold zipKV; rw [List.length_map, List.length_zip, List.size_toArray, hxl]; exact Nat.min_le_left _ _)] at r
    exact ⟨rfl, h h' tk' kvs d r fun b o hw e => hk b o (Nat.ne_of_lt (Heap.lt_size e)) hw (Heap.get?_push_of_some _ e)⟩
end
theorem ne_off {N b : Nat} (h : b < N) (k : Nat) : b ≠ N + k := by omega
/-- dict(zip(t, x)) -/
def tDictZip (K : PySem.W.Frag) (ta tb : TE) : TE := fun σ H Q => ta σ H fun v H1 => tb σ H1 fun u H2 => ∃ (a : Addr) (ns : List Nat) (x : Str), v = .ref a ∧ u = .str x ∧ SqT K H2 a (vN ns) ∧ ns.length = x.cps.size ∧ ns.Nodup ∧ ns.length ≤ sizeLine ∧
  ∀ p, H2 p = none → Q (.ref p) (upd H2 p (.dK (zipKV ns x)))
theorem pe_dictZip {X : Cx} {a b : Expr} {ta tb : TE} {p p2 pos pos2 : Pos} (hc : X.calm = true) (hg : Gl X "dict") (hm : X.mg "dict" = none) (hg2 : Gl X "zip") (hm2 : X.mg "zip" = none) (ha : PE X a ta) (hb : PE X b tb)
    (n1 : starEach [.Call (.Name "zip" p2) [a, b] [] pos2] X.env = (false, eval (.Call (.Name "zip" p2) [a, b] [] pos2) X.env) :: starEach [] X.env := by rfl)
    (n2 : starEach [a, b] X.env = (false, eval a X.env) :: starEach [b] X.env := by rfl) (n3 : starEach [b] X.env = (false, eval b X.env) :: starEach [] X.env := by rfl) (n4 : (backTo pos2 (starEach [b] X.env)).any (·.1) = false := by rfl) :
    PE X (.Call (.Name "dict" p) [.Call (.Name "zip" p2) [a, b] [] pos2] [] pos) (tDictZip X.K ta tb) := by
  refine ⟨fun pins s σ H Q I h => ?_⟩
  refine Call_ (ld_blt I hg hm boot_dict (PyProof.Rows.callWith_type1 (args_cons ?_ n1) n1))
  refine Call_ (ld_blt I hg2 hm2 boot_zip (PyProof.Rows.callWith_type1 (args_cons (thn (ha.run pins s σ H _ I h) fun v s1 ⟨x, H1, I1, r1, q1⟩ => one_arg hb I1 q1 (fun u s2 y H2 I2 r2 q => ?_) n3) n2) n2 n4))
  obtain ⟨t, ns, z, rfl, rfl, hq, hl, hn, hz, q⟩ := q
  cases r1
  obtain ⟨tk, rfl⟩ := r2
  obtain ⟨its, rv, ht, _⟩ := I2.tuple hq
  have htl : t < s2.heap.objs.size := by
    obtain ⟨_, e, _⟩ := ht
    exact Heap.lt_size e
  refine zip_begins2 (begins_tuple t its.toArray) (begins_text z tk) ht trivial fun h' g1 g2 g3 g4 g5 gz hk => ?_
  refine args_nil ?_
  have S : ZipSep2 (s2.heap.objs.size + 4) (s2.heap.objs.size + 2) (s2.heap.objs.size + 3) s2.heap.objs.size (s2.heap.objs.size + 1) [s2.heap.objs.size, t] [s2.heap.objs.size + 1] :=
    zip_sep2 (fp1 := [t]) (fp2 := []) (fun b hb => by rw [List.mem_singleton.mp hb]; exact htl) (fun _ hb => nomatch hb)
  refine call_dict_TS (s := { s2 with heap := h' }) (I2.ok.hd hc) S (Nat.ne_of_lt htl) hl rv hn hz ⟨g1, g2, ⟨_, _, g3⟩, ⟨⟨_, g4, rfl, rfl⟩, ht.keeps hk⟩, ⟨_, g5, rfl, rfl⟩⟩ fun h2 tk2 kvs d r k2 => ?_
  have old : ∀ b o, s2.heap.get? b = some o → h2.get? b = some o := fun b o e => by
    have hb : b < s2.heap.objs.size := Heap.lt_size e
    refine k2 b o (fun hm => ?_) (hk b o e)
    simp only [List.mem_cons, List.not_mem_nil, or_false] at hm
    rcases hm with e | e | e | e
    · exact ne_off hb 4 e
    · exact ne_off hb 3 e
    · exact ne_off hb 0 e
    · exact ne_off hb 1 e
  have hge : s2.heap.objs.size ≤ h'.objs.size := by rw [gz]; exact Nat.le_add_right _ _
  have hbig : (h'.objs.size == sysModules) = false := by
    refine beq_eq_false_iff_ne.mpr (Nat.ne_of_gt ?_)
    exact Nat.lt_of_lt_of_le I2.big hge
  have hlen : (zipKV ns z).length ≤ sizeLine := by
    unfold zipKV
    rw [List.length_map, List.length_zip]
    exact Nat.le_trans (Nat.min_le_left _ _) hz
  exact ⟨.ref h'.objs.size, upd H2 h'.objs.size (.dK (zipKV ns z)), I2.laid (t' := tk2) old hge (show ObjOk X.prog X.w _ _ _ (.dK (zipKV ns z)) from ⟨hlen, hbig, kvs, r, d⟩), rfl, q _ (I2.hok.fresh hge)⟩
end Sb
namespace Sb
open PySem PySem.Spec PyProof.Rows L2
theorem joinL_ones : ∀ l : List Nat, TL.joinL [] (l.map fun c => [c]) = l
  | [] => rfl
  | [c] => rfl
  | c :: d :: l => by
    have := joinL_ones (d :: l)
    rw [List.map_cons] at this
    rw [List.map_cons, List.map_cons, TL.joinL, this]
    rfl
theorem join_ones (l : List Nat) : Txt.join "" (l.map fun c => (⟨#[c]⟩ : Str)) = SX.S l := by
  have := SX.join_S [] (l.map fun c => [c])
  rw [joinL_ones, List.map_map] at this
  exact this
theorem zip_find {t : Trn} {l : List Nat} {p : Nat} (hl : t.length = l.length) (hp : p ∈ t) : valV (zipKV t (SX.S l)) (kN p) = some (V.str ⟨#[l.getD (t.idxOf p) 0]⟩) := by
  unfold zipKV
  show valV ((t.zip l).map fun p => (Sum.inl (p.1 : Int), V.str ⟨#[p.2]⟩)) (kN p) = _
  induction t generalizing l with
  | nil => cases hp
  | cons q t ih =>
    cases l with
    | nil => cases hl
    | cons c l =>
      rw [List.zip_cons_cons, List.map_cons]
      by_cases e : q = p
      · subst e
        rw [List.idxOf_cons_self]
        exact valV_pos (p := ((Sum.inl (q : Int) : Key), V.str ⟨#[c]⟩)) rfl
      · refine (valV_neg (p := ((Sum.inl (q : Int) : Key), V.str ⟨#[c]⟩)) (fun z => e (kN_inj _ _ z))).trans ?_
        rw [ih (by simpa using hl) (by
          rcases List.mem_cons.mp hp with h | h
          · exact absurd h.symm e
          · exact h)]
        rw [List.idxOf_cons, show (q == p) = false by simp [e]]
        rfl
section
variable {P : Program} {w : World} {K : PySem.W.Frag} {mg : Str → Option Value} {base : Heap}
theorem inV_names {x : Str} {xs : List Str} (h : x ∈ xs) : inV (.str x) (xs.map V.str) = true := by
  unfold inV
  rw [List.any_eq_true]
  exact ⟨_, List.mem_map_of_mem h, by simp [eqV]⟩
theorem Ims.strs {H : Hp} : ∀ {vs : List V} {ss : List Str}, Ims H vs (ss.map .str) → vs = ss.map V.str
  | _, [], h => by cases h; rfl
  | _, n :: t, h => by
    cases h with
    | cons h1 h2 => rw [h1.strE, h2.strs]; rfl
def spIsPress (K : PySem.W.Frag) : Sp := fun vs H Q _ => ∃ (v u : V) (n : Nat) (bs : List Btn) (p : Press), vs = [v, u] ∧ Bd K H v n bs ∧ bs.length ≤ 8 ∧ Im H u (eP p) ∧ PressOk bs p ∧ ∀ H', Same H H' → Q (.bl true) H'
theorem c_is_press (z : Z K mg) : Cal P w K mg base 3 "is_press" (spIsPress K) := by
  have S : FnScope ["board", "value"] ["board", "value"] (defScope sIsPress) := ⟨rfl, rfl, rfl, by decide +kernel, rfl, by decide +kernel, by decide +kernel⟩
  refine cal_by z.d_is_press z.g_is_press S (fun _ _ _ _ _ _ us hl => match us, hl with | [_, _], _ => rfl) (fun vs H Q E h => ?_) (fun cdv A outer s H vs Q E hr h => ?_)
  · obtain ⟨v, u, n, bs, p, rfl, _⟩ := h
    rfl
  · obtain ⟨v, u, n, bs, p, rfl, hb, hl, hu, ⟨p1, p2, p3, p4⟩, q⟩ := h
    obtain ⟨a, rfl, ha⟩ := hu.pE
    refine ⟨_, pss_cons (ps_if (PW.pt (pw_or (pt_not (pt_val (pe_callB call_isi (by rfl) z.b_isinstance boot_isinstance (pa_cons (pv 1) (pa_cons (pe_bltn (v := .ty "tuple") (by rfl) z.b_tuple boot_tuple rfl) pa_nil))))) (pw_or (pt_cmpR op_ne (pe_callB call_len_seq (by rfl) z.b_len boot_len (pa_cons (pv 1) pa_nil)) pe_int (nomark _)) (pw_or1 (pt_cmpR op_notIn_seq (pe_ix ix_tup (pv 1) pe_int (fun _ _ => rfl)) (pe_get (c_names z) hr (by decide) (pv 0)) rfl)))))
      (pss_one (ps_ret pe_bl))
      pss_nil)
    (pss_one (ps_ret (pe_and (pe_f (c_is_between z) hr (by decide) rfl (pa_cons (pe_ix ix_tup (pv 1) pe_int (fun _ _ => rfl)) (pa_cons (pe_un un_neg (C8.pe_gc (by rfl) z.c_MOST_TIMES)) (pa_cons (C8.pe_gc (by rfl) z.c_MOST_TIMES) pa_nil)))) (pe_one (pe_cmpR op_ne (pe_ix ix_tup (pv 1) pe_int (fun _ _ => rfl)) pe_int (nomark _)))))), ?_⟩
    refine ⟨_, rfl, _, _, _, _, true, rfl, .ty _, .base (.tup ha), kit_ty (by decide +kernel), _, rfl, iteF ?_⟩
    refine ⟨_, rfl, _, _, rfl, .inr (SqT.of ha), rfl, _, rfl, iteF ?_⟩
    have hb' := hb
    obtain ⟨b, dx, T, E1, rfl, hb1, hb2⟩ := hb'
    refine ⟨_, rfl, a, _, _, _, rfl, rfl, SqT.of ha, rfl, _, rfl, b, dx, _, rfl, hb1, _, n, bs, rfl, hb, hl, fun r H1 e1 hr1 => ?_⟩
    obtain ⟨c, xs, rfl, hc, hxs⟩ := hr1.tupE
    rw [hxs.strs] at hc
    refine ⟨c, _, rfl, .inr (SqT.of hc), rfl, ?_, ?_⟩
    · rw [List.all_map, List.all_eq_true]
      exact fun _ _ => rfl
    · rw [inV_names p1]
      refine ⟨_, rfl, iteF ?_⟩
      refine ⟨_, rfl, a, _, _, _, rfl, rfl, SqT.of (e1 _ _ ha), rfl, _, rfl, p.2, -(10 ^ 30), 10 ^ 30, rfl, ?_⟩
      rw [decide_eq_true p2, decide_eq_true p3]
      refine ⟨true, rfl, iteT ⟨_, rfl, a, _, _, _, rfl, rfl, SqT.of (e1 _ _ ha), rfl, rfl, ?_⟩⟩
      rw [decide_eq_false fun z => p4 (V.int.inj z)]
      exact q _ e1
def spRowFault (K : PySem.W.Frag) : Sp := fun vs H Q _ => ∃ (v u : V) (n : Nat) (bs : List Btn) (r : Row), vs = [v, u] ∧ Bd K H v n bs ∧ bs.length ≤ 8 ∧ Im H u (eR r) ∧ RowOk bs r ∧ ∀ H', Same H H' → Q (.int (-1)) H'
theorem c_row_fault (z : Z K mg) : Cal P w K mg base 4 "row_fault" (spRowFault K) := by
  have S : FnScope ["board", "value", "index", "press"] ["board", "value"] (defScope sRowFault) := ⟨rfl, rfl, rfl, by decide +kernel, rfl, by decide +kernel, by decide +kernel⟩
  refine cal_by z.d_row_fault z.g_row_fault S (fun _ _ _ _ _ _ us hl => match us, hl with | [_, _], _ => rfl) (fun vs H Q E h => ?_) (fun cdv A outer s H vs Q E hr h => ?_)
  · obtain ⟨v, u, n, bs, p, rfl, _⟩ := h
    rfl
  · obtain ⟨v, u, n, bs, r, rfl, hb, hl, hu, ⟨r1, r2⟩, q⟩ := h
    obtain ⟨a, xs, rfl, ha, hxs⟩ := hu.tupE
    have hlen := hxs.mlen
    refine ⟨_, pss_cons (ps_if (pt_not (pt_val (pe_callB call_isi (by rfl) z.b_isinstance boot_isinstance (pa_cons (pv 1) (pa_cons (pe_bltn (v := .ty "tuple") (by rfl) z.b_tuple boot_tuple rfl) pa_nil)))))
      (pss_one (ps_ret pe_non))
      pss_nil)
    (pss_cons (ps_for PassesOwn.never rfl (pi_enumT (by rfl) z.b_enumerate (pa_cons (pv 1) pa_nil)) (pg_tup rfl (pgs_cons (pg_name (i := 2) S.nd rfl (Or.inl rfl)) (pgs_cons (pg_name (i := 3) S.nd rfl (Or.inl rfl)) pgs_nil)))
      (pss_one (ps_if (PW.pt (pw_or (pt_cmpR op_eq (pv 2) (C8.pe_gc (by rfl) z.c_MOST_PRESSES) (nomark _)) (pw_or1 (pt_not (pt_val (pe_f (c_is_press z) hr (by decide) rfl (pa_cons (pv 0) (pa_cons (pv 3) pa_nil))))))))
        (pss_one (ps_ret (pv 2)))
        pss_nil)))
    (pss_one (ps_ret (pe_un un_neg pe_int)))), ?_⟩
    refine ⟨_, rfl, _, _, _, _, true, rfl, .ty _, .base (.tup ha), kit_ty (by decide +kernel), _, rfl, iteF ?_⟩
    refine ⟨_, rfl, a, _, rfl, SqT.of ha, for_it (walk_enumT (xs := xs)) (fun i σ H2 => Same H H2 ∧ ∃ w1 w2, σ = [some v, some (.ref a), w1, w2]) ⟨Same.refl _, none, none, rfl⟩ (fun i σ H2 _ p => SqT.of (p.1 _ _ ha)) (fun i x σ H2 H3 hi p hy => ?_) (fun σ H2 p => ?_)⟩
    · obtain ⟨e1, w1, w2, rfl⟩ := p
      obtain ⟨T, y, g, rfl, hT, rfl, hy, hz⟩ := hy
      replace hz : xs[i]? = some g := hz
      cases hy
      obtain ⟨p, hp1, hp2⟩ := (hxs.on e1).mget hz
      have e2 := e1.trans (Same.new (o := HO.tup [V.int (i : Nat), g]) hT)
      refine ⟨T, _, rfl, SqT.of upd_same, rfl, _, _, rfl, _, _, rfl, rfl, ?_⟩
      refine ⟨_, rfl, rfl, _, rfl, ?_⟩
      rw [decide_eq_false (by intro z; have := V.int.inj z; omega)]
      refine iteF ⟨_, rfl, _, rfl, v, g, n, bs, p, rfl, hb.on e2, hl, hp2.on (Same.new hT), r2 p (List.mem_of_getElem? hp1), fun H4 e4 => ⟨true, rfl, iteF ⟨e2.trans e4, _, _, rfl⟩⟩⟩
    · obtain ⟨e1, w1, w2, rfl⟩ := p
      exact ⟨_, rfl, q _ e1⟩
def spCheckRow (K : PySem.W.Frag) : Sp := fun vs H Q _ => ∃ (v u : V) (n : Nat) (bs : List Btn) (r : Row), vs = [v, u] ∧ Bd K H v n bs ∧ bs.length ≤ 8 ∧ Im H u (eR r) ∧ RowOk bs r ∧ ∀ H', Same H H' → Q .non H'
theorem c_check_row (z : Z K mg) : Cal P w K mg base 5 "check_row" (spCheckRow K) := by
  have S : FnScope ["board", "value"] ["board", "value"] (defScope sCheckRow) := ⟨rfl, rfl, rfl, by decide +kernel, rfl, by decide +kernel, by decide +kernel⟩
  refine cal_by z.d_check_row z.g_check_row S (fun _ _ _ _ _ _ us hl => match us, hl with | [_, _], _ => rfl) (fun vs H Q E h => ?_) (fun cdv A outer s H vs Q E hr h => ?_)
  · obtain ⟨v, u, n, bs, p, rfl, _⟩ := h
    rfl
  · obtain ⟨v, u, n, bs, r, rfl, hb, hl, hu, hr1, q⟩ := h
    refine ⟨_, pss_one (ps_if (pt_cmpR op_ne (pe_f (c_row_fault z) hr (by decide) rfl (pa_cons (pv 0) (pa_cons (pv 1) pa_nil))) (pe_un un_neg pe_int) (nomark _))
      pss_never
      pss_nil), ?_⟩
    exact ⟨_, rfl, _, rfl, v, u, n, bs, r, rfl, hb, hl, hu, hr1, fun H1 e1 => ⟨_, rfl, rfl, _, rfl, iteF (q H1 e1)⟩⟩
theorem c_check_asked (z : Z K mg) : Cal P w K mg base 6 "check_asked" (spCheckRow K) := by
  have S : FnScope ["board", "row"] ["board", "row"] (defScope sCheckAsked) := ⟨rfl, rfl, rfl, by decide +kernel, rfl, by decide +kernel, by decide +kernel⟩
  refine cal_by z.d_check_asked z.g_check_asked S (fun _ _ _ _ _ _ us hl => match us, hl with | [_, _], _ => rfl) (fun vs H Q E h => ?_) (fun cdv A outer s H vs Q E hr h => ?_)
  · obtain ⟨v, u, n, bs, p, rfl, _⟩ := h
    rfl
  · obtain ⟨v, u, n, bs, r, rfl, hb, hl, hu, hr1, q⟩ := h
    refine ⟨_, pss_cons (ps_expr (pe_f (c_check_board z) hr (by decide) rfl (pa_cons (pv 0) pa_nil)))
    (pss_one (ps_expr (pe_f (c_check_row z) hr (by decide) rfl (pa_cons (pv 0) (pa_cons (pv 1) pa_nil))))), ?_⟩
    exact ⟨_, rfl, v, n, bs, rfl, hb, _, rfl, _, rfl, v, u, n, bs, r, rfl, hb, hl, hu, hr1, fun H1 e1 => q H1 e1⟩
def spIsStanding : Sp := fun vs H Q _ => ∃ (n : Nat) (l : List Nat), vs = [.str (SX.S l), .int n] ∧ n ≤ 24 ∧ StOk n l ∧ ∀ H', Same H H' → Q (.bl true) H'
theorem c_is_standing (z : Z K mg) : Cal P w K mg base 1 "is_standing" spIsStanding := by
  have S : FnScope ["value", "many", "sign"] ["value", "many"] (defScope sIsStanding) := ⟨rfl, rfl, rfl, by decide +kernel, rfl, by decide +kernel, by decide +kernel⟩
  refine cal_by z.d_is_standing z.g_is_standing S (fun _ _ _ _ _ _ us hl => match us, hl with | [_, _], _ => rfl) (fun vs H Q E h => ?_) (fun cdv A outer s H vs Q E hr h => ?_)
  · obtain ⟨n, l, rfl, _⟩ := h
    rfl
  · obtain ⟨n, l, rfl, hn, ⟨h1, h2⟩, q⟩ := h
    refine ⟨_, pss_cons (ps_if (PW.pt (pw_or (pt_not (pt_val (pe_callB call_isi (by rfl) z.b_isinstance boot_isinstance (pa_cons (pv 0) (pa_cons (pe_bltn (v := .ty "str") (by rfl) z.b_str boot_str rfl) pa_nil))))) (pw_or1 (pt_cmpR op_ne (pe_callB call_len_str (by rfl) z.b_len boot_len (pa_cons (pv 0) pa_nil)) (pv 1) (nomark _)))))
      (pss_one (ps_ret pe_bl))
      pss_nil)
    (pss_one (ps_ret (pe_callB (cr_all rfl) (by rfl) z.b_all (by decide +kernel) (pa_cons (pe_lc (own := [("sign", 2)]) (g := gName 2) rfl S.nd (pi_str (pv 0)) (blkOk_by (own := [("sign", 2)]) (N := ["value", "many", "sign"]) (sc := defScope sIsStanding) (by decide +kernel)) (fun _ _ _ _ _ => (pg_name (i := 2) S.nd rfl (Or.inl rfl))) (fun _ _ _ _ _ => pts_nil) (fun _ _ _ _ _ => (pe_or (pe_cmpR op_in_sign (pv 2) (C8.pe_gc (by rfl) z.c_LETTERS) rfl) (pe_one (pe_cmpR op_eq (pv 2) (C8.pe_gc (by rfl) z.c_EMPTY) (nomark _)))))) pa_nil)))), ?_⟩
    have hsz : (SX.S l).cps.size = l.length := by simp
    have hlen : (SX.S l).length = n := by rw [← h1]; exact hsz
    refine ⟨_, rfl, _, _, _, _, true, rfl, .ty _, .base (.str _), kit_ty (by decide +kernel), _, rfl, iteF ?_⟩
    refine ⟨_, rfl, _, rfl, by rw [hlen]; show _ ≤ 2 ^ 24; omega, _, rfl, rfl, _, rfl, ?_⟩
    rw [hlen, decide_eq_true rfl]
    refine iteF ⟨_, rfl, _, rfl, fun D hD => lc_data walk_str (List.replicate (SX.S l).cps.size (.bool true)) List.length_replicate (by rw [hsz]; show _ ≤ 2 ^ 24; omega) hD (fun _ _ => trivial) ystr_same (fun i y H1 H2 Nx hi e e2 hy q => ?_) (fun H1 xs e h5 h6 => ?_)⟩
    · obtain ⟨rfl, c, hc, rfl⟩ := hy
      refine ⟨rfl, _, rfl, c, _, rfl, rfl, _, rfl, ?_⟩
      have hcm : c ∈ l := by
        have : l[i]? = some c := by simpa using hc
        exact List.mem_of_getElem? this
      have qq := q (.bl true) _ _ (Same.refl _) (by have : i < l.length := hsz ▸ hi; simp [this]) (.bl true)
      refine ite2 (fun _ => qq) (fun hf => ?_)
      have hc45 : c = 45 := by
        rcases h2 c hcm with hh | hh
        · exact absurd (decide_eq_true hh) hf
        · exact hh
      refine ⟨_, rfl, rfl, ?_⟩
      rw [hc45]
      exact qq
    · rw [ims_rep h6] at h5
      refine ⟨D, _, rfl, SqL.of h5, ?_⟩
      rw [all_rep]
      exact q _ e
def spCheckStanding (K : PySem.W.Frag) : Sp := fun vs H Q _ => ∃ (v : V) (n : Nat) (bs : List Btn) (l : List Nat), vs = [v, .str (SX.S l)] ∧ Bd K H v n bs ∧ n ≤ 24 ∧ StOk n l ∧ ∀ H', Same H H' → Q .non H'
theorem c_check_standing (z : Z K mg) : Cal P w K mg base 2 "check_standing" (spCheckStanding K) := by
  have S : FnScope ["board", "value"] ["board", "value"] (defScope sCheckStanding) := ⟨rfl, rfl, rfl, by decide +kernel, rfl, by decide +kernel, by decide +kernel⟩
  refine cal_by z.d_check_standing z.g_check_standing S (fun _ _ _ _ _ _ us hl => match us, hl with | [_, _], _ => rfl) (fun vs H Q E h => ?_) (fun cdv A outer s H vs Q E hr h => ?_)
  · obtain ⟨v, n, bs, l, rfl, _⟩ := h
    rfl
  · obtain ⟨v, n, bs, l, rfl, ⟨a, dx, T, E1, rfl, ha, hT⟩, hn, hl, q⟩ := h
    refine ⟨_, pss_one (ps_if (pt_not (pt_val (pe_f (c_is_standing z) hr (by decide) rfl (pa_cons (pv 1) (pa_cons (pe_fld (pv 0) rfl) pa_nil)))))
      pss_never
      pss_nil), ?_⟩
    exact ⟨_, rfl, _, rfl, a, _, dx, _, _, rfl, ha, z.cl_Board, z.n_size, rfl, n, l, rfl, hn, hl, fun H1 e1 => ⟨true, rfl, iteF (q H1 e1)⟩⟩
def spTurnFor (K : PySem.W.Frag) : Sp := fun vs H Q _ => ∃ (v u : V) (n : Nat) (bs : List Btn) (r : Row), vs = [v, u] ∧ Bd K H v n bs ∧ BtnsOk n bs ∧ Im H u (eR r) ∧ Known bs r ∧ ∀ x H', Same H H' → Im H' x (eT (turnFor n bs r)) → Q x H'
theorem turnTo_tn {n : Nat} {bs : List Btn} {r : Row} (hb : BtnsOk n bs) (hr : Known bs r) : ∀ i, i ≤ r.length → Tn n (turnTo n bs r i)
  | 0, _ => tn_range n
  | i + 1, hi => by
    have hm : r.getD i ("", 0) ∈ r := by
      rw [List.getD_eq_getElem?_getD, List.getElem?_eq_getElem (by omega)]
      exact List.getElem_mem _
    obtain ⟨_, h2⟩ := tOf_some (hr _ hm)
    exact (turnTo_tn hb hr i (by omega)).aft ((hb.2.2.2.1 _ h2).2.2.tn.rai _)
theorem c_turn_for (z : Z K mg) : Cal P w K mg base 3 "turn_for" (spTurnFor K) := by
  have S : FnScope ["board", "row", "found", "name", "number"] ["board", "row"] (defScope sTurnFor) := ⟨rfl, rfl, rfl, by decide +kernel, rfl, by decide +kernel, by decide +kernel⟩
  refine cal_by z.d_turn_for z.g_turn_for S (fun _ _ _ _ _ _ us hl => match us, hl with | [_, _], _ => rfl) (fun vs H Q E h => ?_) (fun cdv A outer s H vs Q E hr h => ?_)
  · obtain ⟨v, u, n, bs, r, rfl, _⟩ := h
    rfl
  · obtain ⟨v, u, n, bs, r, rfl, hbd, hb, hu, hk, q⟩ := h
    refine ⟨_, pss_cons (ps_set (i := 2) S.nd rfl (Or.inl rfl) (pe_f (c_staying z) hr (by decide) rfl (pa_cons (pe_fld (pv 0) rfl) pa_nil)))
    (pss_cons (ps_for PassesOwn.never rfl (pi_tup (pv 1)) (pg_tup rfl (pgs_cons (pg_name (i := 3) S.nd rfl (Or.inl rfl)) (pgs_cons (pg_name (i := 4) S.nd rfl (Or.inl rfl)) pgs_nil)))
      (pss_one (ps_set (i := 2) S.nd rfl (Or.inl rfl) (pe_f (c_after z) hr (by decide) rfl (pa_cons (pv 2) (pa_cons (pe_f (c_raised_to z) hr (by decide) rfl (pa_cons (pe_m (m_turn z) hr (by decide) (pv 0) (pa_cons (pv 3) pa_nil)) (pa_cons (pv 4) pa_nil))) pa_nil))))))
    (pss_one (ps_ret (pv 2)))), ?_⟩
    have hb' := hb
    obtain ⟨n1, n2, n3, n4, n5⟩ := hb'
    have hbd' := hbd
    obtain ⟨a, dx, T, E1, rfl, ha, hT⟩ := hbd'
    obtain ⟨b, xs, rfl, hb2, hxs⟩ := hu.tupE
    have hlen := hxs.mlen
    refine ⟨_, rfl, a, _, dx, _, _, rfl, ha, z.cl_Board, z.n_size, rfl, n, rfl, by omega, fun w H1 e1 hw => ?_⟩
    refine ⟨_, rfl, b, rfl, ⟨_, SqT.of (e1 _ _ hb2)⟩, for_it (walk_tup (xs := xs)) (fun i σ H2 => Same H H2 ∧ ∃ w, Im H2 w (eT (turnTo n bs r i)) ∧ ∃ w1 w2, σ = [some (.ref a), some (.ref b), some w, w1, w2]) ⟨e1, w, hw, none, none, rfl⟩ (fun i σ H2 _ p => SqT.of (p.1 _ _ hb2)) (fun i x σ H2 H3 hi p hy => ?_) (fun σ H2 p => ?_)⟩
    · obtain ⟨e2, w, hw, w1, w2, rfl⟩ := p
      obtain ⟨rfl, hc⟩ := hy
      obtain ⟨p, hp1, hp2⟩ := (hxs.on e2).mget hc
      obtain ⟨c, rfl, hc2⟩ := hp2.pE
      have hpr := List.mem_of_getElem? hp1
      obtain ⟨g1, g2⟩ := tOf_some (hk p hpr)
      have tn := (n4 _ g2).2.2.tn
      have tt := turnTo_tn hb hk i (by omega)
      refine ⟨c, _, rfl, SqT.of hc2, rfl, _, _, rfl, _, _, rfl, rfl, ?_⟩
      refine ⟨_, rfl, _, rfl, a, dx, _, rfl, e2 _ _ ha, rfl, _, rfl, _, p.1, n, bs, _, rfl, hbd.on e2, g1, fun y hy => ?_⟩
      refine ⟨_, rfl, y, _, p.2, rfl, hy, ?_, ?_, fun y2 H4 e4 hy2 => ?_⟩
      · rw [tn.1]; omega
      · rw [tn.1]; exact tn
      · refine ⟨w, y2, _, _, rfl, hw.on e4, hy2, ?_, ?_, fun y3 H5 e5 hy3 => ?_⟩
        · rw [tt.1]; omega
        · rw [rai_len, tn.1]; exact tt.2
        · refine ⟨(e2.trans e4).trans e5, y3, ?_, _, _, rfl⟩
          rw [turnTo, List.getD_eq_getElem?_getD, hp1]
          exact hy3
    · obtain ⟨e2, w, hw, w1, w2, rfl⟩ := p
      rw [hlen] at hw
      exact ⟨_, rfl, q w _ e2 hw⟩
def spLed : Sp := fun vs H Q _ => ∃ (v : V) (t : Trn) (l : List Nat), vs = [.str (SX.S l), v] ∧ Im H v (eT t) ∧ Prm l.length t ∧ l.length ≤ 1000 ∧ ∀ H', Same H H' → Q (.str (SX.S (led l t))) H'
theorem c_led_standing (z : Z K mg) : Cal P w K mg base 1 "led_standing" spLed := by
  have S : FnScope ["standing", "turn", "found", "place"] ["standing", "turn"] (defScope sLedStanding) := ⟨rfl, rfl, rfl, by decide +kernel, rfl, by decide +kernel, by decide +kernel⟩
  refine cal_by z.d_led_standing z.g_led_standing S (fun _ _ _ _ _ _ us hl => match us, hl with | [_, _], _ => rfl) (fun vs H Q E h => ?_) (fun cdv A outer s H vs Q E hr h => ?_)
  · obtain ⟨v, t, l, rfl, _⟩ := h
    rfl
  · obtain ⟨v, t, l, rfl, hv, ht, hl, q⟩ := h
    obtain ⟨a, rfl, ha⟩ := hv.tE
    refine ⟨_, pss_cons (ps_set (i := 2) S.nd rfl (Or.inr rfl) (pe_dictZip rfl (by rfl) z.b_dict (by rfl) z.b_zip (pv 1) (pv 0)))
    (pss_one (ps_ret (pe_join pe_str (pe_lc (own := [("place", 3)]) (g := gName 3) rfl S.nd (pi_range1 (by rfl) z.b_range (pa_cons (pe_callB call_len_str (by rfl) z.b_len boot_len (pa_cons (pv 0) pa_nil)) pa_nil)) (blkOk_by (own := [("place", 3)]) (N := ["standing", "turn", "found", "place"]) (sc := defScope sLedStanding) (by decide +kernel)) (fun _ _ _ _ _ => (pg_name (i := 3) S.nd rfl (Or.inl rfl))) (fun _ _ _ _ _ => pts_nil) (fun _ _ _ _ _ => (pe_dget (hu_of hr) (pv 2) (pv 3) (fun _ _ => rfl))))))), ?_⟩
    have hsz : (SX.S l).cps.size = l.length := by simp
    have hlen : (SX.S l).length = l.length := hsz
    have htl : t.length = l.length := ht.tn.1
    refine ⟨_, rfl, _, rfl, a, t, SX.S l, rfl, rfl, SqT.of ha, by rw [hsz, htl], ht.nd, by show _ ≤ 2 ^ 24; omega, fun d hd => ?_⟩
    refine ⟨⟨_, rfl⟩, _, rfl, _, rfl, by rw [hlen]; show _ ≤ 2 ^ 24; omega, ?_⟩
    rw [hlen]
    refine ⟨_, rfl, by omega, by omega, ?_⟩
    rw [Int.toNat_natCast]
    refine fun D hD => lc_data walk_range (((led l t).map fun c => (⟨#[c]⟩ : Str)).map .str) (by rw [List.length_map, List.length_map, led_len]) (by show _ ≤ 2 ^ 24; omega) hD (fun _ _ => trivial) yfn_same (fun i y H1 H2 Nx hi e e2 hy q => ?_) (fun H1 xs e h5 h6 => ?_)
    · obtain ⟨rfl, rfl⟩ := hy
      show gName 3 (V.int (0 + (i : Int))) _ _ _
      rw [Int.zero_add]
      refine ⟨rfl, _, rfl, _, rfl, d, V.str ⟨#[l.getD (t.idxOf i) 0]⟩, rfl, ?_⟩
      · have := DGet.k (k := kN i) (e _ _ upd_same : H2 d = some (.dK (zipKV t (SX.S l))))
        rw [zip_find htl (ht.mem_iff.mpr (List.mem_range.mpr hi))] at this
        exact ⟨this, q _ _ _ (Same.refl _) (by simp [led, hi]) (.str _)⟩
    · rw [h6.strs] at h5
      refine ⟨_, D, (led l t).map fun c => (⟨#[c]⟩ : Str), rfl, rfl, .inl (SqL.of h5), ?_, ?_⟩
      · have : ∀ l : List Nat, ((l.map fun c => (⟨#[c]⟩ : Str)).map (·.length)).sum = l.length := fun l => by
          induction l with
          | nil => rfl
          | cons c l ih => rw [List.map_cons, List.map_cons, List.sum_cons, ih, List.length_cons, Nat.add_comm]; rfl
        rw [this, List.length_map, led_len]
        show l.length + l.length * 0 ≤ _
        omega
      · rw [join_ones]
        exact q _ ((Same.new hd).trans e)
end
end Sb
namespace Sb
open PySem
theorem putTo_cases (f : Row) (p : Press) : putTo f p = f ++ [p] ∨ ∃ g q, f = g ++ [q] ∧ q.1 = p.1 ∧ putTo f p = g ++ [(p.1, q.2 + p.2)] := by
  unfold putTo
  cases e : f.getLast? with
  | none => exact .inl rfl
  | some q =>
    by_cases c : q.1 = p.1
    · right
      obtain ⟨g, hg⟩ := List.getLast?_eq_some_iff.mp e
      refine ⟨g, q, hg, c, ?_⟩
      simp only [if_pos c]
      rw [hg, List.dropLast_concat]
    · left
      simp only [if_neg c]
theorem fold_len : ∀ (r f : Row), (r.foldl putTo f).length ≤ f.length + r.length ∧ ((r.foldl putTo f).length = f.length + r.length → r.foldl putTo f = f ++ r)
  | [], f => ⟨Nat.le_refl _, fun _ => (List.append_nil f).symm⟩
  | p :: r, f => by
    obtain ⟨h1, h2⟩ := fold_len r (putTo f p)
    rw [List.foldl_cons]
    rcases putTo_cases f p with e | ⟨g, q, hf, _, e⟩
    · rw [e] at h1 h2 ⊢
      rw [List.length_append] at h1 h2
      simp only [List.length_singleton, List.length_cons, List.length_nil] at h1 h2 ⊢
      refine ⟨by omega, fun h => ?_⟩
      rw [h2 (by omega), List.append_assoc]
      rfl
    · have hl : (putTo f p).length = f.length := by rw [e, hf, List.length_append, List.length_append]; rfl
      rw [hl] at h1 h2
      rw [List.length_cons]
      exact ⟨by omega, fun h => by omega⟩
theorem together_len (r : Row) : (together r).length ≤ r.length := by
  have := (fold_len r []).1
  rw [List.length_nil, Nat.zero_add] at this
  exact this
theorem together_eq {r : Row} (h : (together r).length = r.length) : together r = r := by
  have := (fold_len r []).2
  rw [List.length_nil, Nat.zero_add] at this
  exact this h
theorem fold_names {N : Str → Prop} : ∀ (r f : Row), (∀ p ∈ f, N p.1) → (∀ p ∈ r, N p.1) → ∀ p ∈ r.foldl putTo f, N p.1
  | [], f, h, _ => h
  | p :: r, f, h, h' => by
    rw [List.foldl_cons]
    refine fold_names r _ ?_ fun q m => h' q (List.mem_cons_of_mem _ m)
    intro x m
    have hp := h' p (List.mem_cons_self ..)
    rcases putTo_cases f p with e | ⟨g, q, hf, _, e⟩
    · rw [e] at m
      rcases List.mem_append.mp m with m | m
      · exact h x m
      · rw [List.mem_singleton] at m; rw [m]; exact hp
    · rw [e] at m
      rcases List.mem_append.mp m with m | m
      · exact h x (by rw [hf]; exact List.mem_append_left _ m)
      · rw [List.mem_singleton] at m; rw [m]; exact hp
theorem together_names {N : Str → Prop} {r : Row} (h : ∀ p ∈ r, N p.1) : ∀ p ∈ together r, N p.1 := fold_names r [] (fun _ m => by cases m) h
theorem near_mod (k : Int) {W : Nat} (hW : 0 < W) : near k W % W = k % W := by
  unfold near
  split
  · exact Int.emod_emod_of_dvd k (Int.dvd_refl _)
  · rw [Int.sub_emod, Int.emod_self, Int.sub_zero, Int.emod_emod_of_dvd _ (Int.dvd_refl _), Int.emod_emod_of_dvd _ (Int.dvd_refl _)]
theorem near_near (k : Int) {W : Nat} (hW : 0 < W) : near (near k W) W = near k W := by
  have h := near_mod k hW
  show (if 2 * (near k W % W) ≤ W then near k W % W else near k W % W - W) = near k W
  rw [h]
  rfl
theorem near_le (k : Int) {W : Nat} (hW : 0 < W) : (near k W).natAbs ≤ k.natAbs := by
  have h1 := Int.emod_nonneg k (by omega : (W : Int) ≠ 0)
  have h2 := Int.emod_lt_of_pos k (by omega : (0 : Int) < W)
  have h3 := Int.emod_add_mul_ediv k W
  unfold near
  generalize hr : k % (W : Int) = r at *
  generalize hq : k / (W : Int) = q at *
  have hcase : q = 0 ∨ q ≥ 1 ∨ q = -1 ∨ q ≤ -2 := by omega
  rcases hcase with e | e | e | e
  · subst e
    rw [Int.mul_zero] at h3
    split <;> omega
  · have : (W : Int) ≤ W * q := by
      have := Int.mul_le_mul_of_nonneg_left (show (1 : Int) ≤ q from e) (show (0 : Int) ≤ W by omega)
      omega
    split <;> omega
  · subst e
    have : (W : Int) * (-1) = -W := by omega
    rw [this] at h3
    split <;> omega
  · have : (W : Int) * q ≤ W * (-2) := Int.mul_le_mul_of_nonneg_left (show q ≤ -2 from e) (show (0 : Int) ≤ W by omega)
    split <;> omega
theorem whole_pos {t : Trn} {n : Nat} (h : Tn n t) (hn : n ≤ 1000) : 0 < whole t := by
  refine Nat.pos_of_ne_zero fun e => ?_
  have hp : ∀ x ∈ (rings t).map List.length, 0 < x := fun x m => by
    obtain ⟨r, hr, rfl⟩ := List.mem_map.mp m
    exact List.length_pos_iff.mpr (ringsTo_ne _ r hr)
  have : ∀ (ns : List Nat), (∀ x ∈ ns, 0 < x) → ∀ i, i ≤ ns.length → 0 < lcmTo ns i := fun ns h i => by
    induction i with
    | zero => exact fun _ => Nat.one_pos
    | succ i ih =>
      intro hi
      rw [lcmTo, lcm_step]
      exact Nat.lcm_pos (ih (by omega)) (h _ (gt_mem (by omega)))
  have := this _ hp _ (Nat.le_refl _)
  unfold whole lcms at e
  omega
def Nrm (bs : List Btn) (r : Row) : Prop := ∀ p ∈ r, near p.2 (whole (tOf bs p.1)) = p.2 ∧ p.2 ≠ 0
theorem known_tn {n : Nat} {bs : List Btn} (hb : ∀ b ∈ bs, Tn n b.2) {x : Str} (h : x ∈ bs.map (·.1)) : Tn n (tOf bs x) := hb _ (tOf_some h).2
theorem shStep_known {bs : List Btn} {r : Row} (h : Known bs r) : Known bs (shStep bs r) := fun p m => by
  obtain ⟨m, _⟩ := List.mem_filter.mp m
  obtain ⟨q, hq, rfl⟩ := List.mem_map.mp m
  exact together_names (N := fun x => x ∈ List.map Prod.fst bs) h q hq
theorem shStep_len (bs : List Btn) (r : Row) : (shStep bs r).length ≤ r.length :=
  Nat.le_trans (List.length_filter_le ..) (by rw [List.length_map]; exact together_len r)
theorem shStep_nrm {n : Nat} {bs : List Btn} (hb : ∀ b ∈ bs, Tn n b.2) (hn : n ≤ 1000) {r : Row} (h : Known bs r) : Nrm bs (shStep bs r) := fun p m => by
  obtain ⟨m, m2⟩ := List.mem_filter.mp m
  obtain ⟨q, hq, rfl⟩ := List.mem_map.mp m
  have hk := together_names (N := fun x => x ∈ List.map Prod.fst bs) h q hq
  exact ⟨near_near _ (whole_pos (known_tn hb hk) hn), of_decide_eq_true m2⟩
theorem shStep_end {bs : List Btn} {r : Row} (h : Nrm bs r) : shStep bs r = r ∨ (shStep bs r).length < r.length := by
  by_cases e : (together r).length = r.length
  · left
    unfold shStep
    rw [together_eq e]
    have e1 : r.map (fun p => (p.1, near p.2 (whole (tOf bs p.1)))) = r := by
      conv => rhs; rw [← List.map_id r]
      exact List.map_congr_left fun p m => by rw [(h p m).1]; rfl
    rw [e1]
    exact List.filter_eq_self.mpr fun p m => decide_eq_true (h p m).2
  · right
    have := together_len r
    refine Nat.lt_of_le_of_lt (List.length_filter_le ..) ?_
    rw [List.length_map]
    omega
def lenR (r : Row) : Int := (r.map fun p => if p.2 < 0 then -p.2 else p.2).sum
end Sb
namespace Sb
open PySem PySem.Spec PyProof.Rows L2
theorem range_filterMap {α β : Type} (l : List α) (g : α → Option β) : ∀ i, i ≤ l.length → (List.range i).filterMap (fun i => (l[i]?).bind g) = (l.take i).filterMap g
  | 0, _ => rfl
  | i + 1, hi => by
    have e : l[i]? = some (l[i]'(by omega)) := List.getElem?_eq_getElem (by omega)
    rw [List.range_succ, List.filterMap_append, range_filterMap l g i (by omega), take_some e, List.filterMap_append]
    congr 1
    simp only [List.filterMap_cons, List.filterMap_nil, e, Option.bind_some]
theorem okR_of {bs : List Btn} {r : Row} (hb : ∀ b ∈ bs, NameOk b.1) (h : Known bs r) : OkR r := fun p m => by
  obtain ⟨b, hbm, e⟩ := List.mem_map.mp (h p m)
  obtain ⟨_, _, h3⟩ := hb b hbm
  rw [← e]
  unfold PyData.strOk
  rw [Array.all_eq_true]
  intro i hi
  refine decide_eq_true ?_
  have := h3 (b.1.cps[i]) (by simp)
  have h4 : ∀ c ∈ ("abcdefghijklmnopqrstuvwxyz" : Str).cps.toList, c < 0x110000 := by decide
  exact h4 _ this
section
variable {P : Program} {w : World} {K : PySem.W.Frag} {mg : Str → Option Value} {base : Heap}
def spBackRow : Sp := fun vs H Q _ => ∃ (v : V) (r : Row), vs = [v] ∧ Im H v (eR r) ∧ r.length ≤ 2000 ∧ ∀ x H', Same H H' → Im H' x (eR (backRow r)) → Q x H'
theorem Ims.rev {H : Hp} : ∀ {vs : List V} {ds : List PyData}, Ims H vs ds → Ims H vs.reverse ds.reverse
  | _, _, .nil => .nil
  | _, _, .cons h1 h2 => by
    rw [List.reverse_cons, List.reverse_cons]
    exact h2.rev.snoc h1
theorem ims_take {H : Hp} : ∀ (n : Nat) {vs : List V} {ds : List PyData}, Ims H vs ds → Ims H (vs.take n) (ds.take n)
  | 0, _, _, _ => .nil
  | _ + 1, _, _, .nil => .nil
  | n + 1, _, _, .cons h1 h2 => .cons h1 (ims_take n h2)
theorem c_back_row (z : Z K mg) : Cal P w K mg base 1 "back_row" spBackRow := by
  have S : FnScope ["row", "name", "number"] ["row"] (defScope sBackRow) := ⟨rfl, rfl, rfl, by decide +kernel, rfl, by decide +kernel, by decide +kernel⟩
  refine cal_by z.d_back_row z.g_back_row S (fun _ _ _ _ _ _ us hl => match us, hl with | [_], _ => rfl) (fun vs H Q E h => ?_) (fun cdv A outer s H vs Q E hr h => ?_)
  · obtain ⟨v, r, rfl, _⟩ := h
    rfl
  · obtain ⟨v, r, rfl, hv, hl, q⟩ := h
    obtain ⟨a, xs, rfl, ha, hxs⟩ := hv.tupE
    have hlen := hxs.mlen
    refine ⟨_, pss_one (ps_ret (pe_callTy call_tuple_of (by rfl) z.b_tuple boot_tuple (pa_cons (pe_lc (own := [("name", 1), ("number", 2)]) (g := gTup K 2 (gCons (gName 1) (gCons (gName 2) gNil))) rfl S.nd (pi_tup (pe_revT (pv 0))) (blkOk_by (own := [("name", 1), ("number", 2)]) (N := ["row", "name", "number"]) (sc := defScope sBackRow) (by decide +kernel)) (fun _ _ _ _ _ => (pg_tup rfl (pgs_cons (pg_name (i := 1) S.nd rfl (Or.inl rfl)) (pgs_cons (pg_name (i := 2) S.nd rfl (Or.inl rfl)) pgs_nil)))) (fun _ _ _ _ _ => pts_nil) (fun _ _ _ _ _ => (pe_tup (pa_cons (pv 1) (pa_cons (pe_un un_neg (pv 2)) pa_nil))))) pa_nil))), ?_⟩
    have hrev : ∀ {H1 : Hp}, Same H H1 → Ims H1 xs.reverse (r.reverse.map eP) := fun e => by
      rw [List.map_reverse]
      exact (hxs.on e).rev
    refine ⟨_, rfl, a, xs, rfl, SqT.of ha, fun p hp => ⟨p, rfl, ⟨_, SqT.of upd_same⟩, fun D hD => lc_data (walk_tup (xs := xs.reverse)) ((backRow r).map eP) (by rw [List.length_map, List.length_reverse, backRow, List.length_map, List.length_reverse, hlen]) (by rw [List.length_reverse]; show _ ≤ 2 ^ 24; omega) hD (fun H1 e => SqT.of (e _ _ upd_same)) yat_same (fun i y H1 H2 Nx hi e e2 hy q => ?_) (fun H1 ys e h5 h6 => ?_)⟩⟩
    · obtain ⟨rfl, hc⟩ := hy
      obtain ⟨b, h7, h8⟩ := (hrev ((Same.new hp).trans e)).mget hc
      obtain ⟨c, rfl, h9⟩ := h8.pE
      refine ⟨c, _, rfl, SqT.of h9, rfl, _, _, rfl, _, _, rfl, rfl, rfl, _, rfl, _, rfl, _, rfl, by show 2 ≤ 2 ^ 24; decide, fun T hT => ?_⟩
      exact q _ _ (eP (b.1, -b.2)) (Same.new hT) (by unfold backRow; rw [List.getElem?_map, List.getElem?_map, h7]; rfl) (im_p upd_same)
    · exact ⟨D, ys, rfl, .inl ⟨SqL.of h5, fun l hl => q _ _ (((Same.new hp).trans e).trans (Same.new hl)) (.tup upd_same (h6.on (Same.new hl)))⟩⟩
def spPutTogether : Sp := fun vs H Q _ => ∃ (v : V) (r : Row), vs = [v] ∧ Im H v (eR r) ∧ r.length ≤ 2000 ∧ OkR r ∧ ∀ a xs H', Same H H' → H' a = some (.lst xs) → Ims H' xs ((together r).map eP) → Q (.ref a) H'
theorem c_put_together (z : Z K mg) : Cal P w K mg base 1 "put_together" spPutTogether := by
  have S : FnScope ["row", "found", "name", "number"] ["row"] (defScope sPutTogether) := ⟨rfl, rfl, rfl, by decide +kernel, rfl, by decide +kernel, by decide +kernel⟩
  refine cal_by z.d_put_together z.g_put_together S (fun _ _ _ _ _ _ us hl => match us, hl with | [_], _ => rfl) (fun vs H Q E h => ?_) (fun cdv A outer s H vs Q E hr h => ?_)
  · obtain ⟨v, r, rfl, _⟩ := h
    rfl
  · obtain ⟨v, r, rfl, hv, hl, hok, q⟩ := h
    obtain ⟨a, xs, rfl, ha, hxs⟩ := hv.tupE
    have hlen := hxs.mlen
    refine ⟨_, pss_cons (ps_set (i := 1) S.nd rfl (Or.inl rfl) (pe_lst pa_nil))
    (pss_cons (ps_for PassesOwn.never rfl (pi_tup (pv 0)) (pg_tup rfl (pgs_cons (pg_name (i := 2) S.nd rfl (Or.inl rfl)) (pgs_cons (pg_name (i := 3) S.nd rfl (Or.inl rfl)) pgs_nil)))
      (pss_one (ps_if (PW.pt (pw_and (pt_cmpR (op_neD hr.units) (pv 1) (pe_lst pa_nil) (nomark _)) (pw_and1 (pt_cmpR op_eq (pe_ix ix_tup (pe_ix ix_list (pv 1) (pe_un un_neg pe_int) (fun _ _ => rfl)) pe_int (fun _ _ => rfl)) (pv 2) (nomark _)))))
        (pss_one (ps_asg (pe_tup (pa_cons (pv 2) (pa_cons (pe_op op_add (pe_ix ix_tup (pe_ix ix_list (pv 1) (pe_un un_neg pe_int) (fun _ _ => rfl)) pe_int (fun _ _ => rfl)) (pv 3)) pa_nil))) (pg_sub (pv 1) (pe_un un_neg pe_int) set_list)))
        (pss_one (ps_expr (pe_bm PySem.F.plainAttrs_list PySem.F.slot_list_append PySem.F.type_list_append mt_append (pv 1) (pa_cons (pe_tup (pa_cons (pv 2) (pa_cons (pv 3) pa_nil))) pa_nil)))))))
    (pss_one (ps_ret (pv 1)))), ?_⟩
    refine ⟨by decide, fun F hF => ?_⟩
    refine ⟨_, rfl, a, rfl, ⟨_, SqT.of (Same.new hF _ _ ha)⟩, for_it (walk_tup (xs := xs)) (fun i σ H2 => Same H H2 ∧ (∃ ys, H2 F = some (.lst ys) ∧ Ims H2 ys ((together (r.take i)).map eP)) ∧ ∃ w1 w2, σ = [some (.ref a), some (.ref F), w1, w2]) ⟨Same.new hF, ⟨[], upd_same, .nil⟩, none, none, rfl⟩ (fun i σ H2 _ p => SqT.of (p.1 _ _ ha)) (fun i x σ H2 H3 hi p hy => ?_) (fun σ H2 p => ?_)⟩
    · obtain ⟨e1, ⟨ys, h1, h2⟩, w1, w2, rfl⟩ := p
      obtain ⟨rfl, hc⟩ := hy
      obtain ⟨p, hp1, hp2⟩ := (hxs.on e1).mget hc
      obtain ⟨c, rfl, hc2⟩ := hp2.pE
      have hys := h2.mlen
      have hf := together_len (r.take i)
      rw [List.length_take] at hf
      have hnext : together (r.take (i + 1)) = putTo (together (r.take i)) p := by
        rw [take_some hp1, together, List.foldl_append]
        rfl
      have hokf : OkR (together (r.take i)) := together_names (N := fun x => PyData.strOk x = true) fun p m => hok p (List.mem_of_mem_take m)
      refine ⟨c, _, rfl, SqT.of hc2, rfl, _, _, rfl, _, _, rfl, rfl, ?_⟩
      refine ⟨_, rfl, by decide, fun L hL => ⟨.list ((together (r.take i)).map eP), .list [], .lst (SqL.of (Same.new hL _ _ h1)) (Ims.dp _ _ (h2.on (Same.new hL))), .lst (SqL.of upd_same) .nil, shaped_by (k := 2) (lay_R hokf) (Nat.succ_le_succ (depth_map _ 1 dep_P _)) (by decide), rfl, ?_⟩⟩
      have e2 := Same.new (o := HO.lst []) hL
      -- what a new press at the end asks
      have app : ∀ (Nx : L2.St → Hp → Prop), (∀ H5 ys2, Same H H5 → H5 F = some (.lst ys2) → Ims H5 ys2 ((together (r.take i) ++ [p]).map eP) → Nx [some (.ref a), some (.ref F), some (.str p.1), some (.int p.2)] H5) →
          ∀ T, upd H3 L (HO.lst []) T = none → ys.length < sizeLine ∧ Nx [some (.ref a), some (.ref F), some (.str p.1), some (.int p.2)] (upd (upd (upd H3 L (HO.lst [])) T (.tup [.str p.1, .int p.2])) F (.lst (ys ++ [.ref T]))) := fun Nx hN T hT => by
        have e3 := e2.trans (Same.new (o := HO.tup [.str p.1, .int p.2]) hT)
        have hTF : T ≠ F := fun z => by rw [z] at hT; rw [e2 _ _ h1] at hT; cases hT
        refine ⟨by show _ < 2 ^ 24; omega, hN _ _ (Same.mut (e1.trans e3) hF) upd_same ?_⟩
        refine Ims.snocM ((h2.on e3).by (TK.put (e3 _ _ h1) (fun _ z => by cases z))) (im_p ((upd_ne hTF).trans upd_same))
      rw [PyData.eqv]
      rcases List.eq_nil_or_concat (together (r.take i)) with hnil | ⟨g, q0, hg⟩
      · rw [hnil]
        have hput : putTo (together (r.take i)) p = together (r.take i) ++ [p] := by rw [hnil]; rfl
        refine ⟨false, rfl, iteF ?_⟩
        refine iteF ?_
        refine ⟨_, rfl, .inl ⟨rfl, _, SqL.of (e2 _ _ h1)⟩, _, rfl, _, rfl, by show 2 ≤ 2 ^ 24; decide, fun T hT => ?_⟩
        have e3 := e2.trans (Same.new (o := HO.tup [.str p.1, .int p.2]) hT)
        refine ⟨F, ys, _, rfl, rfl, e3 _ _ h1, app _ (fun H5 ys2 k1 k2 k3 => ⟨k1, ⟨ys2, k2, by rw [hnext, hput]; exact k3⟩, _, _, rfl⟩) T hT⟩
      · have hne : PyData.eqvAll ((together (r.take i)).map eP) [] = false := by
          rw [hg, List.concat_eq_append, List.map_append]
          cases g <;> rfl
        rw [hne]
        have hg' : together (r.take i) = g ++ [q0] := by rw [hg, List.concat_eq_append]
        rw [hg'] at h2
        have hyl : ys.length = g.length + 1 := by have := h2.mlen; rw [List.length_append] at this; exact this
        have hlast : ∃ y, ys[g.length]? = some y := ⟨_, List.getElem?_eq_getElem (by omega)⟩
        obtain ⟨y, hy⟩ := hlast
        obtain ⟨q1, hq1, hq2⟩ := h2.mget hy
        rw [List.getElem?_append_right (Nat.le_refl _), Nat.sub_self] at hq1
        cases hq1
        obtain ⟨d, rfl, hd⟩ := hq2.pE
        have hix : atI ys (-1) = some (V.ref d) := by
          unfold atI ixN
          rw [if_neg (by decide), if_pos (by omega)]
          show ys[((-1 : Int) + (ys.length : Int)).toNat]? = _
          rw [show ((-1 : Int) + (ys.length : Int)).toNat = g.length by omega]
          exact hy
        have hixN : ixN ys.length (-1) = some g.length := by
          unfold ixN
          rw [if_neg (by decide), if_pos (by omega)]
          exact congrArg some (by omega)
        refine ⟨true, rfl, iteT ?_⟩
        refine ⟨_, rfl, _, rfl, F, _, _, _, rfl, rfl, SqL.of (e2 _ _ h1), hix, d, _, _, _, rfl, rfl, SqT.of (e2 _ _ hd), rfl, _, rfl, rfl, _, rfl, ?_⟩
        by_cases hc3 : q0.1 = p.1
        · rw [decide_eq_true (congrArg V.str hc3)]
          have hput : putTo (together (r.take i)) p = g ++ [(p.1, q0.2 + p.2)] := by
            unfold putTo
            rw [hg', List.getLast?_concat]
            simp only [if_pos hc3]
            rw [List.dropLast_concat]
          refine iteT ?_
          refine ⟨_, rfl, _, rfl, _, rfl, F, _, _, _, rfl, rfl, SqL.of (e2 _ _ h1), hix, d, _, _, _, rfl, rfl, SqT.of (e2 _ _ hd), rfl, _, rfl, _, _, rfl, rfl, by show 2 ≤ 2 ^ 24; decide, fun T hT => ?_⟩
          have e3 := e2.trans (Same.new (o := HO.tup [.str p.1, .int (q0.2 + p.2)]) hT)
          have hTF : T ≠ F := fun z => by rw [z] at hT; rw [e2 _ _ h1] at hT; cases hT
          refine ⟨_, rfl, _, rfl, F, _, _, _, rfl, rfl, e3 _ _ h1, hixN, ?_⟩
          refine ⟨Same.mut (e1.trans e3) hF, ⟨_, upd_same, ?_⟩, _, _, rfl⟩
          rw [hnext, hput]
          have hys2 : ys.set g.length (V.ref T) = ys.take g.length ++ [V.ref T] := by
            rw [List.set_eq_take_append_cons_drop, if_pos (by omega), List.drop_of_length_le (by omega)]
          rw [hys2]
          have h3 : Ims H3 (ys.take g.length) (g.map eP) := by
            have := ims_take g.length h2
            rw [List.map_append, List.take_left' (by rw [List.length_map])] at this
            exact this
          exact Ims.snocM ((h3.on e3).by (TK.put (e3 _ _ h1) (fun _ z => by cases z))) (im_p ((upd_ne hTF).trans upd_same))
        · rw [decide_eq_false fun z => hc3 (V.str.inj z)]
          have hput : putTo (together (r.take i)) p = together (r.take i) ++ [p] := by
            unfold putTo
            rw [hg', List.getLast?_concat]
            simp only [if_neg hc3]
          refine iteF ?_
          refine ⟨_, rfl, .inl ⟨rfl, _, SqL.of (e2 _ _ h1)⟩, _, rfl, _, rfl, by show 2 ≤ 2 ^ 24; decide, fun T hT => ?_⟩
          have e3 := e2.trans (Same.new (o := HO.tup [.str p.1, .int p.2]) hT)
          rw [← hg'] at h2
          refine ⟨F, ys, _, rfl, rfl, e3 _ _ h1, app _ (fun H5 ys2 k1 k2 k3 => ⟨k1, ⟨ys2, k2, by rw [hnext, hput]; exact k3⟩, _, _, rfl⟩) T hT⟩
    · obtain ⟨e1, ⟨ys, h1, h2⟩, w1, w2, rfl⟩ := p
      rw [hlen, List.take_length] at h2
      exact ⟨_, rfl, q F ys _ e1 h1 h2⟩
end
end Sb
namespace Sb
open PySem PySem.Spec PyProof.Rows L2
section
variable {P : Program} {w : World} {K : PySem.W.Frag} {mg : Str → Option Value} {base : Heap}
theorem shN_known {bs : List Btn} {r : Row} (h : Known bs r) : ∀ k, Known bs (shN bs k r)
  | 0 => h
  | k + 1 => shStep_known (shN_known h k)
theorem shN_len (bs : List Btn) (r : Row) : ∀ k, (shN bs k r).length ≤ r.length
  | 0 => Nat.le_refl _
  | k + 1 => Nat.le_trans (shStep_len ..) (shN_len bs r k)
theorem filt_map : ∀ l : Row, l.filterMap (fun p => if p.2 ≠ 0 then some (eP p) else none) = (l.filter fun p => decide (p.2 ≠ 0)).map eP
  | [] => rfl
  | p :: l => by
    by_cases c : p.2 = 0
    · simp only [List.filterMap_cons, List.filter_cons, c, ne_eq, not_true, if_false, decide_false, filt_map l, Bool.false_eq_true]
    · simp only [List.filterMap_cons, List.filter_cons, c, ne_eq, not_false_eq_true, if_true, decide_true, filt_map l, List.map_cons]
theorem ringGo_len (t : Trn) : ∀ (f : Nat) (gone ring : List Nat) (p : Nat), (ringGo t f gone ring p).2.length + gone.length = (ringGo t f gone ring p).1.length + ring.length
  | 0, _, _, _ => Nat.add_comm ..
  | f + 1, gone, ring, p => by
    rw [ringGo]
    split
    · exact Nat.add_comm ..
    · have := ringGo_len t f (gone ++ [p]) (ring ++ [p]) (gt t p)
      rw [List.length_append, List.length_append] at this
      simp only [List.length_singleton] at this
      omega
theorem ringsTo_rlen {t : Trn} {n : Nat} (h : Tn n t) : ∀ i, i ≤ n → ∀ r ∈ (ringsTo t i).2, r.length ≤ n
  | 0, _, r, m => by simp [ringsTo] at m
  | i + 1, hi, r, m => by
    obtain ⟨h1, h2, h3, h4⟩ := ringsTo_ok h i (by omega)
    obtain ⟨g1, g2, g3⟩ := ringGo_ok h (t.length + 1) (ringsTo t i).1 [] i h1 h2 (fun _ m => by cases m) (by omega)
    simp only [ringsTo] at m
    have hone : (ringGo t (t.length + 1) (ringsTo t i).1 [] i).2.length ≤ n := by
      have e := ringGo_len t (t.length + 1) (ringsTo t i).1 [] i
      have := nd_len g1 g2
      rw [List.length_nil] at e
      omega
    split at m
    · exact ringsTo_rlen h i (by omega) r m
    · rcases List.mem_append.mp m with m | m
      · exact ringsTo_rlen h i (by omega) r m
      · rw [List.mem_singleton] at m; rw [m]; exact hone
theorem ring_len {t : Trn} {n : Nat} (h : Tn n t) {r : Trn} (m : r ∈ rings t) : r.length ≤ n := ringsTo_rlen h _ (Nat.le_of_eq h.1) r m
section
variable {X : Cx} {K' : PySem.W.Frag} {k j : Nat} {c m : Str} {sp : Sp} {e o : Expr} {es : List Expr} {pos apos : Pos} {t : TA} {ta : TE}
/-- a method's call, the class's place told -/
theorem pe_mB {pl : Sem Bool} (c' : Met X.prog X.w K' X.mg X.base k c m sp) (hK : X.K = K') (hr : Room j X.A) (hk : k ≤ j) (he : PE X o ta) (ha : PA X (e :: es) t)
    (hst : starEach (e :: es) X.env = (false, eval e X.env) :: starEach es X.env := by rfl) (hpl : (backTo pos (starEach es X.env)).any (·.1) = false := by rfl)
    (ht : eval (.Call (.Attribute o m apos) (e :: es) [] pos) X.env = (do
      let ov ← eval o X.env
      standAt apos.atName
      let (f, first) ← holding [ov] (getMethod ov m pl)
      callWith pos f first (backTo pos (starEach (e :: es) X.env)) (backToKw pos (keywordEach [] X.env))) := by rfl) :
    PE X (.Call (.Attribute o m apos) (e :: es) [] pos) (tMeth (gA K' c) m sp [] E0 ta t) := by
  subst hK
  exact pe_m c' hr hk he ha hst hpl ht
end
def spShorter (K : PySem.W.Frag) : Sp := fun vs H Q _ => ∃ (v u : V) (n : Nat) (bs : List Btn) (r : Row), vs = [v, u] ∧ Bd K H v n bs ∧ BtnsOk n bs ∧ Im H u (eR r) ∧ RowOk bs r ∧ ∀ x H' k, Same H H' → Im H' x (eR (shN bs k r)) → Q x H'
theorem c_shorter_for (z : Z K mg) : Cal P w K mg base 3 "shorter_for" (spShorter K) := by
  have S : FnScope ["board", "row", "before", "here", "joined", "pairs", "name", "number"] ["board", "row"] (defScope sShorterFor) := ⟨rfl, rfl, rfl, by decide +kernel, rfl, by decide +kernel, by decide +kernel⟩
  refine cal_by z.d_shorter_for z.g_shorter_for S (fun _ _ _ _ _ _ us hl => match us, hl with | [_, _], _ => rfl) (fun vs H Q E h => ?_) (fun cdv A outer s H vs Q E hr h => ?_)
  · obtain ⟨v, u, n, bs, r, rfl, _⟩ := h
    rfl
  · obtain ⟨v, u, n, bs, r, rfl, hbd, hb, hu, ⟨hl, hrok⟩, q⟩ := h
    have hk : Known bs r := fun p m => (hrok p m).1
    refine ⟨_, pss_cons (ps_par (i := 2) (j := 3) (by rfl) S.nd rfl rfl (by decide) rfl rfl (pa_cons pe_non (pa_cons (pe_callTy call_tuple_of (by rfl) z.b_tuple boot_tuple (pa_cons (pv 1) pa_nil)) pa_nil)) (by rfl))
    (pss_cons (ps_while PassesOwn.never (pt_cmpR (op_neD hr.units) (pv 2) (pv 3) (nomark _))
      (pss_cons (ps_set (i := 2) S.nd rfl (Or.inl rfl) (pv 3))
      (pss_cons (ps_set (i := 4) S.nd rfl (Or.inl rfl) (pe_f (c_put_together z) hr (by decide) rfl (pa_cons (pv 3) pa_nil)))
      (pss_cons (ps_setLc (i := 5) (own := [("name", 6), ("number", 7)]) (g := gTup K 2 (gCons (gName 6) (gCons (gName 7) gNil))) rfl S.nd rfl rfl (sw_true rfl rfl rfl (by decide +kernel)) (pi_list (pv 4)) (blkOk_by (own := [("name", 6), ("number", 7)]) (N := ["board", "row", "before", "here", "joined", "pairs", "name", "number"]) (sc := defScope sShorterFor) (by decide +kernel)) (fun _ _ _ _ _ => (pg_tup rfl (pgs_cons (pg_name (i := 6) S.nd rfl (Or.inl rfl)) (pgs_cons (pg_name (i := 7) S.nd rfl (Or.inl rfl)) pgs_nil)))) (fun _ _ _ _ _ => pts_nil) (fun _ _ _ _ _ => (pe_tup (pa_cons (pv 6) (pa_cons (pe_f (c_nearest_number z) hr (by decide) rfl (pa_cons (pv 7) (pa_cons (pe_f (c_multiple_of z) hr (by decide) rfl (pa_cons (pe_f (c_kind_for z) hr (by decide) rfl (pa_cons (pe_mB (m_turn z) rfl hr (by decide) (pv 0) (pa_cons (pv 6) pa_nil)) pa_nil)) pa_nil)) pa_nil))) pa_nil)))))
      (pss_one (ps_set (i := 3) S.nd rfl (Or.inl rfl) (pe_callTy call_tuple_of (by rfl) z.b_tuple boot_tuple (pa_cons (pe_lc (own := [("name", 6), ("number", 7)]) (g := gTup K 2 (gCons (gName 6) (gCons (gName 7) gNil))) rfl S.nd (pi_list (pv 5)) (blkOk_by (own := [("name", 6), ("number", 7)]) (N := ["board", "row", "before", "here", "joined", "pairs", "name", "number"]) (sc := defScope sShorterFor) (by decide +kernel)) (fun _ _ _ _ _ => (pg_tup rfl (pgs_cons (pg_name (i := 6) S.nd rfl (Or.inl rfl)) (pgs_cons (pg_name (i := 7) S.nd rfl (Or.inl rfl)) pgs_nil)))) (fun _ _ _ _ _ => pts_one (pt_cmpR op_ne (pv 7) pe_int (nomark _))) (fun _ _ _ _ _ => (pe_tup (pa_cons (pv 6) (pa_cons (pv 7) pa_nil))))) pa_nil))))))))
    (pss_one (ps_ret (pv 3)))), ?_⟩
    have hb' := hb
    obtain ⟨n1, n2, n3, n4, n5⟩ := hb'
    have hbt : ∀ b ∈ bs, Tn n b.2 := fun b m => (n4 b m).2.2.tn
    have hbn : ∀ b ∈ bs, NameOk b.1 := fun b m => (n4 b m).1
    obtain ⟨a, xs, rfl, ha, hxs⟩ := hu.tupE
    refine ⟨_, rfl, a, _, rfl, .inr ⟨SqT.of ha, _, _, rfl, ?_⟩⟩
    refine ⟨fun m σ H2 => ∃ (B : Option Row) (bv hv : V) (r1 : Row) (k : Nat) (u4 u5 u6 u7 : Option V), (B = none ∧ bv = .non ∨ ∃ b, B = some b ∧ OkR b ∧ Im H2 bv (eR b)) ∧ Im H2 hv (eR r1) ∧ r1 = shN bs k r ∧ (B = some r1 ∨ (Nrm bs r1 ∧ r1.length + 1 ≤ m) ∨ r1.length + 2 ≤ m) ∧ Same H H2 ∧ σ = [some v, some (.ref a), some bv, some hv, u4, u5, u6, u7], ⟨r.length + 2, none, .non, .ref a, r, 0, none, none, none, none, .inl ⟨rfl, rfl⟩, .tup ha hxs, rfl, .inr (.inr (Nat.le_refl _)), Same.refl _, rfl⟩, ?_⟩
    rintro m σ H2 ⟨B, bv, hv, r1, k, u4, u5, u6, u7, hB, hh, hr1, hm, e1, rfl⟩
    have hk1 : Known bs r1 := by rw [hr1]; exact shN_known hk k
    have hl1 : r1.length ≤ 2000 := by rw [hr1]; exact Nat.le_trans (shN_len bs r k) hl
    have hok1 : OkR r1 := okR_of hbn hk1
    have hgo : ∀ (D : Ends) (t1 t2 : Prop) (b : Bool), (B = some r1 → b = false → t2) → (¬ B = some r1 → b = true → t1) → (b = !decide (B = some r1)) → (if b = true then t1 else t2) := fun D t1 t2 b h1 h2 hb => by
      by_cases c : B = some r1
      · rw [decide_eq_true c] at hb
        rw [if_neg (by rw [hb]; decide)]
        exact h1 c hb
      · rw [decide_eq_false c] at hb
        rw [if_pos (by rw [hb]; rfl)]
        exact h2 c hb
    have hcmp : ∃ d, Dp K H2 bv d ∧ SeqAt.shaped d = true ∧ (!PyData.eqv d (eR r1)) = !decide (B = some r1) := by
      rcases hB with ⟨rfl, rfl⟩ | ⟨b, rfl, hbo, hbi⟩
      · exact ⟨.none, .non, rfl, rfl⟩
      · refine ⟨eR b, Im.dp _ _ hbi, shaped_R hbo, ?_⟩
        rw [eq_R]
        simp
    obtain ⟨d, hd1, hd2, hd3⟩ := hcmp
    refine ⟨_, rfl, _, rfl, d, eR r1, hd1, Im.dp _ _ hh, hd2, shaped_R hok1, _, rfl, ?_⟩
    refine hgo ⟨fun _ _ => True, fun _ _ => True, fun _ _ => True, fun _ _ => True⟩ _ _ _ (fun hc _ => ?_) (fun hc _ => ?_) hd3
    · refine ⟨_, rfl, q hv _ k e1 ?_⟩
      rw [← hr1]
      exact hh
    · have hmp : 1 ≤ m := by
        rcases hm with hm | hm | hm
        · exact absurd hm hc
        · omega
        · omega
      refine ⟨_, fun σ' H' w => ⟨m - 1, by omega, w⟩, ?_⟩
      refine ⟨_, rfl, _, rfl, hv, r1, rfl, hh, hl1, hok1, fun F ys H3 e3 hF hys => ?_⟩
      have hty := together_len r1
      have hyl := hys.mlen
      refine ⟨_, rfl, F, rfl, ⟨_, SqL.of hF⟩, fun G hG => lc_data (walk_list (xs := ys)) (((together r1).map fun p => (p.1, near p.2 (whole (tOf bs p.1)))).map eP) (by rw [List.length_map, List.length_map, hyl]) (by show _ ≤ 2 ^ 24; omega) hG (fun H4 e => SqL.of (e _ _ hF)) yat_same (fun i y H4 H5 Nx hi e4 e5 hy q => ?_) (fun H4 ps e4 h5 h6 => ?_)⟩
      · obtain ⟨rfl, hc⟩ := hy
        obtain ⟨p, h7, h8⟩ := (hys.on e4).mget hc
        obtain ⟨c, rfl, h9⟩ := h8.pE
        have hpk := together_names (N := fun x => x ∈ List.map Prod.fst bs) hk1 p (List.mem_of_getElem? h7)
        obtain ⟨g1, g2⟩ := tOf_some hpk
        have tn := hbt _ g2
        have ebd := (e1.trans e3).trans e4
        have hbd' := hbd.on ebd
        obtain ⟨a', dx, T', E', rfl, ha', hT'⟩ := hbd'
        refine ⟨c, _, rfl, SqT.of h9, rfl, _, _, rfl, _, _, rfl, rfl, rfl, ?_⟩
        refine ⟨_, rfl, _, rfl, _, rfl, a', dx, _, rfl, ha', rfl, _, rfl, _, p.1, n, bs, _, rfl, hbd.on ebd, g1, fun y hy => ?_⟩
        refine ⟨y, _, rfl, hy, by rw [tn.1]; omega, by rw [tn.1]; exact tn, fun y2 H6 ms e6 hms hy2 => ?_⟩
        refine ⟨y2, ms, rfl, hy2, fun x hx => ?_, ?_⟩
        · obtain ⟨rg, hrg, rfl⟩ := List.mem_map.mp (hms.mem_iff.mp hx)
          refine ⟨List.length_pos_iff.mpr (ringsTo_ne _ rg hrg), ?_⟩
          exact Nat.le_trans (ring_len tn hrg) (by omega)
        · rw [lcms_perm hms]
          refine ⟨p.2, whole (tOf bs p.1), rfl, whole_pos tn (by omega), ?_⟩
          refine ⟨by show 2 ≤ 2 ^ 24; decide, fun T hT => ?_⟩
          exact q _ _ (eP (p.1, near p.2 (whole (tOf bs p.1)))) (e6.trans (Same.new hT)) (by rw [List.getElem?_map, List.getElem?_map, h7]; rfl) (im_p upd_same)
      · have hpl := h6.mlen
        rw [List.length_map] at hpl
        refine ⟨_, rfl, G, rfl, ⟨_, SqL.of h5⟩, fun L hL => lc_dataF (walk_list (xs := ps)) (fun i => (((together r1).map fun p => (p.1, near p.2 (whole (tOf bs p.1))))[i]?).bind fun p => if p.2 ≠ 0 then some (eP p) else none) (by show _ ≤ 2 ^ 24; omega) hL (fun H4 e => SqL.of (e _ _ h5)) yat_same (fun i y H5 H6 Nx Ns hi e5 e6 hy q1 q2 => ?_) (fun H5 zs e5 h7 h8 => ?_)⟩
        · obtain ⟨rfl, hc⟩ := hy
          obtain ⟨p, h9, h10⟩ := (h6.on e5).mget hc
          obtain ⟨c, rfl, h11⟩ := h10.pE
          refine ⟨c, _, rfl, SqT.of h11, rfl, _, _, rfl, _, _, rfl, rfl, rfl, _, rfl, rfl, _, rfl, ?_⟩
          by_cases hz : p.2 = 0
          · rw [hz, decide_eq_true rfl]
            exact iteF (q2 _ (Same.refl _) (by simp only [h9, Option.bind_some]; rw [if_neg (by rw [hz]; decide)]))
          · rw [decide_eq_false fun e => hz (V.int.inj e)]
            refine iteT ⟨_, rfl, _, rfl, by show 2 ≤ 2 ^ 24; decide, fun T hT => ?_⟩
            exact q1 _ _ (eP p) (Same.new hT) (by simp only [h9, Option.bind_some]; rw [if_pos hz]) (im_p upd_same)
        · refine ⟨L, _, rfl, .inl ⟨SqL.of h7, fun T hT => ?_⟩⟩
          have eall := (((e1.trans e3).trans e4).trans e5).trans (Same.new (o := HO.tup zs) hT)
          refine ⟨some r1, hv, .ref T, shStep bs r1, k + 1, _, _, _, _, .inr ⟨r1, rfl, hok1, hh.on (((e3.trans e4).trans e5).trans (Same.new hT))⟩, .tup upd_same ?_, by rw [hr1]; rfl, ?_, eall, rfl⟩
          · have e9 : (List.range ps.length).filterMap (fun i => (((together r1).map fun p => (p.1, near p.2 (whole (tOf bs p.1))))[i]?).bind fun p => if p.2 ≠ 0 then some (eP p) else none) = (shStep bs r1).map eP := by
              rw [hpl, ← List.length_map (f := fun p : Press => (p.1, near p.2 (whole (tOf bs p.1)))), range_filterMap _ _ _ (Nat.le_refl _), List.take_length, shStep]
              exact filt_map _
            rw [e9] at h8
            exact h8.on (Same.new hT)
          · have hn' := shStep_nrm hbt (by omega) hk1
            have hlen' := shStep_len bs r1
            rcases hm with hm | ⟨hm1, hm2⟩ | hm
            · exact absurd hm hc
            · rcases shStep_end hm1 with h | h
              · exact .inl (by rw [h])
              · exact .inr (.inl ⟨hn', by omega⟩)
            · exact .inr (.inl ⟨hn', by omega⟩)
end
end Sb
namespace Sb
open PySem PySem.Spec PyProof.Rows L2
section
variable {P : Program} {w : World} {K : PySem.W.Frag} {mg : Str → Option Value} {base : Heap}
/-- a board and a row that are right -/
def Asked (K : PySem.W.Frag) (H : Hp) (v u : V) (n : Nat) (bs : List Btn) (r : Row) : Prop := Bd K H v n bs ∧ BtnsOk n bs ∧ Im H u (eR r) ∧ RowOk bs r
theorem Asked.on {H H' : Hp} {v u : V} {n : Nat} {bs : List Btn} {r : Row} (h : Asked K H v u n bs r) (e : Same H H') : Asked K H' v u n bs r := ⟨h.1.on e, h.2.1, h.2.2.1.on e, h.2.2.2⟩
def spPressed (K : PySem.W.Frag) : Sp := fun vs H Q _ => ∃ (v u : V) (n : Nat) (bs : List Btn) (r : Row), vs = [v, u] ∧ Asked K H v u n bs r ∧ ∀ x H', Same H H' → Im H' x (eT (turnFor n bs r)) → Q x H'
theorem c_pressed (z : Z K mg) : Cal P w K mg base 7 "pressed" (spPressed K) := by
  have S : FnScope ["board", "row"] ["board", "row"] (defScope sPressed) := ⟨rfl, rfl, rfl, by decide +kernel, rfl, by decide +kernel, by decide +kernel⟩
  refine cal_by z.d_pressed z.g_pressed S (fun _ _ _ _ _ _ us hl => match us, hl with | [_, _], _ => rfl) (fun vs H Q E h => ?_) (fun cdv A outer s H vs Q E hr h => ?_)
  · obtain ⟨v, u, n, bs, r, rfl, _⟩ := h
    rfl
  · obtain ⟨v, u, n, bs, r, rfl, h, q⟩ := h
    refine ⟨_, pss_cons (ps_expr (pe_f (c_check_asked z) hr (by decide) rfl (pa_cons (pv 0) (pa_cons (pv 1) pa_nil))))
    (pss_one (ps_ret (pe_f (c_turn_for z) hr (by decide) rfl (pa_cons (pv 0) (pa_cons (pv 1) pa_nil))))), ?_⟩
    refine ⟨_, rfl, _, rfl, v, u, n, bs, r, rfl, h.1, h.2.1.2.2.1, h.2.2.1, h.2.2.2, fun H1 e1 => ?_⟩
    exact ⟨_, rfl, _, rfl, v, u, n, bs, r, rfl, h.1.on e1, h.2.1, h.2.2.1.on e1, h.2.2.2.known, fun x H2 e2 hx => q x H2 (e1.trans e2) hx⟩
def spLength (K : PySem.W.Frag) : Sp := fun vs H Q _ => ∃ (v u : V) (n : Nat) (bs : List Btn) (r : Row), vs = [v, u] ∧ Asked K H v u n bs r ∧ ∀ H', Same H H' → Q (.int (lenR r)) H'
theorem Ims.intsM {H : Hp} {α : Type} (f : α → Int) : ∀ {vs : List V} {l : List α}, Ims H vs (l.map fun x => .int (f x)) → vs = (l.map f).map V.int
  | _, [], h => by cases h; rfl
  | _, n :: t, h => by
    cases h with
    | cons h1 h2 => rw [h1.intE, h2.intsM f]; rfl
theorem c_length (z : Z K mg) : Cal P w K mg base 7 "length" (spLength K) := by
  have S : FnScope ["board", "row", "name", "number"] ["board", "row"] (defScope sLength) := ⟨rfl, rfl, rfl, by decide +kernel, rfl, by decide +kernel, by decide +kernel⟩
  refine cal_by z.d_length z.g_length S (fun _ _ _ _ _ _ us hl => match us, hl with | [_, _], _ => rfl) (fun vs H Q E h => ?_) (fun cdv A outer s H vs Q E hr h => ?_)
  · obtain ⟨v, u, n, bs, r, rfl, _⟩ := h
    rfl
  · obtain ⟨v, u, n, bs, r, rfl, h, q⟩ := h
    refine ⟨_, pss_cons (ps_expr (pe_f (c_check_asked z) hr (by decide) rfl (pa_cons (pv 0) (pa_cons (pv 1) pa_nil))))
    (pss_one (ps_ret (pe_callB (cr_sum rfl) (by rfl) z.b_sum (by decide +kernel) (pa_cons (pe_lc (own := [("name", 2), ("number", 3)]) (g := gTup K 2 (gCons (gName 2) (gCons (gName 3) gNil))) rfl S.nd (pi_tup (pv 1)) (blkOk_by (own := [("name", 2), ("number", 3)]) (N := ["board", "row", "name", "number"]) (sc := defScope sLength) (by decide +kernel)) (fun _ _ _ _ _ => (pg_tup rfl (pgs_cons (pg_name (i := 2) S.nd rfl (Or.inl rfl)) (pgs_cons (pg_name (i := 3) S.nd rfl (Or.inl rfl)) pgs_nil)))) (fun _ _ _ _ _ => pts_nil) (fun _ _ _ _ _ => (pe_callB call_abs (by rfl) z.b_abs boot_abs (pa_cons (pv 3) pa_nil)))) pa_nil)))), ?_⟩
    refine ⟨_, rfl, _, rfl, v, u, n, bs, r, rfl, h.1, h.2.1.2.2.1, h.2.2.1, h.2.2.2, fun H1 e1 => ?_⟩
    obtain ⟨a, xs, rfl, ha, hxs⟩ := (h.2.2.1.on e1).tupE
    have hlen := hxs.mlen
    have hl := h.2.2.2.1
    refine ⟨_, rfl, a, rfl, ⟨_, SqT.of ha⟩, fun D hD => lc_data (walk_tup (xs := xs)) (r.map fun p => .int (if p.2 < 0 then -p.2 else p.2)) (by rw [List.length_map, hlen]) (by show _ ≤ 2 ^ 24; omega) hD (fun H1 e => SqT.of (e _ _ ha)) yat_same (fun i y H2 H3 Nx hi e e2 hy q => ?_) (fun H2 ys e h5 h6 => ?_)⟩
    · obtain ⟨rfl, hc⟩ := hy
      obtain ⟨p, h7, h8⟩ := (hxs.on e).mget hc
      obtain ⟨c, rfl, h9⟩ := h8.pE
      refine ⟨c, _, rfl, SqT.of h9, rfl, _, _, rfl, _, _, rfl, rfl, rfl, _, rfl, p.2, rfl, ?_⟩
      exact q _ _ _ (Same.refl _) (by rw [List.getElem?_map, h7]; rfl) (.int _)
    · rw [h6.intsM] at h5
      exact ⟨D, _, rfl, SqL.of h5, q _ (e1.trans e)⟩
def spRowBack (K : PySem.W.Frag) : Sp := fun vs H Q _ => ∃ (v u : V) (n : Nat) (bs : List Btn) (r : Row), vs = [v, u] ∧ Asked K H v u n bs r ∧ ∀ x H', Same H H' → Im H' x (eR (backRow r)) → Q x H'
theorem c_row_back (z : Z K mg) : Cal P w K mg base 7 "row_back" (spRowBack K) := by
  have S : FnScope ["board", "row"] ["board", "row"] (defScope sRowBack) := ⟨rfl, rfl, rfl, by decide +kernel, rfl, by decide +kernel, by decide +kernel⟩
  refine cal_by z.d_row_back z.g_row_back S (fun _ _ _ _ _ _ us hl => match us, hl with | [_, _], _ => rfl) (fun vs H Q E h => ?_) (fun cdv A outer s H vs Q E hr h => ?_)
  · obtain ⟨v, u, n, bs, r, rfl, _⟩ := h
    rfl
  · obtain ⟨v, u, n, bs, r, rfl, h, q⟩ := h
    refine ⟨_, pss_cons (ps_expr (pe_f (c_check_asked z) hr (by decide) rfl (pa_cons (pv 0) (pa_cons (pv 1) pa_nil))))
    (pss_one (ps_ret (pe_f (c_back_row z) hr (by decide) rfl (pa_cons (pv 1) pa_nil)))), ?_⟩
    refine ⟨_, rfl, _, rfl, v, u, n, bs, r, rfl, h.1, h.2.1.2.2.1, h.2.2.1, h.2.2.2, fun H1 e1 => ?_⟩
    exact ⟨_, rfl, u, r, rfl, h.2.2.1.on e1, h.2.2.2.1, fun x H2 e2 hx => q x H2 (e1.trans e2) hx⟩
def spCheckRows (K : PySem.W.Frag) : Sp := fun vs H Q _ => ∃ (v u u' : V) (n : Nat) (bs : List Btn) (r r' : Row), vs = [v, u, u'] ∧ Asked K H v u n bs r ∧ Asked K H v u' n bs r' ∧ ∀ H', Same H H' → Q .non H'
theorem c_check_rows (z : Z K mg) : Cal P w K mg base 7 "check_rows" (spCheckRows K) := by
  have S : FnScope ["board", "one", "other"] ["board", "one", "other"] (defScope sCheckRows) := ⟨rfl, rfl, rfl, by decide +kernel, rfl, by decide +kernel, by decide +kernel⟩
  refine cal_by z.d_check_rows z.g_check_rows S (fun _ _ _ _ _ _ us hl => match us, hl with | [_, _, _], _ => rfl) (fun vs H Q E h => ?_) (fun cdv A outer s H vs Q E hr h => ?_)
  · obtain ⟨v, u, u', n, bs, r, r', rfl, _⟩ := h
    rfl
  · obtain ⟨v, u, u', n, bs, r, r', rfl, h, h', q⟩ := h
    refine ⟨_, pss_cons (ps_expr (pe_f (c_check_asked z) hr (by decide) rfl (pa_cons (pv 0) (pa_cons (pv 1) pa_nil))))
    (pss_one (ps_expr (pe_f (c_check_row z) hr (by decide) rfl (pa_cons (pv 0) (pa_cons (pv 2) pa_nil))))), ?_⟩
    refine ⟨_, rfl, _, rfl, v, u, n, bs, r, rfl, h.1, h.2.1.2.2.1, h.2.2.1, h.2.2.2, fun H1 e1 => ?_⟩
    exact ⟨_, rfl, _, rfl, v, u', n, bs, r', rfl, h'.1.on e1, h'.2.1.2.2.1, h'.2.2.1.on e1, h'.2.2.2, fun H2 e2 => q H2 (e1.trans e2)⟩
def spSame (K : PySem.W.Frag) : Sp := fun vs H Q _ => ∃ (v u u' : V) (n : Nat) (bs : List Btn) (r r' : Row), vs = [v, u, u'] ∧ Asked K H v u n bs r ∧ Asked K H v u' n bs r' ∧ ∀ H', Same H H' → Q (.bl (decide (turnFor n bs r = turnFor n bs r'))) H'
theorem c_same (z : Z K mg) : Cal P w K mg base 8 "same" (spSame K) := by
  have S : FnScope ["board", "one", "other"] ["board", "one", "other"] (defScope sSame) := ⟨rfl, rfl, rfl, by decide +kernel, rfl, by decide +kernel, by decide +kernel⟩
  refine cal_by z.d_same z.g_same S (fun _ _ _ _ _ _ us hl => match us, hl with | [_, _, _], _ => rfl) (fun vs H Q E h => ?_) (fun cdv A outer s H vs Q E hr h => ?_)
  · obtain ⟨v, u, u', n, bs, r, r', rfl, _⟩ := h
    rfl
  · obtain ⟨v, u, u', n, bs, r, r', rfl, h, h', q⟩ := h
    refine ⟨_, pss_cons (ps_expr (pe_f (c_check_rows z) hr (by decide) rfl (pa_cons (pv 0) (pa_cons (pv 1) (pa_cons (pv 2) pa_nil)))))
    (pss_one (ps_ret (pe_cmpR (op_eqD hr.units) (pe_f (c_turn_for z) hr (by decide) rfl (pa_cons (pv 0) (pa_cons (pv 1) pa_nil))) (pe_f (c_turn_for z) hr (by decide) rfl (pa_cons (pv 0) (pa_cons (pv 2) pa_nil))) (nomark _)))), ?_⟩
    refine ⟨_, rfl, _, rfl, _, rfl, v, u, u', n, bs, r, r', rfl, h, h', fun H1 e1 => ?_⟩
    refine ⟨_, rfl, _, rfl, v, u, n, bs, r, rfl, h.1.on e1, h.2.1, h.2.2.1.on e1, h.2.2.2.known, fun x H2 e2 hx => ?_⟩
    have e12 := e1.trans e2
    refine ⟨_, rfl, _, rfl, v, u', n, bs, r', rfl, h'.1.on e12, h'.2.1, h'.2.2.1.on e12, h'.2.2.2.known, fun y H3 e3 hy => ?_⟩
    refine ⟨_, _, Im.dp _ _ (hx.on e3), Im.dp _ _ hy, shaped_T _, shaped_T _, ?_⟩
    rw [eq_T]
    exact q _ (e12.trans e3)
def spOn (K : PySem.W.Frag) : Sp := fun vs H Q _ => ∃ (v u : V) (n : Nat) (bs : List Btn) (r : Row) (l : List Nat), vs = [v, u, .str (SX.S l)] ∧ Asked K H v u n bs r ∧ StOk n l ∧ Prm n (turnFor n bs r) ∧ ∀ H', Same H H' → Q (.str (SX.S (led l (turnFor n bs r)))) H'
theorem c_on (z : Z K mg) : Cal P w K mg base 7 "on" (spOn K) := by
  have S : FnScope ["board", "row", "standing"] ["board", "row", "standing"] (defScope sOn) := ⟨rfl, rfl, rfl, by decide +kernel, rfl, by decide +kernel, by decide +kernel⟩
  refine cal_by z.d_on z.g_on S (fun _ _ _ _ _ _ us hl => match us, hl with | [_, _, _], _ => rfl) (fun vs H Q E h => ?_) (fun cdv A outer s H vs Q E hr h => ?_)
  · obtain ⟨v, u, n, bs, r, l, rfl, _⟩ := h
    rfl
  · obtain ⟨v, u, n, bs, r, l, rfl, h, hl, hp, q⟩ := h
    refine ⟨_, pss_cons (ps_expr (pe_f (c_check_asked z) hr (by decide) rfl (pa_cons (pv 0) (pa_cons (pv 1) pa_nil))))
    (pss_cons (ps_expr (pe_f (c_check_standing z) hr (by decide) rfl (pa_cons (pv 0) (pa_cons (pv 2) pa_nil))))
    (pss_one (ps_ret (pe_f (c_led_standing z) hr (by decide) rfl (pa_cons (pv 2) (pa_cons (pe_f (c_turn_for z) hr (by decide) rfl (pa_cons (pv 0) (pa_cons (pv 1) pa_nil))) pa_nil)))))), ?_⟩
    have hn : n ≤ 24 := h.2.1.2.1
    refine ⟨_, rfl, _, rfl, v, u, n, bs, r, rfl, h.1, h.2.1.2.2.1, h.2.2.1, h.2.2.2, fun H1 e1 => ?_⟩
    refine ⟨_, rfl, _, rfl, v, n, bs, l, rfl, h.1.on e1, hn, hl, fun H2 e2 => ?_⟩
    have e12 := e1.trans e2
    refine ⟨_, rfl, _, rfl, _, rfl, v, u, n, bs, r, rfl, h.1.on e12, h.2.1, h.2.2.1.on e12, h.2.2.2.known, fun x H3 e3 hx => ?_⟩
    exact ⟨x, _, l, rfl, hx, by rw [hl.1]; exact hp, by rw [hl.1]; omega, fun H4 e4 => q H4 ((e12.trans e3).trans e4)⟩
theorem c_shortened (z : Z K mg) : Cal P w K mg base 7 "shortened" (spShorter K) := by
  have S : FnScope ["board", "row"] ["board", "row"] (defScope sShortened) := ⟨rfl, rfl, rfl, by decide +kernel, rfl, by decide +kernel, by decide +kernel⟩
  refine cal_by z.d_shortened z.g_shortened S (fun _ _ _ _ _ _ us hl => match us, hl with | [_, _], _ => rfl) (fun vs H Q E h => ?_) (fun cdv A outer s H vs Q E hr h => ?_)
  · obtain ⟨v, u, n, bs, r, rfl, _⟩ := h
    rfl
  · obtain ⟨v, u, n, bs, r, rfl, h1, h2, h3, h4, q⟩ := h
    refine ⟨_, pss_cons (ps_expr (pe_f (c_check_asked z) hr (by decide) rfl (pa_cons (pv 0) (pa_cons (pv 1) pa_nil))))
    (pss_one (ps_ret (pe_f (c_shorter_for z) hr (by decide) rfl (pa_cons (pv 0) (pa_cons (pv 1) pa_nil))))), ?_⟩
    refine ⟨_, rfl, _, rfl, v, u, n, bs, r, rfl, h1, h2.2.2.1, h3, h4, fun H1 e1 => ?_⟩
    exact ⟨_, rfl, _, rfl, v, u, n, bs, r, rfl, h1.on e1, h2, h3.on e1, h4, fun x H2 k e2 hx => q x H2 k (e1.trans e2) hx⟩
def spTurned : Sp := fun vs H Q _ => ∃ (v : V) (t : Trn) (l : List Nat), vs = [.str (SX.S l), v] ∧ Im H v (eT t) ∧ 1 ≤ l.length ∧ l.length ≤ 24 ∧ StOk l.length l ∧ Prm l.length t ∧ ∀ H', Same H H' → Q (.str (SX.S (led l t))) H'
theorem c_turned (z : Z K mg) : Cal P w K mg base 4 "turned" spTurned := by
  have S : FnScope ["standing", "turn"] ["standing", "turn"] (defScope sTurned) := ⟨rfl, rfl, rfl, by decide +kernel, rfl, by decide +kernel, by decide +kernel⟩
  refine cal_by z.d_turned z.g_turned S (fun _ _ _ _ _ _ us hl => match us, hl with | [_, _], _ => rfl) (fun vs H Q E h => ?_) (fun cdv A outer s H vs Q E hr h => ?_)
  · obtain ⟨v, t, l, rfl, _⟩ := h
    rfl
  · obtain ⟨v, t, l, rfl, hv, l1, l2, hl, hp, q⟩ := h
    refine ⟨_, pss_cons (ps_if (PW.pt (pw_or (pt_not (pt_val (pe_callB call_isi (by rfl) z.b_isinstance boot_isinstance (pa_cons (pv 0) (pa_cons (pe_bltn (v := .ty "str") (by rfl) z.b_str boot_str rfl) pa_nil))))) (pw_or1 (pt_not (pt_chain op_le op_le pe_int (pe_callB call_len_str (by rfl) z.b_len boot_len (pa_cons (pv 0) pa_nil)) (C8.pe_gc (by rfl) z.c_MOST_PLACES))))))
      pss_never
      pss_nil)
    (pss_cons (ps_if (pt_not (pt_val (pe_f (c_is_standing z) hr (by decide) rfl (pa_cons (pv 0) (pa_cons (pe_callB call_len_str (by rfl) z.b_len boot_len (pa_cons (pv 0) pa_nil)) pa_nil)))))
      pss_never
      pss_nil)
    (pss_cons (ps_expr (pe_f (c_check_turn z) hr (by decide) rfl (pa_cons (pv 1) pa_nil)))
    (pss_cons (ps_if (pt_cmpR op_ne (pe_callB call_len_seq (by rfl) z.b_len boot_len (pa_cons (pv 1) pa_nil)) (pe_callB call_len_str (by rfl) z.b_len boot_len (pa_cons (pv 0) pa_nil)) (nomark _))
      pss_never
      pss_nil)
    (pss_one (ps_ret (pe_f (c_led_standing z) hr (by decide) rfl (pa_cons (pv 0) (pa_cons (pv 1) pa_nil)))))))), ?_⟩
    have hlen : (SX.S l).length = l.length := by show (SX.S l).cps.size = _; simp
    have hsz : (SX.S l).length ≤ sizeLine := by rw [hlen]; show _ ≤ 2 ^ 24; omega
    have htl : t.length = l.length := hp.tn.1
    refine ⟨_, rfl, _, _, _, _, true, rfl, .ty _, .base (.str _), kit_ty (by decide +kernel), _, rfl, iteF ?_⟩
    refine ⟨_, rfl, _, rfl, hsz, _, _, rfl, rfl, _, rfl, ?_⟩
    rw [hlen, decide_eq_true (by omega : (1 : Int) ≤ (l.length : Int))]
    refine iteT ⟨_, _, rfl, rfl, true, congrArg V.bl (decide_eq_true (by omega)), iteF ?_⟩
    refine ⟨_, rfl, _, rfl, _, rfl, hsz, ?_⟩
    rw [hlen]
    refine ⟨l.length, l, rfl, l2, hl, fun H1 e1 => ⟨true, rfl, iteF ?_⟩⟩
    refine ⟨_, rfl, v, t, rfl, hv.on e1, by rw [htl]; exact l1, by rw [htl]; exact l2, by rw [htl]; exact hp, fun H2 e2 => ?_⟩
    have e12 := e1.trans e2
    obtain ⟨a, rfl, ha⟩ := (hv.on e12).tE
    refine ⟨_, rfl, a, _, rfl, .inr (SqT.of ha), _, rfl, _, rfl, hsz, rfl, _, rfl, ?_⟩
    rw [hlen, vN_len, htl, decide_eq_true rfl]
    exact iteF ⟨_, rfl, _, rfl, _, t, l, rfl, hv.on e12, hp, by omega, fun H3 e3 => q _ (e12.trans e3)⟩
end
end Sb
namespace Sb
theorem gt_ext {t u : List Nat} (hl : t.length = u.length) (h : ∀ p, p < t.length → gt t p = gt u p) : t = u := by
  refine List.ext_getElem? fun i => ?_
  by_cases hi : i < t.length
  · rw [gt_some hi, gt_some (hl ▸ hi), h i hi]
  · rw [List.getElem?_eq_none (by omega), List.getElem?_eq_none (by omega)]
theorem gt_range {n p : Nat} (h : p < n) : gt (List.range n) p = p := gt_eq (by rw [List.getElem?_range h])
theorem gt_map {f : Nat → Nat} {t : List Nat} {p : Nat} (h : p < t.length) : gt (t.map f) p = f (gt t p) := gt_eq (by rw [List.getElem?_map, gt_some h]; rfl)
theorem gt_aft {t u : Trn} {p : Nat} (h : p < t.length) : gt (aft t u) p = gt u (gt t p) := gt_map h
theorem gt_set {t : List Nat} {a v x : Nat} (h : a < t.length) : gt (t.set a v) x = if x = a then v else gt t x := by
  unfold gt
  rw [List.getD_eq_getElem?_getD, List.getElem?_set]
  by_cases e : a = x
  · subst e
    rw [if_pos rfl, if_pos h, if_pos rfl]
    rfl
  · rw [if_neg e, if_neg fun z => e z.symm, List.getD_eq_getElem?_getD]
theorem nd_inj {t : List Nat} (h : t.Nodup) {p q : Nat} (hp : p < t.length) (hq : q < t.length) (e : gt t p = gt t q) : p = q := by
  refine (List.getElem?_inj hp h).mp ?_
  rw [gt_some hp, gt_some hq, e]
theorem inj_nd {t : List Nat} (h : ∀ p q, p < t.length → q < t.length → gt t p = gt t q → p = q) : t.Nodup := by
  refine List.pairwise_iff_getElem.mpr fun i j hi hj hij e => ?_
  have := h i j hi hj (by rw [gt_eq (List.getElem?_eq_getElem hi), gt_eq (List.getElem?_eq_getElem hj), e])
  omega
/-- n places, no two led to one -/
theorem prm_of {n : Nat} {t : Trn} (h : Tn n t) (hn : t.Nodup) : Prm n t := by
  refine (List.perm_ext_iff_of_nodup hn List.nodup_range).mpr fun a => ?_
  · rw [List.mem_range]
    refine ⟨h.2 a, fun ha => ?_⟩
    refine Classical.byContradiction fun hc => ?_
    have h1 : (a :: t).Nodup := List.nodup_cons.mpr ⟨hc, hn⟩
    have h2 := List.Nodup.length_le_of_subset (l₂ := List.range n) h1 fun x m => by
      rw [List.mem_range]
      rcases List.mem_cons.mp m with m | m
      · rw [m]; exact ha
      · exact h.2 x m
    rw [List.length_cons, List.length_range, h.1] at h2
    omega
theorem Prm.surj {n : Nat} {t : Trn} (h : Prm n t) {q : Nat} (hq : q < n) : ∃ p, p < n ∧ gt t p = q := by
  have : q ∈ t := h.mem_iff.mpr (List.mem_range.mpr hq)
  obtain ⟨p, hp⟩ := List.getElem?_of_mem this
  refine ⟨p, ?_, gt_eq hp⟩
  have := (List.getElem?_eq_some_iff.mp hp).1
  rw [h.tn.1] at this
  exact this
theorem Prm.inj {n : Nat} {t : Trn} (h : Prm n t) {p q : Nat} (hp : p < n) (hq : q < n) (e : gt t p = gt t q) : p = q := nd_inj h.nd (by rw [h.tn.1]; exact hp) (by rw [h.tn.1]; exact hq) e
theorem prm_range (n : Nat) : Prm n (List.range n) := List.Perm.refl _
theorem Prm.aft {n : Nat} {t u : Trn} (h : Prm n t) (k : Prm n u) : Prm n (aft t u) := by
  refine prm_of (h.tn.aft k.tn) (inj_nd fun p q hp hq e => ?_)
  rw [aft_len, h.tn.1] at hp hq
  rw [gt_aft (by rw [h.tn.1]; exact hp), gt_aft (by rw [h.tn.1]; exact hq)] at e
  exact h.inj hp hq (k.inj (h.tn.gt hp) (h.tn.gt hq) e)
theorem bckTo_gt {n : Nat} {t : Trn} (h : Prm n t) : ∀ i, i ≤ n → ∀ p, p < i → gt (bckTo t i) (gt t p) = p
  | 0, _, p, hp => absurd hp (Nat.not_lt_zero _)
  | i + 1, hi, p, hp => by
    have hl : gt t i < (bckTo t i).length := by rw [bckTo_len, h.tn.1]; exact h.tn.gt (by omega)
    rw [bckTo, gt_set hl]
    by_cases e : p = i
    · rw [if_pos (by rw [e]), e]
    · rw [if_neg fun z => e (h.inj (by omega) (by omega) z)]
      exact bckTo_gt h i (by omega) p (by omega)
theorem bck_gt {n : Nat} {t : Trn} (h : Prm n t) {p : Nat} (hp : p < n) : gt (bck t) (gt t p) = p := by
  unfold bck
  rw [h.tn.1]
  exact bckTo_gt h n (Nat.le_refl _) p hp
theorem gt_bck {n : Nat} {t : Trn} (h : Prm n t) {q : Nat} (hq : q < n) : gt t (gt (bck t) q) = q := by
  obtain ⟨p, hp, rfl⟩ := h.surj hq
  rw [bck_gt h hp]
theorem Prm.bck {n : Nat} {t : Trn} (h : Prm n t) : Prm n (bck t) := by
  refine prm_of h.tn.bck (inj_nd fun p q hp hq e => ?_)
  rw [bck_len, h.tn.1] at hp hq
  rw [← gt_bck h hp, ← gt_bck h hq, e]
theorem aft_assoc {n : Nat} {t u v : Trn} (ht : Tn n t) (hu : Tn n u) : aft (aft t u) v = aft t (aft u v) := by
  refine gt_ext (by rw [aft_len, aft_len, aft_len]) fun p hp => ?_
  rw [aft_len, aft_len, ht.1] at hp
  have hp' : p < t.length := by rw [ht.1]; exact hp
  rw [gt_aft (by rw [aft_len]; exact hp'), gt_aft hp', gt_aft hp', gt_aft (by rw [hu.1]; exact ht.gt hp)]
theorem aft_id {n : Nat} {t : Trn} (ht : Tn n t) : aft t (List.range n) = t := by
  refine gt_ext (aft_len ..) fun p hp => ?_
  rw [aft_len] at hp
  rw [gt_aft hp, gt_range (ht.gt (by rw [← ht.1]; exact hp))]
theorem id_aft {n : Nat} {t : Trn} (ht : Tn n t) : aft (List.range n) t = t := by
  refine gt_ext (by rw [aft_len, List.length_range, ht.1]) fun p hp => ?_
  rw [aft_len] at hp
  rw [gt_aft hp, gt_range (by rw [List.length_range] at hp; exact hp)]
theorem aft_bck {n : Nat} {t : Trn} (h : Prm n t) : aft t (bck t) = List.range n := by
  refine gt_ext (by rw [aft_len, List.length_range, h.tn.1]) fun p hp => ?_
  rw [aft_len] at hp
  have hp' : p < n := by rw [← h.tn.1]; exact hp
  rw [gt_aft hp, bck_gt h hp', gt_range hp']
theorem bck_aft {n : Nat} {t : Trn} (h : Prm n t) : aft (bck t) t = List.range n := by
  refine gt_ext (by rw [aft_len, List.length_range, bck_len, h.tn.1]) fun p hp => ?_
  rw [aft_len] at hp
  have hp' : p < n := by rw [← h.tn.1, ← bck_len]; exact hp
  rw [gt_aft hp, gt_bck h hp', gt_range hp']
theorem led_gt {n : Nat} {t : Trn} {z : List Nat} (h : Prm n t) (hz : z.length = n) {p : Nat} (hp : p < n) : gt (led z t) (gt t p) = gt z p := by
  have hg := h.tn.gt hp
  have hpt : p < t.length := by rw [h.tn.1]; exact hp
  unfold led
  rw [gt_map (by rw [List.length_range, hz]; exact hg), gt_range (by rw [hz]; exact hg)]
  have : t.idxOf (gt t p) = p := by
    have e : gt t p = t[p] := gt_eq (List.getElem?_eq_getElem hpt)
    rw [e]
    exact h.nd.idxOf_getElem p hpt
  rw [this]
  rfl
theorem led_eq {n : Nat} {t : Trn} {z y : List Nat} (h : Prm n t) (hz : z.length = n) (hy : y.length = n) (e : ∀ p, p < n → gt y (gt t p) = gt z p) : y = led z t := by
  refine gt_ext (by rw [led_len, hz, hy]) fun q hq => ?_
  obtain ⟨p, hp, rfl⟩ := h.surj (hy ▸ hq : q < n)
  rw [e p hp, led_gt h hz hp]
theorem led_id {n : Nat} {z : List Nat} (hz : z.length = n) : led z (List.range n) = z :=
  (led_eq (prm_range n) hz hz fun p hp => by rw [gt_range hp]).symm
theorem led_aft {n : Nat} {t u : Trn} {z : List Nat} (ht : Prm n t) (hu : Prm n u) (hz : z.length = n) : led (led z t) u = led z (aft t u) := by
  refine led_eq (ht.aft hu) hz (by rw [led_len, led_len, hz]) fun p hp => ?_
  rw [gt_aft (by rw [ht.tn.1]; exact hp), led_gt hu (by rw [led_len, hz]) (ht.tn.gt hp), led_gt ht hz hp]
theorem led_bck {n : Nat} {t : Trn} {z : List Nat} (ht : Prm n t) (hz : z.length = n) : led (led z t) (bck t) = z := by
  rw [led_aft ht ht.bck hz, aft_bck ht, led_id hz]
theorem led_bck' {n : Nat} {t : Trn} {z : List Nat} (ht : Prm n t) (hz : z.length = n) : led (led z (bck t)) t = z := by
  rw [led_aft ht.bck ht hz, bck_aft ht, led_id hz]
theorem led_mem {n : Nat} {t : Trn} {z : List Nat} (ht : Prm n t) (hz : z.length = n) {c : Nat} (hc : c ∈ led z t) : c ∈ z := by
  obtain ⟨i, hi⟩ := List.getElem?_of_mem hc
  have hi2 := (List.getElem?_eq_some_iff.mp hi).1
  rw [led_len, hz] at hi2
  obtain ⟨p, hp, rfl⟩ := ht.surj hi2
  rw [← gt_eq hi, led_gt ht hz hp]
  exact gt_mem (by rw [hz]; exact hp)
theorem StOk.led {n : Nat} {t : Trn} {z : List Nat} (h : StOk n z) (ht : Prm n t) : StOk n (led z t) := ⟨(led_len ..).trans h.1, fun c m => h.2 c (led_mem ht h.1 m)⟩
end Sb
namespace Sb
/-- all lists of so many of these -/
def wds (al : List Nat) : Nat → List (List Nat)
  | 0 => [[]]
  | k + 1 => al.flatMap fun c => (wds al k).map (c :: ·)
theorem mem_wds {al : List Nat} : ∀ {k : Nat} {t : List Nat}, t.length = k → (∀ x ∈ t, x ∈ al) → t ∈ wds al k
  | 0, t, h, _ => by rw [List.length_eq_zero_iff.mp h]; exact List.mem_singleton.mpr rfl
  | k + 1, [], h, _ => by cases h
  | k + 1, c :: t, h, hx => by
    refine List.mem_flatMap.mpr ⟨c, hx c (List.mem_cons_self ..), List.mem_map.mpr ⟨t, ?_, rfl⟩⟩
    exact mem_wds (by simpa using h) fun x m => hx x (List.mem_cons_of_mem _ m)
theorem wds_len (al : List Nat) : ∀ k, (wds al k).length = al.length ^ k
  | 0 => rfl
  | k + 1 => by
    rw [wds, List.length_flatMap]
    simp only [List.length_map, wds_len al k]
    rw [List.map_const', List.sum_replicate_nat, Nat.pow_succ, Nat.mul_comm]
def ringsB (n : Nat) (t : Trn) : Bool :=
  decide ((rings t).flatten.Nodup) && (List.range n).all (fun p => decide (p ∈ (rings t).flatten)) && (rings t).all fun r => (List.range r.length).all fun j => decide (gt t (gt r j) = gt r ((j + 1) % r.length))
def allB (n : Nat) : Bool := (wds (List.range n) n).all fun t => !decide t.Nodup || ringsB n t
theorem allB1 : allB 1 = true := by decide +kernel
theorem allB2 : allB 2 = true := by decide +kernel
theorem allB3 : allB 3 = true := by decide +kernel
theorem allB4 : allB 4 = true := by decide +kernel
theorem allB5 : allB 5 = true := by decide +kernel
structure RingsOk (n : Nat) (t : Trn) : Prop where
  nd : (rings t).flatten.Nodup
  mem : ∀ p, p < n → ∃ r ∈ rings t, p ∈ r
  cyc : ∀ r ∈ rings t, ∀ j, j < r.length → gt t (gt r j) = gt r ((j + 1) % r.length)
theorem rings_right {n : Nat} {t : Trn} (h1 : 1 ≤ n) (h5 : n ≤ 5) (ht : Prm n t) : RingsOk n t := by
  have hB : allB n = true := by
    rcases (by omega : n = 1 ∨ n = 2 ∨ n = 3 ∨ n = 4 ∨ n = 5) with e | e | e | e | e <;> subst e
    · exact allB1
    · exact allB2
    · exact allB3
    · exact allB4
    · exact allB5
  have hm := mem_wds ht.tn.1 fun x m => List.mem_range.mpr (ht.tn.2 x m)
  have := List.all_eq_true.mp hB t hm
  rw [decide_eq_true ht.nd, Bool.not_true, Bool.false_or] at this
  unfold ringsB at this
  simp only [Bool.and_eq_true, decide_eq_true_eq, List.all_eq_true, List.mem_range] at this
  obtain ⟨⟨a, b⟩, c⟩ := this
  exact ⟨a, fun p hp => List.mem_flatten.mp (b p hp), c⟩
/-- where a ring's place goes, raised -/
def goal (r : Trn) (k : Int) (x : Nat) : Nat := gt r (((r.idxOf x : Int) + k) % (r.length : Int)).toNat
theorem take_some' {α : Type} {l : List α} {i : Nat} {d : α} (h : l[i]? = some d) : l.take (i + 1) = l.take i ++ [d] := by
  obtain ⟨hl, rfl⟩ := List.getElem?_eq_some_iff.mp h
  rw [List.take_succ_eq_append_getElem hl]
theorem inTo_gt {r : Trn} (hr : r.Nodup) {k : Int} {f : Trn} (hf : ∀ x ∈ r, x < f.length) (x : Nat) : ∀ j, j ≤ r.length → gt (inTo r k j f) x = if x ∈ r.take j then goal r k x else gt f x
  | 0, _ => by simp [inTo]
  | j + 1, hj => by
    have hjl : j < r.length := by omega
    have hm := gt_mem hjl
    rw [inTo, gt_set (by rw [inTo_len]; exact hf _ hm), inTo_gt hr hf x j (by omega), take_some' (gt_some hjl)]
    by_cases e : x = gt r j
    · rw [if_pos e, if_pos (by rw [e]; exact List.mem_append_right _ (List.mem_singleton.mpr rfl))]
      unfold goal
      have : r.idxOf x = j := by
        have e2 : gt r j = r[j] := gt_eq (List.getElem?_eq_getElem hjl)
        rw [e, e2]
        exact hr.idxOf_getElem j hjl
      rw [this]
    · rw [if_neg e]
      by_cases m : x ∈ r.take j
      · rw [if_pos m, if_pos (List.mem_append_left _ m)]
      · rw [if_neg m, if_neg]
        intro m2
        rcases List.mem_append.mp m2 with m2 | m2
        · exact m m2
        · exact e (List.mem_singleton.mp m2)
section
variable {n : Nat} {t : Trn}
theorem RingsOk.ring_nd (h : RingsOk n t) {r : Trn} (m : r ∈ rings t) : r.Nodup := (List.pairwise_flatten.mp h.nd).1 r m
theorem RingsOk.apart (h : RingsOk n t) {i j : Nat} {r s : Trn} (hi : (rings t)[i]? = some r) (hj : (rings t)[j]? = some s) {x : Nat} (hr : x ∈ r) (hs : x ∈ s) : i = j := by
  have hp := (List.pairwise_flatten.mp h.nd).2
  rw [List.pairwise_iff_getElem] at hp
  obtain ⟨hi1, hi2⟩ := List.getElem?_eq_some_iff.mp hi
  obtain ⟨hj1, hj2⟩ := List.getElem?_eq_some_iff.mp hj
  rcases Nat.lt_trichotomy i j with h | h | h
  · exact absurd rfl (hp i j hi1 hj1 h x (by rw [hi2]; exact hr) x (by rw [hj2]; exact hs))
  · exact h
  · exact absurd rfl (hp j i hj1 hi1 h x (by rw [hj2]; exact hs) x (by rw [hi2]; exact hr))
theorem outTo_gt (h : RingsOk n t) (ht : Tn n t) {k : Int} : ∀ i, i ≤ (rings t).length → ∀ i' r x, i' < i → (rings t)[i']? = some r → x ∈ r → gt (outTo (rings t) k t i) x = goal r k x
  | 0, _, i', _, _, hi', _, _ => absurd hi' (Nat.not_lt_zero _)
  | i + 1, hi, i', r, x, hi', hr, hx => by
    have hs : (rings t)[i]? = some ((rings t).getD i []) := by
      rw [List.getD_eq_getElem?_getD, List.getElem?_eq_getElem (by omega)]
      rfl
    have hsm := List.mem_of_getElem? hs
    rw [outTo, inTo_gt (h.ring_nd hsm) (fun y hy => by rw [outTo_len, ht.1]; exact rings_ok ht _ hsm y hy) x _ (Nat.le_refl _), List.take_length]
    by_cases m : x ∈ (rings t).getD i []
    · have e := h.apart hr hs hx m
      rw [if_pos m]
      subst e
      rw [hr] at hs
      rw [Option.some.inj hs]
    · rw [if_neg m]
      refine outTo_gt h ht i (by omega) i' r x ?_ hr hx
      have : i' ≠ i := fun e => by
        subst e
        rw [hr] at hs
        exact m (by rw [← Option.some.inj hs]; exact hx)
      omega
theorem rai_goal (h : RingsOk n t) (ht : Tn n t) {k : Int} {r : Trn} (hr : r ∈ rings t) {x : Nat} (hx : x ∈ r) : gt (rai t k) x = goal r k x := by
  obtain ⟨i, hi⟩ := List.getElem?_of_mem hr
  exact outTo_gt h ht _ (Nat.le_refl _) i r x (List.getElem?_eq_some_iff.mp hi).1 hi hx
theorem RingsOk.at_ (h : RingsOk n t) {p : Nat} (hp : p < n) : ∃ r ∈ rings t, ∃ j, j < r.length ∧ gt r j = p := by
  obtain ⟨r, hr, m⟩ := h.mem p hp
  obtain ⟨j, hj⟩ := List.getElem?_of_mem m
  exact ⟨r, hr, j, (List.getElem?_eq_some_iff.mp hj).1, gt_eq hj⟩
theorem rai_gt (h : RingsOk n t) (ht : Tn n t) {k : Int} {r : Trn} (hr : r ∈ rings t) {j : Nat} (hj : j < r.length) : gt (rai t k) (gt r j) = gt r (((j : Int) + k) % (r.length : Int)).toNat := by
  rw [rai_goal h ht hr (gt_mem hj), goal]
  have e2 : gt r j = r[j] := gt_eq (List.getElem?_eq_getElem hj)
  rw [e2, (h.ring_nd hr).idxOf_getElem j hj]
theorem rai_ext (h : RingsOk n t) (ht : Tn n t) {k : Int} {u : Trn} (hu : u.length = n) (e : ∀ r ∈ rings t, ∀ j, j < r.length → gt u (gt r j) = gt r (((j : Int) + k) % (r.length : Int)).toNat) : rai t k = u := by
  refine gt_ext (by rw [rai_len, ht.1, hu]) fun p hp => ?_
  rw [rai_len, ht.1] at hp
  obtain ⟨r, hr, j, hj, rfl⟩ := h.at_ hp
  rw [rai_gt h ht hr hj, e r hr j hj]
theorem rai_zero (h : RingsOk n t) (ht : Tn n t) : rai t 0 = List.range n := by
  refine rai_ext h ht List.length_range fun r hr j hj => ?_
  rw [gt_range (rings_ok ht r hr _ (gt_mem hj)), Int.add_zero, Int.emod_eq_of_lt (by omega) (by omega)]
  rfl
theorem rai_one (h : RingsOk n t) (ht : Tn n t) : rai t 1 = t := by
  refine rai_ext h ht ht.1 fun r hr j hj => ?_
  rw [h.cyc r hr j hj]
  rfl
theorem rai_add (h : RingsOk n t) (ht : Tn n t) (a b : Int) : aft (rai t a) (rai t b) = rai t (a + b) := by
  refine (rai_ext h ht (by rw [aft_len, rai_len, ht.1]) fun r hr j hj => ?_).symm
  have hlt : gt r j < (rai t a).length := by rw [rai_len, ht.1]; exact rings_ok ht r hr _ (gt_mem hj)
  have hpos : 0 < r.length := by omega
  have h1 := emod_lt (a := (j : Int) + a) hpos
  have h2 := Int.emod_nonneg ((j : Int) + a) (by omega : (r.length : Int) ≠ 0)
  rw [gt_aft hlt, rai_gt h ht hr hj, rai_gt h ht hr h1, Int.toNat_of_nonneg h2, Int.emod_add_emod, Int.add_assoc]
theorem rai_congr (h : RingsOk n t) (ht : Tn n t) {a b : Int} (e : ∀ r ∈ rings t, a % (r.length : Int) = b % (r.length : Int)) : rai t a = rai t b := by
  refine rai_ext h ht (by rw [rai_len, ht.1]) fun r hr j hj => ?_
  rw [rai_gt h ht hr hj, Int.add_emod, ← e r hr, ← Int.add_emod]
theorem rai_prm (h : RingsOk n t) (ht : Tn n t) (k : Int) : Prm n (rai t k) := by
  refine prm_of (ht.rai k) (inj_nd fun p q hp hq e => ?_)
  rw [rai_len, ht.1] at hp hq
  have hid : ∀ p, p < n → gt (rai t (-k)) (gt (rai t k) p) = p := fun p hp => by
    rw [← gt_aft (by rw [rai_len, ht.1]; exact hp), rai_add h ht, Int.add_right_neg, rai_zero h ht, gt_range hp]
  rw [← hid p hp, ← hid q hq, e]
theorem rai_back (h : RingsOk n t) (ht : Tn n t) (k : Int) : aft (rai t k) (rai t (-k)) = List.range n := by
  rw [rai_add h ht, Int.add_right_neg, rai_zero h ht]
theorem rai_neg (h : RingsOk n t) (ht : Prm n t) : rai t (-1) = bck t := by
  refine gt_ext (by rw [rai_len, bck_len]) fun q hq => ?_
  rw [rai_len, ht.tn.1] at hq
  obtain ⟨p, hp, rfl⟩ := ht.surj hq
  rw [bck_gt ht hp]
  have e := rai_back h ht.tn 1
  rw [rai_one h ht.tn] at e
  rw [← gt_aft (by rw [ht.tn.1]; exact hp), e, gt_range hp]
theorem rai_near (h : RingsOk n t) (ht : Tn n t) (hn : n ≤ 1000) (k : Int) : rai t (near k (whole t)) = rai t k := by
  refine rai_congr h ht fun r hr => ?_
  have hd : r.length ∣ whole t := lcms_dvd.mp (Nat.dvd_refl _) _ (List.mem_map.mpr ⟨r, hr, rfl⟩)
  have hd2 : (r.length : Int) ∣ (whole t : Int) := Int.natCast_dvd_natCast.mpr hd
  have e := near_mod k (whole_pos ht hn)
  rw [← Int.emod_emod_of_dvd (near k (whole t)) hd2, e, Int.emod_emod_of_dvd _ hd2]
end
end Sb
namespace Sb
open PySem
/-- buttons whose turns are right, few places -/
structure Bts (n : Nat) (bs : List Btn) : Prop where
  lo : 1 ≤ n
  hi : n ≤ 5
  prm : ∀ b ∈ bs, Prm n b.2
section
variable {n : Nat} {bs : List Btn}
theorem Bts.t (h : Bts n bs) {x : Str} (m : x ∈ bs.map (·.1)) : Prm n (tOf bs x) := h.prm _ (tOf_some m).2
theorem Bts.rai (h : Bts n bs) {x : Str} (m : x ∈ bs.map (·.1)) (k : Int) : Prm n (rai (tOf bs x) k) := rai_prm (rings_right h.lo h.hi (h.t m)) (h.t m).tn k
/-- the turn of a press -/
def pT (bs : List Btn) (p : Press) : Trn := rai (tOf bs p.1) p.2
def tf (n : Nat) (bs : List Btn) (r : Row) : Trn := r.foldl (fun f p => aft f (pT bs p)) (List.range n)
theorem turnTo_tf (r : Row) : ∀ i, i ≤ r.length → turnTo n bs r i = (r.take i).foldl (fun f p => aft f (pT bs p)) (List.range n)
  | 0, _ => rfl
  | i + 1, hi => by
    have e : r[i]? = some (r.getD i ("", 0)) := by
      rw [List.getD_eq_getElem?_getD, List.getElem?_eq_getElem (by omega)]
      rfl
    rw [turnTo, turnTo_tf r i (by omega), take_some' e, List.foldl_append]
    rfl
theorem turnFor_tf (r : Row) : turnFor n bs r = tf n bs r := by
  unfold turnFor
  rw [turnTo_tf r _ (Nat.le_refl _), List.take_length]
  rfl
theorem fold_prm (h : Bts n bs) : ∀ (r : Row), Known bs r → ∀ f, Prm n f → Prm n (r.foldl (fun f p => aft f (pT bs p)) f)
  | [], _, f, hf => hf
  | p :: r, hk, f, hf => fold_prm h r (fun q m => hk q (List.mem_cons_of_mem _ m)) _ (hf.aft (h.rai (hk p (List.mem_cons_self ..)) p.2))
theorem tf_prm (h : Bts n bs) {r : Row} (hk : Known bs r) : Prm n (tf n bs r) := fold_prm h r hk _ (prm_range n)
theorem fold_aft (h : Bts n bs) : ∀ (r : Row), Known bs r → ∀ f, Prm n f → r.foldl (fun f p => aft f (pT bs p)) f = aft f (tf n bs r)
  | [], _, f, hf => (aft_id hf.tn).symm
  | p :: r, hk, f, hf => by
    have hp : Prm n (pT bs p) := h.rai (hk p (List.mem_cons_self ..)) p.2
    have hk' : Known bs r := fun q m => hk q (List.mem_cons_of_mem _ m)
    rw [List.foldl_cons, fold_aft h r hk' _ (hf.aft hp)]
    unfold tf
    rw [List.foldl_cons, fold_aft h r hk' _ ((prm_range n).aft hp), id_aft hp.tn]
    exact aft_assoc hf.tn hp.tn
theorem tf_append (h : Bts n bs) {r s : Row} (hr : Known bs r) (hs : Known bs s) : tf n bs (r ++ s) = aft (tf n bs r) (tf n bs s) := by
  have := fold_aft h s hs _ (tf_prm h hr)
  rw [← this]
  unfold tf
  rw [List.foldl_append]
theorem tf_nil : tf n bs [] = List.range n := rfl
theorem tf_one (h : Bts n bs) {p : Press} (m : p.1 ∈ bs.map (·.1)) : tf n bs [p] = pT bs p := id_aft (h.rai m p.2).tn
theorem tf_cons (h : Bts n bs) {p : Press} {r : Row} (hk : Known bs (p :: r)) : tf n bs (p :: r) = aft (pT bs p) (tf n bs r) := by
  have h1 : p.1 ∈ bs.map (·.1) := hk p (List.mem_cons_self ..)
  have := tf_append h (r := [p]) (s := r) (fun q m => by rw [List.mem_singleton.mp m]; exact h1) (fun q m => hk q (List.mem_cons_of_mem _ m))
  rw [tf_one h h1] at this
  exact this
theorem known_app {r s : Row} (hr : Known bs r) (hs : Known bs s) : Known bs (r ++ s) := fun p m => (List.mem_append.mp m).elim (hr p) (hs p)
theorem known_one {p : Press} (m : p.1 ∈ bs.map (·.1)) : Known bs [p] := fun q h => by rw [List.mem_singleton.mp h]; exact m
theorem pT_add (h : Bts n bs) {x : Str} (m : x ∈ bs.map (·.1)) (a b : Int) : aft (pT bs (x, a)) (pT bs (x, b)) = pT bs (x, a + b) := rai_add (rings_right h.lo h.hi (h.t m)) (h.t m).tn a b
theorem tf_putTo (h : Bts n bs) {f : Row} {p : Press} (hf : Known bs f) (hp : p.1 ∈ bs.map (·.1)) : tf n bs (putTo f p) = aft (tf n bs f) (pT bs p) := by
  have h1 : tf n bs (f ++ [p]) = aft (tf n bs f) (pT bs p) := by rw [tf_append h hf (known_one hp), tf_one h hp]
  rcases putTo_cases f p with e | ⟨g, q, hg, hq, e⟩
  · rw [e, h1]
  · have hgk : Known bs g := fun x m => hf x (by rw [hg]; exact List.mem_append_left _ m)
    have hqm : q.1 ∈ bs.map (·.1) := by rw [hq]; exact hp
    rw [e, hg, tf_append h hgk (known_one (p := (p.1, q.2 + p.2)) hp), tf_append h hgk (known_one hqm), tf_one h (p := (p.1, q.2 + p.2)) hp, tf_one h hqm, ← pT_add h hp]
    have eq : pT bs (p.1, q.2) = pT bs q := by rw [← hq]
    rw [eq]
    exact (aft_assoc (tf_prm h hgk).tn (h.rai hqm q.2).tn).symm
theorem tf_fold (h : Bts n bs) : ∀ (r f : Row), Known bs f → Known bs r → tf n bs (r.foldl putTo f) = aft (tf n bs f) (tf n bs r)
  | [], f, hf, _ => (aft_id (tf_prm h hf).tn).symm
  | p :: r, f, hf, hr => by
    have hp : p.1 ∈ bs.map (·.1) := hr p (List.mem_cons_self ..)
    have hr' : Known bs r := fun q m => hr q (List.mem_cons_of_mem _ m)
    have hk : Known bs (putTo f p) := by
      have := fold_names (N := fun x => x ∈ List.map Prod.fst bs) [p] f hf fun q m => by rw [List.mem_singleton.mp m]; exact hp
      exact this
    rw [List.foldl_cons, tf_fold h r _ hk hr', tf_putTo h hf hp, tf_cons h hr]
    exact aft_assoc (tf_prm h hf).tn (h.rai hp p.2).tn
theorem tf_together (h : Bts n bs) {r : Row} (hr : Known bs r) : tf n bs (together r) = tf n bs r := by
  have := tf_fold h r [] (fun _ m => by cases m) hr
  rw [tf_nil, id_aft (tf_prm h hr).tn] at this
  exact this
theorem tf_near (h : Bts n bs) : ∀ {r : Row}, Known bs r → tf n bs ((r.map fun p => (p.1, near p.2 (whole (tOf bs p.1)))).filter fun p => decide (p.2 ≠ 0)) = tf n bs r
  | [], _ => rfl
  | p :: r, hk => by
    have hp : p.1 ∈ bs.map (·.1) := hk p (List.mem_cons_self ..)
    have hr' : Known bs r := fun q m => hk q (List.mem_cons_of_mem _ m)
    have R := rings_right h.lo h.hi (h.t hp)
    have hi := h.hi
    have e1 : pT bs (p.1, near p.2 (whole (tOf bs p.1))) = pT bs p := rai_near R (h.t hp).tn (by omega) p.2
    have hkn : Known bs ((r.map fun p => (p.1, near p.2 (whole (tOf bs p.1)))).filter fun p => decide (p.2 ≠ 0)) := fun q m => by
      obtain ⟨m, _⟩ := List.mem_filter.mp m
      obtain ⟨s, hs, rfl⟩ := List.mem_map.mp m
      exact hr' s hs
    rw [List.map_cons, List.filter_cons]
    split
    · rw [tf_cons h (p := (p.1, near p.2 (whole (tOf bs p.1)))) (fun q m => by
        rcases List.mem_cons.mp m with m | m
        · rw [m]; exact hp
        · exact hkn q m), tf_near h hr', tf_cons h hk, e1]
    · rename_i hz
      have hz2 : near p.2 (whole (tOf bs p.1)) = 0 := by
        have : ¬ near p.2 (whole (tOf bs p.1)) ≠ 0 := fun z => hz (decide_eq_true z)
        omega
      rw [hz2] at e1
      have e2 : pT bs p = List.range n := by
        rw [← e1]
        exact rai_zero R (h.t hp).tn
      rw [tf_near h hr', tf_cons h hk, e2, id_aft (tf_prm h hr').tn]
theorem tf_step (h : Bts n bs) {r : Row} (hr : Known bs r) : tf n bs (shStep bs r) = tf n bs r := by
  unfold shStep
  rw [tf_near h (together_names (N := fun x => x ∈ List.map Prod.fst bs) hr), tf_together h hr]
theorem shN_known' {r : Row} (h : Known bs r) : ∀ k, Known bs (shN bs k r)
  | 0 => h
  | k + 1 => shStep_known (shN_known' h k)
theorem tf_shN (h : Bts n bs) {r : Row} (hr : Known bs r) : ∀ k, tf n bs (shN bs k r) = tf n bs r
  | 0 => rfl
  | k + 1 => by rw [shN, tf_step h (shN_known' hr k), tf_shN h hr k]
def absI (k : Int) : Int := if k < 0 then -k else k
theorem lenR_cons (p : Press) (r : Row) : lenR (p :: r) = absI p.2 + lenR r := by unfold lenR; rw [List.map_cons, List.sum_cons]; rfl
theorem lenR_app (r s : Row) : lenR (r ++ s) = lenR r + lenR s := by unfold lenR; rw [List.map_append, List.sum_append]
theorem absI_add (a b : Int) : absI (a + b) ≤ absI a + absI b := by unfold absI; split <;> split <;> split <;> omega
theorem absI_nn (a : Int) : 0 ≤ absI a := by unfold absI; split <;> omega
theorem lenR_putTo (f : Row) (p : Press) : lenR (putTo f p) ≤ lenR f + absI p.2 := by
  rcases putTo_cases f p with e | ⟨g, q, hg, _, e⟩
  · rw [e, lenR_app, lenR_cons]
    show _ + (_ + 0) ≤ _
    omega
  · rw [e, hg, lenR_app, lenR_app, lenR_cons, lenR_cons]
    have := absI_add q.2 p.2
    show lenR g + (absI (q.2 + p.2) + 0) ≤ lenR g + (absI q.2 + 0) + absI p.2
    omega
theorem lenR_fold : ∀ r f : Row, lenR (r.foldl putTo f) ≤ lenR f + lenR r
  | [], f => by show lenR f ≤ lenR f + 0; omega
  | p :: r, f => by
    have h1 := lenR_fold r (putTo f p)
    have h2 := lenR_putTo f p
    rw [List.foldl_cons, lenR_cons]
    omega
theorem lenR_near (h : Bts n bs) : ∀ {r : Row}, Known bs r → lenR ((r.map fun p => (p.1, near p.2 (whole (tOf bs p.1)))).filter fun p => decide (p.2 ≠ 0)) ≤ lenR r
  | [], _ => Int.le_refl _
  | p :: r, hk => by
    have hp : p.1 ∈ bs.map (·.1) := hk p (List.mem_cons_self ..)
    have ih := lenR_near h (r := r) fun q m => hk q (List.mem_cons_of_mem _ m)
    have hi := h.hi
    have hl := near_le p.2 (whole_pos (h.t hp).tn (by omega))
    have hab : absI (near p.2 (whole (tOf bs p.1))) ≤ absI p.2 := by unfold absI; split <;> split <;> omega
    have hnn := absI_nn p.2
    rw [List.map_cons, List.filter_cons, lenR_cons]
    split
    · rw [lenR_cons]
      show absI (near p.2 (whole (tOf bs p.1))) + _ ≤ _
      omega
    · omega
theorem lenR_step (h : Bts n bs) {r : Row} (hr : Known bs r) : lenR (shStep bs r) ≤ lenR r := by
  have h1 := lenR_near h (together_names (N := fun x => x ∈ List.map Prod.fst bs) hr)
  have h2 := lenR_fold r []
  have h3 : lenR ([] : Row) = 0 := rfl
  unfold shStep
  unfold together at *
  omega
theorem lenR_shN (h : Bts n bs) {r : Row} (hr : Known bs r) : ∀ k, lenR (shN bs k r) ≤ lenR r
  | 0 => Int.le_refl _
  | k + 1 => Int.le_trans (lenR_step h (shN_known' hr k)) (lenR_shN h hr k)
theorem shN_abs (h : Bts n bs) {r : Row} (hr : Known bs r) (k : Nat) {p : Press} (m : p ∈ shN bs k r) : absI p.2 ≤ lenR r := by
  refine Int.le_trans ?_ (lenR_shN h hr k)
  generalize shN bs k r = s at m
  induction s with
  | nil => cases m
  | cons q s ih =>
    rw [lenR_cons]
    have hs : 0 ≤ lenR s := by
      clear ih m
      induction s with
      | nil => exact Int.le_refl _
      | cons q s ih => rw [lenR_cons]; have := absI_nn q.2; omega
    have := absI_nn q.2
    rcases List.mem_cons.mp m with e | m
    · subst e; omega
    · have := ih m; omega
theorem tf_back (h : Bts n bs) : ∀ {r : Row}, Known bs r → aft (tf n bs r) (tf n bs (backRow r)) = List.range n ∧ Known bs (backRow r)
  | [], _ => ⟨aft_id (tn_range n), fun _ m => by cases m⟩
  | p :: r, hk => by
    have hp : p.1 ∈ bs.map (·.1) := hk p (List.mem_cons_self ..)
    have hr' : Known bs r := fun q m => hk q (List.mem_cons_of_mem _ m)
    obtain ⟨ih, hb⟩ := tf_back h hr'
    have e : backRow (p :: r) = backRow r ++ [(p.1, -p.2)] := by
      unfold backRow
      rw [List.reverse_cons, List.map_append]
      rfl
    have ho : Known bs [(p.1, -p.2)] := known_one (p := (p.1, -p.2)) hp
    refine ⟨?_, by rw [e]; exact known_app hb ho⟩
    have hpn : Prm n (pT bs p) := h.rai hp p.2
    have hpm : Prm n (pT bs (p.1, -p.2)) := h.rai hp (-p.2)
    have e2 : aft (pT bs p) (pT bs (p.1, -p.2)) = List.range n := rai_back (rings_right h.lo h.hi (h.t hp)) (h.t hp).tn p.2
    rw [e, tf_append h hb ho, tf_cons h hk, tf_one h (p := (p.1, -p.2)) hp, aft_assoc hpn.tn (tf_prm h hr').tn, ← aft_assoc (tf_prm h hr').tn (tf_prm h hb).tn, ih, id_aft hpm.tn]
    exact e2
end
end Sb
namespace Sb
open PySem
abbrev Sd := List Nat
abbrev Mv := Press × Trn
abbrev Found := List (Sd × Option (Sd × Press))
def mvs (bs : List Btn) : List Mv := bs.flatMap fun b => [((b.1, 1), b.2), ((b.1, -1), bck b.2)]
/-- so many presses lead from a to b -/
def Wk (mv : List Mv) : Nat → Sd → Sd → Prop
  | 0, a, b => a = b
  | k + 1, a, b => ∃ c, Wk mv k a c ∧ ∃ m ∈ mv, led c m.2 = b
def Rch (mv : List Mv) (a b : Sd) : Prop := ∃ k, Wk mv k a b
theorem least_of {P : Nat → Prop} : ∀ k, P k → ∃ i, P i ∧ ∀ j, j < i → ¬ P j := by
  intro k
  induction k using Nat.strongRecOn with
  | ind k ih =>
    intro h
    by_cases c : ∃ j, j < k ∧ P j
    · obtain ⟨j, hj, hp⟩ := c
      exact ih j hj hp
    · exact ⟨k, h, fun j hj hp => c ⟨j, hj, hp⟩⟩
open Classical in
noncomputable def dist (mv : List Mv) (a b : Sd) : Nat := if h : Rch mv a b then Classical.choose (least_of (P := fun k => Wk mv k a b) h.choose h.choose_spec) else 0
section
variable {mv : List Mv} {a b c z : Sd} {k j : Nat}
theorem dist_spec (h : Rch mv a b) : Wk mv (dist mv a b) a b ∧ ∀ i, i < dist mv a b → ¬ Wk mv i a b := by
  unfold dist
  rw [dif_pos h]
  exact Classical.choose_spec (least_of (P := fun k => Wk mv k a b) h.choose h.choose_spec)
theorem dist_le (h : Wk mv k a b) : dist mv a b ≤ k := by
  refine Nat.le_of_not_lt fun hc => ?_
  exact (dist_spec ⟨k, h⟩).2 k hc h
theorem dist_eq (h : Wk mv k a b) (h2 : ∀ i, i < k → ¬ Wk mv i a b) : dist mv a b = k := by
  refine Nat.le_antisymm (dist_le h) (Nat.le_of_not_lt fun hc => ?_)
  exact h2 _ hc (dist_spec ⟨k, h⟩).1
theorem dist_self : dist mv a a = 0 := Nat.le_zero.mp (dist_le (k := 0) rfl)
theorem Wk.trans {i : Nat} (h : Wk mv i a b) : ∀ {j : Nat} {c : Sd}, Wk mv j b c → Wk mv (i + j) a c
  | 0, c, e => by rw [← e]; exact h
  | j + 1, c, ⟨d, h1, m, hm, e⟩ => ⟨d, Wk.trans h h1, m, hm, e⟩
theorem Wk.cons {m : Mv} (hm : m ∈ mv) (h : Wk mv k (led a m.2) b) : Wk mv (k + 1) a b := by
  have : Wk mv 1 a (led a m.2) := ⟨a, rfl, m, hm, rfl⟩
  rw [Nat.add_comm]
  exact this.trans h
theorem Rch.trans (h : Rch mv a b) (h2 : Rch mv b c) : Rch mv a c := by
  obtain ⟨i, h⟩ := h
  obtain ⟨j, h2⟩ := h2
  exact ⟨_, h.trans h2⟩
theorem dist_tri (h : Rch mv a b) (h2 : Rch mv b c) : dist mv a c ≤ dist mv a b + dist mv b c := dist_le ((dist_spec h).1.trans (dist_spec h2).1)
/-- what is asked of the moves -/
structure MvOk (n : Nat) (mv : List Mv) : Prop where
  prm : ∀ m ∈ mv, Prm n m.2
  back : ∀ m ∈ mv, ∃ m' ∈ mv, aft m.2 m'.2 = List.range n
variable {n : Nat}
theorem Wk.len (h : MvOk n mv) (ha : a.length = n) : ∀ {k : Nat} {b : Sd}, Wk mv k a b → b.length = n
  | 0, _, e => e ▸ ha
  | k + 1, _, ⟨c, h1, m, hm, e⟩ => by rw [← e, led_len]; exact Wk.len h ha h1
theorem Wk.mems (h : MvOk n mv) (ha : a.length = n) : ∀ {k : Nat} {b : Sd}, Wk mv k a b → ∀ x ∈ b, x ∈ a
  | 0, _, e => fun x hx => by rw [show a = _ from e]; exact hx
  | k + 1, _, ⟨c, h1, m, hm, e⟩ => fun x hx => by
    rw [← e] at hx
    exact Wk.mems h ha h1 x (led_mem (h.prm m hm) (Wk.len h ha h1) hx)
theorem Wk.symm (h : MvOk n mv) (ha : a.length = n) : ∀ {k : Nat} {b : Sd}, Wk mv k a b → Wk mv k b a
  | 0, _, e => Eq.symm e
  | k + 1, b, ⟨c, h1, m, hm, e⟩ => by
    obtain ⟨m', hm', e2⟩ := h.back m hm
    have hc := Wk.len h ha h1
    refine Wk.cons hm' ?_
    rw [← e, led_aft (h.prm m hm) (h.prm m' hm') hc, e2, led_id hc]
    exact Wk.symm h ha h1
theorem Rch.symm (h : MvOk n mv) (ha : a.length = n) (r : Rch mv a b) : Rch mv b a := r.elim fun k w => ⟨k, w.symm h ha⟩
theorem Rch.len (h : MvOk n mv) (ha : a.length = n) (r : Rch mv a b) : b.length = n := r.elim fun k w => w.len h ha
theorem dist_symm (h : MvOk n mv) (ha : a.length = n) (r : Rch mv a b) : dist mv b a = dist mv a b :=
  Nat.le_antisymm (dist_le ((dist_spec r).1.symm h ha)) (dist_le ((dist_spec (r.symm h ha)).1.symm h (r.len h ha)))
end
def keysF (f : Found) : List Sd := f.map (·.1)
def tryM (a : Sd) (fl : Found × List Sd) (m : Mv) : Found × List Sd :=
  if led a m.2 ∈ keysF fl.1 then fl else (fl.1 ++ [(led a m.2, some (a, m.1))], fl.2 ++ [led a m.2])
def tryA (mv : List Mv) (fl : Found × List Sd) (a : Sd) : Found × List Sd := mv.foldl (tryM a) fl
structure Grw (mv : List Mv) (edge : List Sd) (f0 : Found) (fl : Found × List Sd) : Prop where
  new : ∃ g : Found, fl.1 = f0 ++ g ∧ fl.2 = keysF g ∧ ∀ e ∈ g, ∃ a ∈ edge, ∃ m ∈ mv, e = (led a m.2, some (a, m.1))
  nd : (keysF fl.1).Nodup
theorem keysF_app (f g : Found) : keysF (f ++ g) = keysF f ++ keysF g := List.map_append ..
section
variable {mv : List Mv} {edge : List Sd} {f0 : Found}
theorem Grw.one {fl : Found × List Sd} (h : Grw mv edge f0 fl) {a : Sd} {m : Mv} (ha : a ∈ edge) (hm : m ∈ mv) : Grw mv edge f0 (tryM a fl m) ∧ (∀ b ∈ keysF fl.1, b ∈ keysF (tryM a fl m).1) ∧ led a m.2 ∈ keysF (tryM a fl m).1 := by
  unfold tryM
  by_cases c : led a m.2 ∈ keysF fl.1
  · rw [if_pos c]
    exact ⟨h, fun b hb => hb, c⟩
  · rw [if_neg c]
    obtain ⟨⟨g, h1, h2, h3⟩, h4⟩ := h
    refine ⟨⟨⟨g ++ [(led a m.2, some (a, m.1))], ?_, ?_, fun e me => ?_⟩, ?_⟩, fun b hb => ?_, ?_⟩
    · simp only [h1, List.append_assoc]
    · simp only [h2, keysF_app]
      rfl
    · rcases List.mem_append.mp me with me | me
      · exact h3 e me
      · exact ⟨a, ha, m, hm, List.mem_singleton.mp me⟩
    · simp only [keysF_app]
      refine List.nodup_append.mpr ⟨h4, List.pairwise_singleton .., fun x hx y hy e => c ?_⟩
      rw [show y = led a m.2 from List.mem_singleton.mp hy] at e
      exact e ▸ hx
    · simp only [keysF_app]
      exact List.mem_append_left _ hb
    · simp only [keysF_app]
      exact List.mem_append_right _ (List.mem_singleton.mpr rfl)
theorem Grw.many {a : Sd} (ha : a ∈ edge) : ∀ (ms : List Mv), (∀ m ∈ ms, m ∈ mv) → ∀ {fl : Found × List Sd}, Grw mv edge f0 fl → Grw mv edge f0 (ms.foldl (tryM a) fl) ∧ (∀ b ∈ keysF fl.1, b ∈ keysF (ms.foldl (tryM a) fl).1) ∧ ∀ m ∈ ms, led a m.2 ∈ keysF (ms.foldl (tryM a) fl).1
  | [], _, fl, h => ⟨h, fun _ hb => hb, fun _ m => by cases m⟩
  | m :: ms, hs, fl, h => by
    obtain ⟨h1, h2, h3⟩ := h.one ha (hs m (List.mem_cons_self ..))
    obtain ⟨g1, g2, g3⟩ := Grw.many ha ms (fun x hx => hs x (List.mem_cons_of_mem _ hx)) h1
    refine ⟨g1, fun b hb => g2 b (h2 b hb), fun x hx => ?_⟩
    rcases List.mem_cons.mp hx with e | hx
    · rw [e]; exact g2 _ h3
    · exact g3 x hx
theorem Grw.all : ∀ (as : List Sd), (∀ a ∈ as, a ∈ edge) → ∀ {fl : Found × List Sd}, Grw mv edge f0 fl → Grw mv edge f0 (as.foldl (tryA mv) fl) ∧ (∀ b ∈ keysF fl.1, b ∈ keysF (as.foldl (tryA mv) fl).1) ∧ ∀ a ∈ as, ∀ m ∈ mv, led a m.2 ∈ keysF (as.foldl (tryA mv) fl).1
  | [], _, fl, h => ⟨h, fun _ hb => hb, fun _ m => by cases m⟩
  | a :: as, hs, fl, h => by
    obtain ⟨h1, h2, h3⟩ := Grw.many (hs a (List.mem_cons_self ..)) mv (fun _ m => m) h
    obtain ⟨g1, g2, g3⟩ := Grw.all as (fun x hx => hs x (List.mem_cons_of_mem _ hx)) h1
    refine ⟨g1, fun b hb => g2 b (h2 b hb), fun x hx => ?_⟩
    rcases List.mem_cons.mp hx with e | hx
    · rw [e]; exact fun m hm => g2 _ (h3 m hm)
    · exact g3 x hx
end
/-- a row of what is found: how it came -/
def EntOk (mv : List Mv) (z : Sd) (f : Found) (i : Nat) (b : Sd) (o : Option (Sd × Press)) : Prop :=
  (i = 0 ∧ b = z ∧ o = none) ∨ (0 < i ∧ ∃ a m, o = some (a, m.1) ∧ m ∈ mv ∧ led a m.2 = b ∧ (∃ i', i' < i ∧ (keysF f)[i']? = some a) ∧ dist mv z b = dist mv z a + 1)
structure Lev (mv : List Mv) (z : Sd) (j : Nat) (f : Found) (edge : List Sd) : Prop where
  nd : (keysF f).Nodup
  mem : ∀ b, b ∈ keysF f ↔ ∃ i, i ≤ j ∧ Wk mv i z b
  edg : ∀ b, b ∈ edge ↔ Wk mv j z b ∧ ∀ i, i < j → ¬ Wk mv i z b
  ent : ∀ (i : Nat) (b : Sd) (o : Option (Sd × Press)), f[i]? = some (b, o) → EntOk mv z f i b o
  ord : ∀ (i i' : Nat) (b b' : Sd), i ≤ i' → (keysF f)[i]? = some b → (keysF f)[i']? = some b' → dist mv z b ≤ dist mv z b'
theorem lev_zero (mv : List Mv) (z : Sd) : Lev mv z 0 [(z, none)] [z] := by
  refine ⟨List.pairwise_singleton .., fun b => ?_, fun b => ?_, fun i b o h => ?_, fun i i' b b' _ h h' => ?_⟩
  · constructor
    · intro m
      exact ⟨0, Nat.le_refl _, (List.mem_singleton.mp m).symm⟩
    · rintro ⟨i, hi, h⟩
      have : i = 0 := by omega
      subst this
      exact List.mem_singleton.mpr (Eq.symm h)
  · constructor
    · intro m
      exact ⟨(List.mem_singleton.mp m).symm, fun i hi => absurd hi (Nat.not_lt_zero _)⟩
    · rintro ⟨h, _⟩
      exact List.mem_singleton.mpr (Eq.symm h)
  · cases i with
    | zero => cases h; exact .inl ⟨rfl, rfl, rfl⟩
    | succ i => cases h
  · cases i with
    | zero => cases h; rw [dist_self]; exact Nat.zero_le _
    | succ i => cases h
theorem Lev.next {mv : List Mv} {z : Sd} {j : Nat} {f : Found} {edge : List Sd} (h : Lev mv z j f edge) : Lev mv z (j + 1) (edge.foldl (tryA mv) (f, [])).1 (edge.foldl (tryA mv) (f, [])).2 ∧
    f.length + (edge.foldl (tryA mv) (f, [])).2.length = (edge.foldl (tryA mv) (f, [])).1.length := by
  have h0 : Grw mv edge f (f, []) := ⟨⟨[], (List.append_nil f).symm, rfl, fun _ m => by cases m⟩, h.nd⟩
  obtain ⟨⟨⟨g, g1, g2, g3⟩, g4⟩, g5, g6⟩ := h0.all edge fun _ m => m
  generalize edge.foldl (tryA mv) (f, []) = fl at *
  have hk : keysF fl.1 = keysF f ++ keysF g := by rw [g1, keysF_app]
  -- what is new is just one press farther
  have hnew : ∀ b, b ∈ keysF g → Wk mv (j + 1) z b ∧ ∀ i, i < j + 1 → ¬ Wk mv i z b := by
    intro b hb
    obtain ⟨e, he, rfl⟩ := List.mem_map.mp hb
    obtain ⟨a, ha, m, hm, rfl⟩ := g3 e he
    refine ⟨⟨a, ((h.edg a).mp ha).1, m, hm, rfl⟩, fun i hi w => ?_⟩
    have hin : led a m.2 ∈ keysF f := (h.mem _).mpr ⟨i, by omega, w⟩
    rw [hk] at g4
    exact (List.nodup_append.mp g4).2.2 _ hin _ hb rfl
  have hmem : ∀ b, b ∈ keysF fl.1 ↔ ∃ i, i ≤ j + 1 ∧ Wk mv i z b := by
    intro b
    constructor
    · intro hb
      rw [hk] at hb
      rcases List.mem_append.mp hb with hb | hb
      · obtain ⟨i, hi, w⟩ := (h.mem b).mp hb
        exact ⟨i, by omega, w⟩
      · exact ⟨j + 1, Nat.le_refl _, (hnew b hb).1⟩
    · rintro ⟨i, hi, w⟩
      cases i with
      | zero => exact g5 b ((h.mem b).mpr ⟨0, Nat.zero_le _, w⟩)
      | succ i =>
        obtain ⟨c, w1, m, hm, rfl⟩ := w
        by_cases hc : ∀ i', i' < j → ¬ Wk mv i' z c
        · have hij : i = j := by
            have : ¬ i < j := fun hi2 => hc i hi2 w1
            omega
          subst hij
          exact g6 c ((h.edg c).mpr ⟨w1, hc⟩) m hm
        · have : ∃ i', i' < j ∧ Wk mv i' z c := Classical.byContradiction fun hn => hc fun i' h1 h2 => hn ⟨i', h1, h2⟩
          obtain ⟨i', hi', w'⟩ := this
          exact g5 _ ((h.mem _).mpr ⟨i' + 1, hi', c, w', m, hm, rfl⟩)
  have hfl : (keysF f).length = f.length := List.length_map ..
  refine ⟨⟨g4, hmem, fun b => ?_, fun i b o hi => ?_, fun i i' b b' hii hi hi' => ?_⟩, ?_⟩
  · rw [g2]
    constructor
    · exact hnew b
    · rintro ⟨w, hmin⟩
      have hb := (hmem b).mpr ⟨j + 1, Nat.le_refl _, w⟩
      rw [hk] at hb
      rcases List.mem_append.mp hb with hb | hb
      · obtain ⟨i, hi, w'⟩ := (h.mem b).mp hb
        exact absurd w' (hmin i (by omega))
      · exact hb
  · rw [g1] at hi
    by_cases c : i < f.length
    · rw [List.getElem?_append_left c] at hi
      rcases h.ent i b o hi with e | ⟨e1, a, m, e2, e3, e4, ⟨i', e5, e6⟩, e7⟩
      · exact .inl e
      · refine .inr ⟨e1, a, m, e2, e3, e4, ⟨i', e5, ?_⟩, e7⟩
        rw [hk, List.getElem?_append_left (by omega)]
        exact e6
    · rw [List.getElem?_append_right (by omega)] at hi
      have hmg := List.mem_of_getElem? hi
      obtain ⟨a, ha, m, hm, e⟩ := g3 _ hmg
      obtain ⟨rfl, rfl⟩ := Prod.mk.inj e
      have hn := hnew (led a m.2) (List.mem_map.mpr ⟨_, hmg, rfl⟩)
      obtain ⟨w1, w2⟩ := (h.edg a).mp ha
      have hak : a ∈ keysF f := (h.mem a).mpr ⟨j, Nat.le_refl _, w1⟩
      obtain ⟨i', hi'⟩ := List.getElem?_of_mem hak
      have hlt := (List.getElem?_eq_some_iff.mp hi').1
      rw [hfl] at hlt
      refine .inr ⟨by omega, a, m, rfl, hm, rfl, ⟨i', by omega, ?_⟩, ?_⟩
      · rw [hk, List.getElem?_append_left (by omega)]
        exact hi'
      · rw [dist_eq hn.1 hn.2, dist_eq w1 w2]
  · rw [hk] at hi hi'
    by_cases c' : i' < (keysF f).length
    · rw [List.getElem?_append_left (by omega)] at hi
      rw [List.getElem?_append_left c'] at hi'
      exact h.ord i i' b b' hii hi hi'
    · rw [List.getElem?_append_right (by omega)] at hi'
      have hn' := hnew b' (List.mem_of_getElem? hi')
      rw [dist_eq hn'.1 hn'.2]
      by_cases c : i < (keysF f).length
      · rw [List.getElem?_append_left c] at hi
        obtain ⟨i0, h1, w⟩ := (h.mem b).mp (List.mem_of_getElem? hi)
        exact Nat.le_trans (dist_le w) (by omega)
      · rw [List.getElem?_append_right (by omega)] at hi
        have hn := hnew b (List.mem_of_getElem? hi)
        rw [dist_eq hn.1 hn.2]
        exact Nat.le_refl _
  · rw [g1, g2, List.length_append]
    simp [keysF]
/-- what the search ends with -/
structure Paths (mv : List Mv) (z : Sd) (f : Found) : Prop where
  nd : (keysF f).Nodup
  mem : ∀ b, b ∈ keysF f ↔ Rch mv z b
  ent : ∀ (i : Nat) (b : Sd) (o : Option (Sd × Press)), f[i]? = some (b, o) → EntOk mv z f i b o
  ord : ∀ (i i' : Nat) (b b' : Sd), i ≤ i' → (keysF f)[i]? = some b → (keysF f)[i']? = some b' → dist mv z b ≤ dist mv z b'
theorem Lev.end_ {mv : List Mv} {z : Sd} {j : Nat} {f : Found} (h : Lev mv z j f []) : Paths mv z f := by
  refine ⟨h.nd, fun b => ⟨fun hb => ?_, ?_⟩, h.ent, h.ord⟩
  · obtain ⟨i, _, w⟩ := (h.mem b).mp hb
    exact ⟨i, w⟩
  · rintro ⟨k, w⟩
    have : ∀ k b, Wk mv k z b → b ∈ keysF f := fun k => by
      induction k with
      | zero => exact fun b w => (h.mem b).mpr ⟨0, Nat.zero_le _, w⟩
      | succ k ih =>
        rintro b ⟨c, w1, m, hm, rfl⟩
        obtain ⟨i, hi, wi⟩ := (h.mem c).mp (ih c w1)
        refine (h.mem _).mpr ⟨dist mv z c + 1, ?_, c, (dist_spec ⟨i, wi⟩).1, m, hm, rfl⟩
        have hd := dist_le wi
        refine Nat.lt_of_le_of_ne (Nat.le_trans hd hi) fun e => ?_
        have hs := dist_spec ⟨i, wi⟩
        rw [e] at hs
        exact absurd ((h.edg c).mpr hs) (by simp)
    exact this k b w
/-- how many there may be -/
theorem keys_bound {n : Nat} {mv : List Mv} (hm : MvOk n mv) {z : Sd} (hz : z.length = n) (h5 : n ≤ 5) {ks : List Sd} (hn : ks.Nodup) (h : ∀ b ∈ ks, Rch mv z b) : ks.length ≤ 3125 := by
  have := List.Nodup.length_le_of_subset (l₂ := wds z n) hn fun b hb => by
    obtain ⟨k, w⟩ := h b hb
    exact mem_wds (w.len hm hz) (w.mems hm hz)
  rw [wds_len, hz] at this
  refine Nat.le_trans this ?_
  rcases (by omega : n = 0 ∨ n = 1 ∨ n = 2 ∨ n = 3 ∨ n = 4 ∨ n = 5) with e | e | e | e | e | e <;> subst e <;> decide
theorem paths_same {n : Nat} {mv : List Mv} (hm : MvOk n mv) {z y : Sd} (hz : z.length = n) (r : Rch mv z y) {f g : Found} (hf : Paths mv z f) (hg : Paths mv y g) : (keysF f).Perm (keysF g) :=
  (List.perm_ext_iff_of_nodup hf.nd hg.nd).mpr fun b => by
    rw [hf.mem, hg.mem]
    exact ⟨fun h => (r.symm hm hz).trans h, fun h => r.trans h⟩
inductive Way (mv : List Mv) : Sd → Row → Sd → Prop
  | nil (a : Sd) : Way mv a [] a
  | cons {a b : Sd} {m : Mv} {r : Row} : m ∈ mv → Way mv (led a m.2) r b → Way mv a (m.1 :: r) b
theorem mvs_ok {n : Nat} {bs : List Btn} (h : Bts n bs) : MvOk n (mvs bs) := by
  refine ⟨fun m hm => ?_, fun m hm => ?_⟩
  · obtain ⟨b, hb, hm⟩ := List.mem_flatMap.mp hm
    have hp := h.prm b hb
    rcases List.mem_cons.mp hm with e | hm
    · rw [e]; exact hp
    · rw [List.mem_singleton.mp hm]; exact hp.bck
  · obtain ⟨b, hb, hm⟩ := List.mem_flatMap.mp hm
    have hp := h.prm b hb
    rcases List.mem_cons.mp hm with e | hm
    · refine ⟨((b.1, -1), bck b.2), List.mem_flatMap.mpr ⟨b, hb, List.mem_cons_of_mem _ (List.mem_singleton.mpr rfl)⟩, ?_⟩
      rw [e]; exact aft_bck hp
    · refine ⟨((b.1, 1), b.2), List.mem_flatMap.mpr ⟨b, hb, List.mem_cons_self ..⟩, ?_⟩
      rw [List.mem_singleton.mp hm]; exact bck_aft hp
theorem mvs_press {n : Nat} {bs : List Btn} (h : Bts n bs) (hn : (bs.map (·.1)).Nodup) {m : Mv} (hm : m ∈ mvs bs) : m.1.1 ∈ bs.map (·.1) ∧ (m.1.2 = 1 ∨ m.1.2 = -1) ∧ pT bs m.1 = m.2 := by
  obtain ⟨b, hb, hm⟩ := List.mem_flatMap.mp hm
  have hp := h.prm b hb
  have hbm : b.1 ∈ bs.map (·.1) := List.mem_map.mpr ⟨b, hb, rfl⟩
  have ht : tOf bs b.1 = b.2 := by
    obtain ⟨_, h2⟩ := tOf_some hbm
    obtain ⟨i, hi⟩ := List.getElem?_of_mem hb
    obtain ⟨j, hj⟩ := List.getElem?_of_mem h2
    have : i = j := by
      refine (List.getElem?_inj (l := bs.map (·.1)) (i := i) (j := j) ?_ hn).mp ?_
      · rw [List.length_map]; exact (List.getElem?_eq_some_iff.mp hi).1
      · rw [List.getElem?_map, List.getElem?_map, hi, hj]; rfl
    subst this
    rw [hi] at hj
    exact (congrArg Prod.snd (Option.some.inj hj)).symm
  have R := rings_right h.lo h.hi hp
  rcases List.mem_cons.mp hm with e | hm
  · subst e
    refine ⟨hbm, .inl rfl, ?_⟩
    unfold pT
    rw [ht]
    exact rai_one R hp.tn
  · rw [List.mem_singleton.mp hm]
    refine ⟨hbm, .inr rfl, ?_⟩
    unfold pT
    rw [ht]
    exact rai_neg R hp
theorem Way.led {n : Nat} {bs : List Btn} (h : Bts n bs) (hn : (bs.map (·.1)).Nodup) : ∀ {a : Sd} {r : Row} {b : Sd}, Way (mvs bs) a r b → a.length = n → b = led a (tf n bs r) ∧ Known bs r ∧ lenR r = (r.length : Int) ∧ ∀ p ∈ r, p.2 = 1 ∨ p.2 = -1
  | _, _, _, .nil a, ha => ⟨(led_id ha).symm, (fun _ m => by cases m), rfl, (fun _ m => by cases m)⟩
  | a, _, b, .cons (m := m) (r := r) hm w, ha => by
    obtain ⟨p1, p2, p3⟩ := mvs_press h hn hm
    have hpm := (mvs_ok h).prm m hm
    obtain ⟨h1, h2, h3, h4⟩ := Way.led h hn w (by rw [led_len, ha])
    have hk : Known bs (m.1 :: r) := fun q hq => (List.mem_cons.mp hq).elim (fun e => e ▸ p1) (h2 q)
    refine ⟨?_, hk, ?_, ?_⟩
    · rw [h1, led_aft hpm (tf_prm h h2) ha, tf_cons h hk, p3]
    · rw [lenR_cons, h3, List.length_cons]
      have : absI m.1.2 = 1 := by rcases p2 with e | e <;> rw [e] <;> rfl
      omega
    · exact fun q hq => (List.mem_cons.mp hq).elim (fun e => e ▸ p2) (h4 q)
end Sb
namespace Sb
open PySem PySem.Spec PyProof.Rows L2
/-- the value, and then the thing at d is held fast -/
def tLk (t : TE) : TE := fun σ H Q => t σ H fun x H1 => ∃ d u, H1 d = some u ∧ Mut (some u) ∧ ∀ od, Q x (upd H1 d (.frz od u))
theorem pe_lk {X : Cx} {e : Expr} {t : TE} (h : PE X e t) : PE X e (tLk t) := by
  refine ⟨fun pins s σ H Q I hw => ?_⟩
  refine thn (h.run pins s σ H _ I hw) fun v s1 ⟨x, H1, I1, r, d, u, hd, mu, q⟩ => ?_
  obtain ⟨od, I2⟩ := I1.lock hd mu
  exact ⟨x, _, I2, r, q od⟩
def kL (l : Sd) : Key := kS (SX.S l)
theorem kL_inj : ∀ a b, kL a = kL b → a = b := fun a b h => by
  have h1 : SX.S a = SX.S b := kS_inj _ _ h
  have h2 : (SX.S a).cps.toList = (SX.S b).cps.toList := by rw [h1]
  simpa using h2
def eO : Option (Sd × Press) → PyData
  | none => .tuple [.none, .none]
  | some (a, p) => .tuple [.str (SX.S a), eP p]
/-- the dict at d is what is found -/
def FAt (H : Hp) (d : Addr) (f : Found) : Prop := ∃ kvs, H d = some (.dK kvs) ∧ KvR kL (fun v o => Im H v (eO o)) kvs f
theorem FAt.on {H H' : Hp} {d : Addr} {f : Found} (h : FAt H d f) (e : Same H H') : FAt H' d f := by
  obtain ⟨kvs, h1, h2⟩ := h
  exact ⟨kvs, e _ _ h1, h2.mono fun v o r => r.on e⟩
def TxAt (H : Hp) (a : Addr) (ls : List Sd) : Prop := H a = some (.lst (ls.map fun l => V.str (SX.S l)))
def MvAt (H : Hp) (a : Addr) (mv : List Mv) : Prop := ∃ xs, H a = some (.lst xs) ∧ Ims H xs (mv.map eM)
theorem BtnsOk.bts {n : Nat} {bs : List Btn} (h : BtnsOk n bs) (h5 : n ≤ 5) : Bts n bs := ⟨h.1, h5, fun b m => (h.2.2.2.1 b m).2.2⟩
section
variable {P : Program} {w : World} {K : PySem.W.Frag} {mg : Str → Option Value} {base : Heap}
def spSingle (K : PySem.W.Frag) : Sp := fun vs H Q _ => ∃ (v : V) (n : Nat) (bs : List Btn), vs = [v] ∧ Bd K H v n bs ∧ BtnsOk n bs ∧ ∀ a H', Same H H' → MvAt H' a (mvs bs) → Q (.ref a) H'
theorem im_m {H : Hp} {a : Addr} {p c : V} {m : Mv} (h : H a = some (.tup [p, c])) (hp : Im H p (eP m.1)) (hc : Im H c (eT m.2)) : Im H (.ref a) (eM m) := .tup h (.two hp hc)
theorem c_single_presses (z : Z K mg) : Cal P w K mg base 2 "single_presses" (spSingle K) := by
  have S : FnScope ["board", "found", "name", "turn"] ["board"] (defScope sSinglePresses) := ⟨rfl, rfl, rfl, by decide +kernel, rfl, by decide +kernel, by decide +kernel⟩
  refine cal_by z.d_single_presses z.g_single_presses S (fun _ _ _ _ _ _ us hl => match us, hl with | [_], _ => rfl) (fun vs H Q E h => ?_) (fun cdv A outer s H vs Q E hr h => ?_)
  · obtain ⟨v, n, bs, rfl, _⟩ := h
    rfl
  · obtain ⟨v, n, bs, rfl, hbd, hb, q⟩ := h
    refine ⟨_, pss_cons (ps_set (i := 1) S.nd rfl (Or.inl rfl) (pe_lst pa_nil))
    (pss_cons (ps_for PassesOwn.never rfl (pi_tup (pe_fld (pv 0) rfl)) (pg_tup rfl (pgs_cons (pg_name (i := 2) S.nd rfl (Or.inl rfl)) (pgs_cons (pg_name (i := 3) S.nd rfl (Or.inl rfl)) pgs_nil)))
      (pss_cons (ps_expr (pe_bm PySem.F.plainAttrs_list PySem.F.slot_list_append PySem.F.type_list_append mt_append (pv 1) (pa_cons (pe_tup (pa_cons (pe_tup (pa_cons (pv 2) (pa_cons pe_int pa_nil))) (pa_cons (pv 3) pa_nil))) pa_nil)))
      (pss_one (ps_expr (pe_bm PySem.F.plainAttrs_list PySem.F.slot_list_append PySem.F.type_list_append mt_append (pv 1) (pa_cons (pe_tup (pa_cons (pe_tup (pa_cons (pv 2) (pa_cons (pe_un un_neg pe_int) pa_nil))) (pa_cons (pe_f (c_turned_back z) hr (by decide) rfl (pa_cons (pv 3) pa_nil)) pa_nil))) pa_nil))))))
    (pss_one (ps_ret (pv 1)))), ?_⟩
    obtain ⟨a, dx, T, E1, rfl, ha, hT⟩ := hbd
    obtain ⟨b, xs, rfl, hb1, hxs⟩ := hT.tupE
    have hlen := hxs.mlen
    have h8 := hb.2.2.1
    refine ⟨by decide, fun F hF => ?_⟩
    have e0 := Same.new (o := HO.lst []) hF
    refine ⟨_, rfl, a, _, dx, _, _, rfl, e0 _ _ ha, z.cl_Board, z.n_buttons, rfl, b, rfl, ⟨_, SqT.of (e0 _ _ hb1)⟩, for_it (walk_tup (xs := xs)) (fun i σ H2 => Same H H2 ∧ MvAt H2 F (mvs (bs.take i)) ∧ ∃ w1 w2, σ = [some (.ref a), some (.ref F), w1, w2]) ⟨e0, ⟨[], upd_same, .nil⟩, none, none, rfl⟩ (fun i σ H2 _ p => SqT.of (p.1 _ _ hb1)) (fun i x σ H2 H3 hi p hy => ?_) (fun σ H2 p => ?_)⟩
    · obtain ⟨e1, ⟨ys, h1, h2⟩, w1, w2, rfl⟩ := p
      obtain ⟨rfl, hc⟩ := hy
      obtain ⟨bt, h3, h4⟩ := (hxs.on e1).mget hc
      obtain ⟨c, d, rfl, h5, h6⟩ := h4.bE
      have hbt := hb.2.2.2.1 bt (List.mem_of_getElem? h3)
      have hln : ys.length ≤ 16 := by
        rw [h2.mlen, mvs, List.length_flatMap]
        have : ∀ l : List Btn, (l.map fun b => [(((b.1, 1) : Press), b.2), ((b.1, -1), bck b.2)].length).sum = 2 * l.length := fun l => by
          induction l with
          | nil => rfl
          | cons x l ih => rw [List.map_cons, List.sum_cons, ih, List.length_cons]; simp only [List.length_cons, List.length_nil]; omega
        rw [this, List.length_take]
        omega
      refine ⟨c, _, rfl, SqT.of h5, rfl, _, _, rfl, _, _, rfl, rfl, ?_⟩
      refine ⟨_, rfl, .inl ⟨rfl, _, SqL.of h1⟩, _, rfl, by show 2 ≤ 2 ^ 24; decide, fun T1 hT1 => ⟨_, rfl, by show 2 ≤ 2 ^ 24; decide, fun T2 hT2 => ?_⟩⟩
      have e2 := (Same.new (o := HO.tup [V.str bt.1, V.int 1]) hT1).trans (Same.new (o := HO.tup [V.ref T1, V.ref d]) hT2)
      refine ⟨F, ys, _, rfl, rfl, e2 _ _ h1, by show _ < 2 ^ 24; omega, ?_⟩
      have tk1 := TK.put (o := .lst (ys ++ [V.ref T2])) (e2 _ _ h1) (fun _ z => by cases z)
      have hT1' : upd (upd H3 T1 (HO.tup [V.str bt.1, V.int 1])) T2 (HO.tup [V.ref T1, V.ref d]) T1 = some (HO.tup [V.str bt.1, V.int 1]) := Same.new hT2 _ _ upd_same
      have g1 : Ims _ (ys ++ [V.ref T2]) ((mvs (bs.take i) ++ [((bt.1, 1), bt.2)]).map eM) := Ims.snocM (b := ((bt.1, 1), bt.2)) ((h2.on e2).by tk1) (im_m (m := ((bt.1, 1), bt.2)) (tk1 _ _ upd_same) (im_p (tk1 _ _ hT1')) (im_t (tk1 _ _ (e2 _ _ h6))))
      have hF3 := Same.mut (e1.trans e2) (o := .lst (ys ++ [V.ref T2])) hF
      have h14 : upd (upd (upd H3 T1 (HO.tup [V.str bt.1, V.int 1])) T2 (HO.tup [V.ref T1, V.ref d])) F (HO.lst (ys ++ [V.ref T2])) F = some (.lst (ys ++ [V.ref T2])) := upd_same
      have tk3 := (Same.tk e2).trans tk1
      generalize upd (upd (upd H3 T1 (HO.tup [V.str bt.1, V.int 1])) T2 (HO.tup [V.ref T1, V.ref d])) F (HO.lst (ys ++ [V.ref T2])) = H4 at *
      have tn := hbt.2.2.tn
      have hn24 := hb.2.1
      refine ⟨_, rfl, .inl ⟨rfl, _, SqL.of h14⟩, _, rfl, _, rfl, by show 2 ≤ 2 ^ 24; decide, fun T3 hT3 => ?_⟩
      have e5 := Same.new (o := HO.tup [V.str bt.1, V.int (-1)]) hT3
      refine ⟨_, rfl, _, bt.2, rfl, im_t (e5 _ _ (tk3 _ _ h6)), by rw [tn.1]; omega, by rw [tn.1]; exact tn.2, fun rb H5 e6 hrb => ⟨by show 2 ≤ 2 ^ 24; decide, fun T4 hT4 => ?_⟩⟩
      have e7 := (e5.trans e6).trans (Same.new (o := HO.tup [V.ref T3, rb]) hT4)
      refine ⟨F, _, _, rfl, rfl, e7 _ _ h14, by rw [List.length_append]; show _ + 1 < 2 ^ 24; omega, ?_⟩
      have tk4 := TK.put (o := .lst (ys ++ [V.ref T2] ++ [V.ref T4])) (e7 _ _ h14) (fun _ z => by cases z)
      refine ⟨Same.mut (hF3.trans e7) hF, ⟨_, upd_same, ?_⟩, _, _, rfl⟩
      rw [take_some h3]
      have e8 : mvs (bs.take i ++ [bt]) = mvs (bs.take i) ++ [((bt.1, 1), bt.2)] ++ [((bt.1, -1), bck bt.2)] := by
        unfold mvs
        rw [List.flatMap_append, List.append_assoc]
        rfl
      rw [e8]
      exact Ims.snocM (b := ((bt.1, -1), bck bt.2)) ((g1.on e7).by tk4) (im_m (m := ((bt.1, -1), bck bt.2)) (tk4 _ _ upd_same) (im_p (tk4 _ _ (Same.new hT4 _ _ (e6 _ _ upd_same)))) ((hrb.on (Same.new hT4)).by tk4))
    · obtain ⟨e1, h1, w1, w2, rfl⟩ := p
      rw [hlen, List.take_length] at h1
      exact ⟨_, rfl, q F _ e1 h1⟩
end
end Sb
namespace Sb
open PySem PySem.Spec PyProof.Rows L2
theorem strOk_S {n : Nat} {l : Sd} (h : StOk n l) : PyData.strOk (SX.S l) = true := by
  unfold PyData.strOk
  rw [Array.all_eq_true]
  intro i hi
  refine decide_eq_true ?_
  have hm : (SX.S l).cps[i] ∈ l := by simp
  have h4 : ∀ c ∈ ("abcdefghijklmnopqrstuvwxyz" : Str).cps.toList, c < 0x110000 := by decide
  rcases h.2 _ hm with h | h
  · exact h4 _ h
  · rw [h]; decide
theorem lay_S : ∀ {ls : List Sd}, (∀ l ∈ ls, PyData.strOk (SX.S l) = true) → PyData.canLayAll0 (ls.map fun l => .str (SX.S l)) = true
  | [], _ => rfl
  | l :: ls, h => by
    simp only [List.map_cons, PyData.canLayAll0, PyData.canLay0, h l (List.mem_cons_self ..), lay_S (ls := ls) fun x m => h x (List.mem_cons_of_mem _ m), Bool.and_self]
theorem shaped_S {ls : List Sd} (h : ∀ l ∈ ls, PyData.strOk (SX.S l) = true) : SeqAt.shaped (.list (ls.map fun l => .str (SX.S l))) = true :=
  shaped_by (k := 1) (lay_S h) (Nat.succ_le_succ (depth_map _ 0 (fun _ => Nat.le_refl _) ls)) (by decide)
theorem dp_S {K : PySem.W.Frag} {H : Hp} {a : Addr} : ∀ {ls : List Sd}, DpAll K H (ls.map fun l => V.str (SX.S l)) (ls.map fun l => .str (SX.S l))
  | [] => .nil
  | l :: ls => .cons (.str _) (dp_S (a := a))
theorem Rch.st {n : Nat} {mv : List Mv} (hm : MvOk n mv) {z b : Sd} (hz : StOk n z) (h : Rch mv z b) : StOk n b := by
  obtain ⟨k, w⟩ := h
  exact ⟨w.len hm hz.1, fun c hc => hz.2 c (w.mems hm hz.1 c hc)⟩
theorem Grw.rch {mv : List Mv} {z : Sd} {j : Nat} {f : Found} {edge : List Sd} (h : Lev mv z j f edge) {fl : Found × List Sd} (g : Grw mv edge f fl) : ∀ b ∈ keysF fl.1, Rch mv z b := by
  obtain ⟨⟨g, g1, g2, g3⟩, g4⟩ := g
  intro b hb
  rw [g1, keysF_app] at hb
  rcases List.mem_append.mp hb with hb | hb
  · obtain ⟨i, _, w⟩ := (h.mem b).mp hb
    exact ⟨i, w⟩
  · obtain ⟨e, he, rfl⟩ := List.mem_map.mp hb
    obtain ⟨a, ha, m, hm, rfl⟩ := g3 e he
    exact ⟨j + 1, a, ((h.edg a).mp ha).1, m, hm, rfl⟩
theorem Grw.bound {n : Nat} {mv : List Mv} (hm : MvOk n mv) (h5 : n ≤ 5) {z : Sd} (hz : z.length = n) {j : Nat} {f : Found} {edge : List Sd} (h : Lev mv z j f edge) {fl : Found × List Sd} (g : Grw mv edge f fl) : fl.1.length ≤ 3125 ∧ fl.2.length ≤ 3125 := by
  have h1 := keys_bound hm hz h5 g.nd (g.rch h)
  have h2 : (keysF fl.1).length = fl.1.length := List.length_map ..
  obtain ⟨⟨x, g1, g2, g3⟩, g4⟩ := g
  have h3 : fl.2.length ≤ fl.1.length := by
    rw [g1, g2, List.length_append]
    simp only [keysF, List.length_map]
    omega
  omega
section
variable {P : Program} {w : World} {K : PySem.W.Frag} {mg : Str → Option Value} {base : Heap}
/-- a board of few places -/
def Few (K : PySem.W.Frag) (H : Hp) (v : V) (n : Nat) (bs : List Btn) : Prop := Bd K H v n bs ∧ BtnsOk n bs ∧ n ≤ 5
theorem Few.on {H H' : Hp} {v : V} {n : Nat} {bs : List Btn} (h : Few K H v n bs) (e : Same H H') : Few K H' v n bs := ⟨h.1.on e, h.2⟩
theorem FAt.find {H : Hp} {kvs : List (Key × V)} {f : Found} (h : KvR kL (fun v o => Im H v (eO o)) kvs f) (b : Sd) : (valV kvs (kL b)).isSome = decide (b ∈ keysF f) := by
  rcases h.find kL_inj b with ⟨h1, h2⟩ | ⟨v, o, h1, h2, _⟩
  · rw [h1]
    exact (decide_eq_false (p := b ∈ keysF f) (getA_none.mp h2)).symm
  · rw [h1]
    exact (decide_eq_true (p := b ∈ keysF f) (getA_some_iff.mp ⟨o, h2⟩)).symm
def spPaths (K : PySem.W.Frag) : Sp := fun vs H Q _ => ∃ (v : V) (n : Nat) (bs : List Btn) (l : Sd), vs = [v, .str (SX.S l), .int 50000] ∧ Few K H v n bs ∧ StOk n l ∧ ∀ d f H', Same H H' → H d = none → FAt H' d f → Paths (mvs bs) l f → Q (.ref d) H'
theorem c_paths_from (z : Z K mg) : Cal P w K mg base 3 "paths_from" (spPaths K) := by
  have S : FnScope ["board", "standing", "most", "found", "edge", "moves", "later", "before", "press", "turn", "here"] ["board", "standing", "most"] (defScope sPathsFrom) := ⟨rfl, rfl, rfl, by decide +kernel, rfl, by decide +kernel, by decide +kernel⟩
  refine cal_by z.d_paths_from z.g_paths_from S (fun _ _ _ _ _ _ us hl => match us, hl with | [_, _, _], _ => rfl) (fun vs H Q E h => ?_) (fun cdv A outer s H vs Q E hr h => ?_)
  · obtain ⟨v, n, bs, l, rfl, _⟩ := h
    rfl
  · obtain ⟨v, n, bs, l, rfl, hbd, hl, q⟩ := h
    refine ⟨_, pss_cons (ps_par3 (i := 3) (j := 4) (l := 5) (by rfl) S.nd rfl rfl rfl (by decide) (by decide) (by decide) rfl rfl rfl (pa_cons (pe_disp (pps_cons (pv 1) (pe_tup (pa_cons pe_non (pa_cons pe_non pa_nil))) pps_nil) (by rfl) (by rfl) (fun z => by cases z) (by decide)) (pa_cons (pe_lst (pa_cons (pv 1) pa_nil)) (pa_cons (pe_f (c_single_presses z) hr (by decide) rfl (pa_cons (pv 0) pa_nil)) pa_nil))) (by rfl))
    (pss_cons (ps_while PassesOwn.never (pt_cmpR (op_neD hr.units) (pv 4) (pe_lst pa_nil) (nomark _))
      (pss_cons (ps_set (i := 6) S.nd rfl (Or.inl rfl) (pe_lst pa_nil))
      (pss_cons (ps_for PassesOwn.never rfl (pi_list (pv 4)) (pg_name (i := 7) S.nd rfl (Or.inl rfl))
        (pss_cons (ps_for PassesOwn.never rfl (pi_list (pv 5)) (pg_tup rfl (pgs_cons (pg_name (i := 8) S.nd rfl (Or.inl rfl)) (pgs_cons (pg_name (i := 9) S.nd rfl (Or.inl rfl)) pgs_nil)))
          (pss_cons (ps_set (i := 10) S.nd rfl (Or.inl rfl) (pe_f (c_led_standing z) hr (by decide) rfl (pa_cons (pv 7) (pa_cons (pv 9) pa_nil))))
          (pss_one (ps_if (pt_cmp (pc_dnotin (hu_of hr) (pv 10) (pv 3)))
            (pss_cons (ps_dput (hu_of hr) (pv 3) (pv 10) (pe_tup (pa_cons (pv 7) (pa_cons (pv 8) pa_nil))) rfl)
            (pss_one (ps_expr (pe_bm PySem.F.plainAttrs_list PySem.F.slot_list_append PySem.F.type_list_append mt_append (pv 6) (pa_cons (pv 10) pa_nil)))))
            pss_nil))))
        (pss_one (ps_if (pt_cmpR op_gt (pe_callB call_lenD (by rfl) z.b_len boot_len (pa_cons (pv 3) pa_nil)) (pv 2) (nomark _))
          pss_never
          pss_nil))))
      (pss_one (ps_set (i := 4) S.nd rfl (Or.inl rfl) (pv 6))))))
    (pss_one (ps_ret (pv 3)))), ?_⟩
    obtain ⟨hbd, hb, h5⟩ := hbd
    have hbts := hb.bts h5
    have hm := mvs_ok hbts
    have hl24 := hl.1
    refine fun d hd => ⟨_, rfl, by show 2 ≤ 2 ^ 24; decide, fun T hT => ?_⟩
    have hTd : d ≠ T := ne_of_none upd_same hT
    have hT0 : H T = none := (Same.new hd).free hT
    refine ⟨(upd_ne hTd).trans upd_same, [(kL l, .ref T)], rfl, Nat.le_of_ble_eq_true rfl, ?_⟩
    refine ⟨_, rfl, (by show 1 ≤ 2 ^ 24; decide), fun E0 hE0 => ⟨_, rfl, v, n, bs, rfl, ?_, hb, fun M H1 e1 hM => ⟨_, _, _, rfl, ?_⟩⟩⟩
    · exact ((hbd.on (Same.mut ((Same.new hd).trans (Same.new hT)) hd)).on (Same.new hE0))
    have hHd : ∀ o, Same H (upd (upd (upd H d (.dK [])) T (.tup [.non, .non])) d o) := fun o => Same.mut ((Same.new hd).trans (Same.new hT)) hd
    have hHE := (hHd (.dK (mergeK [] [(kL l, .ref T)]))).free hE0
    have e01 := ((hHd (.dK (mergeK [] [(kL l, .ref T)]))).trans (Same.new (o := HO.lst [.str (SX.S l)]) hE0)).trans e1
    refine ⟨fun m σ H2 => ∃ (j : Nat) (f : Found) (edge : List Sd) (E : Addr) (u6 u7 u8 u9 u10 : Option V), Lev (mvs bs) l j f edge ∧ FAt H2 d f ∧ TxAt H2 E edge ∧ H E = none ∧ MvAt H2 M (mvs bs) ∧ Same H H2 ∧ (edge = [] ∨ 3126 ≤ m + f.length) ∧ σ = [some v, some (.str (SX.S l)), some (.int 50000), some (.ref d), some (.ref E), some (.ref M), u6, u7, u8, u9, u10], ⟨3126, 0, [(l, none)], [l], E0, none, none, none, none, none, lev_zero _ _, ⟨[(kL l, .ref T)], ?_, .cons ?_ .nil⟩, e1 _ _ upd_same, hHE, hM, e01, .inr (by omega), rfl⟩, ?_⟩
    · exact e1 _ _ ((upd_ne (ne_of_none upd_same hE0)).trans upd_same)
    · refine .tup (e1 _ _ (Same.new hE0 _ _ ((upd_ne hTd.symm).trans upd_same))) (.two .non .non)
    rintro m σ H2 ⟨j, f, edge, E, u6, u7, u8, u9, u10, hlev, hF, hE, hEn, hM2, e2, hm2, rfl⟩
    have hg0 : Grw (mvs bs) edge f (f, []) := ⟨⟨[], (List.append_nil f).symm, rfl, fun _ m => by cases m⟩, hlev.nd⟩
    have hedge : ∀ a ∈ edge, Rch (mvs bs) l a := fun a ha => ⟨j, ((hlev.edg a).mp ha).1⟩
    have hst : ∀ a, Rch (mvs bs) l a → StOk n a := fun a ha => ha.st hm hl
    refine ⟨_, rfl, by decide, fun L0 hL0 => ⟨.list (edge.map fun l => .str (SX.S l)), .list [], .lst (SqL.of (Same.new hL0 _ _ hE)) (dp_S (a := E)), .lst (SqL.of upd_same) .nil, shaped_S fun a ha => strOk_S (hst a (hedge a ha)), rfl, _, rfl, ?_⟩⟩
    have e3 := Same.new (o := HO.lst []) hL0
    rw [PyData.eqv]
    by_cases hne : edge = []
    · subst hne
      exact iteF ⟨_, rfl, q d f _ (e2.trans e3) hd (hF.on e3) hlev.end_⟩
    have hev : PyData.eqvAll (edge.map fun l => .str (SX.S l)) [] = false := by
      cases edge with
      | nil => exact absurd rfl hne
      | cons a r => rfl
    rw [hev]
    refine iteT ⟨fun σ' H' => ∃ m', m' < m ∧ _, fun σ' H' w => w, by decide, fun L hL => ?_⟩
    have e4 := e3.trans (Same.new (o := HO.lst []) hL)
    have hL2 : H2 L = none := e3.free hL
    have hLn : H L = none := e2.free hL2
    have hLE : L ≠ E := fun z => by rw [z, hE] at hL2; cases hL2
    obtain ⟨ms, hM3, hM4⟩ := hM2
    have hLM : L ≠ M := fun z => by rw [z, hM3] at hL2; cases hL2
    have hLd : L ≠ d := fun z => by
      obtain ⟨kvs, h1, _⟩ := hF
      rw [z, h1] at hL2; cases hL2
    have hMl := hM4.mlen
    refine ⟨_, rfl, E, rfl, ⟨_, SqL.of (e4 _ _ hE)⟩, for_it (walk_list (xs := edge.map fun l => V.str (SX.S l))) (fun i σ H5 => Same H H5 ∧ FAt H5 d ((edge.take i).foldl (tryA (mvs bs)) (f, [])).1 ∧ TxAt H5 E edge ∧ (H5 M = some (.lst ms) ∧ Ims H5 ms ((mvs bs).map eM)) ∧ TxAt H5 L ((edge.take i).foldl (tryA (mvs bs)) (f, [])).2 ∧ ∃ u7 u8 u9 u10, σ = [some v, some (.str (SX.S l)), some (.int 50000), some (.ref d), some (.ref E), some (.ref M), some (.ref L), u7, u8, u9, u10])
      ⟨e2.trans e4, hF.on e4, e4 _ _ hE, ⟨e4 _ _ hM3, hM4.on e4⟩, upd_same, _, _, _, _, rfl⟩ (fun i σ H5 _ p => SqL.of p.2.2.1) (fun i x σ H5 H6 hi p hy => ?_) (fun σ H5 p => ?_)⟩
    · obtain ⟨e5, hF5, hE5, ⟨hM5, hM6⟩, hL5, u7, u8, u9, u10, rfl⟩ := p
      obtain ⟨rfl, hc⟩ := hy
      rw [List.length_map] at hi
      rw [List.getElem?_map, List.getElem?_eq_getElem hi] at hc
      have hai : edge[i]? = some edge[i] := List.getElem?_eq_getElem hi
      generalize edge[i] = a at hc hai
      cases hc
      have ham : a ∈ edge := List.mem_of_getElem? hai
      have hga := (Grw.all (mv := mvs bs) (edge.take i) (fun x m => List.mem_of_mem_take m) hg0).1
      have hnext : (edge.take (i + 1)).foldl (tryA (mvs bs)) (f, []) = (mvs bs).foldl (tryM a) ((edge.take i).foldl (tryA (mvs bs)) (f, [])) := by
        rw [take_some hai, List.foldl_append]
        rfl
      generalize (edge.take i).foldl (tryA (mvs bs)) (f, []) = fl at *
      have hgm := fun i' => (Grw.many (mv := mvs bs) ham ((mvs bs).take i') (fun x m => List.mem_of_mem_take m) hga).1
      refine ⟨_, rfl, M, rfl, ⟨_, SqL.of hM5⟩, for_it (walk_list (xs := ms)) (fun i' σ H7 => Same H H7 ∧ FAt H7 d (((mvs bs).take i').foldl (tryM a) fl).1 ∧ TxAt H7 E edge ∧ (H7 M = some (.lst ms) ∧ Ims H7 ms ((mvs bs).map eM)) ∧ TxAt H7 L (((mvs bs).take i').foldl (tryM a) fl).2 ∧ ∃ u8 u9 u10, σ = [some v, some (.str (SX.S l)), some (.int 50000), some (.ref d), some (.ref E), some (.ref M), some (.ref L), some (.str (SX.S a)), u8, u9, u10])
        ⟨e5, hF5, hE5, ⟨hM5, hM6⟩, hL5, _, _, _, rfl⟩ (fun i' σ H7 _ p => SqL.of p.2.2.2.1.1) (fun i' x σ H7 H8 hi' p hy => ?_) (fun σ H7 p => ?_)⟩
      · obtain ⟨e7, hF7, hE7, ⟨hM7, hM8⟩, hL7, u8, u9, u10, rfl⟩ := p
        obtain ⟨rfl, hc⟩ := hy
        obtain ⟨mv1, h1, h2⟩ := hM8.mget hc
        obtain ⟨c, p, c2, rfl, h3, h4, h5'⟩ := h2.mE
        have hmm : mv1 ∈ mvs bs := List.mem_of_getElem? h1
        have hgi := hgm i'
        have hnx : ((mvs bs).take (i' + 1)).foldl (tryM a) fl = tryM a (((mvs bs).take i').foldl (tryM a) fl) mv1 := by
          rw [take_some h1, List.foldl_append]
          rfl
        rw [hnx]
        generalize ((mvs bs).take i').foldl (tryM a) fl = fk at *
        obtain ⟨b1, b2⟩ := hgi.bound hm h5 hl24 hlev
        have sta := hst a (hedge a ham)
        refine ⟨c, _, rfl, SqT.of h3, rfl, _, _, rfl, _, _, rfl, rfl, ?_⟩
        refine ⟨_, rfl, _, rfl, _, mv1.2, a, rfl, im_t h5', by rw [sta.1]; exact hm.prm _ hmm, by rw [sta.1]; omega, fun H9 e9 => ?_⟩
        obtain ⟨kvs, k1, k2⟩ := hF7.on e9
        refine ⟨_, rfl, _, rfl, d, _, rfl, DGet.k (k := kL (led a mv1.2)) k1, _, rfl, ?_⟩
        rw [FAt.find k2]
        unfold tryM
        by_cases hin : led a mv1.2 ∈ keysF fk.1
        · rw [decide_eq_true hin, if_pos hin]
          exact iteF ⟨e7.trans e9, ⟨kvs, k1, k2⟩, e9 _ _ hE7, ⟨e9 _ _ hM7, hM8.on e9⟩, e9 _ _ hL7, _, _, _, rfl⟩
        · rw [decide_eq_false hin, if_neg hin]
          refine iteT ⟨_, rfl, _, rfl, by show 2 ≤ 2 ^ 24; decide, fun T1 hT1 => ?_⟩
          have e10 := e9.trans (Same.new (o := HO.tup [V.str (SX.S a), p]) hT1)
          have k1' := Same.new (o := HO.tup [V.str (SX.S a), p]) hT1 _ _ k1
          have hkl : kvs.length < sizeLine := by rw [k2.len]; show _ < 2 ^ 24; omega
          refine ⟨_, rfl, _, rfl, d, _, rfl, DPut.k (k := kL (led a mv1.2)) k1' hkl, ?_⟩
          have tkd := TK.put (o := .dK (putK kvs (kL (led a mv1.2)) (.ref T1))) k1' (fun _ z => by cases z)
          have hL9 : upd (upd H9 T1 (HO.tup [V.str (SX.S a), p])) d (.dK (putK kvs (kL (led a mv1.2)) (.ref T1))) L = some (.lst (fk.2.map fun l => V.str (SX.S l))) := (upd_ne hLd).trans (e10 _ _ hL7)
          refine ⟨_, rfl, .inl ⟨rfl, _, SqL.of hL9⟩, _, rfl, L, _, _, rfl, rfl, hL9, by rw [List.length_map]; show _ < 2 ^ 24; omega, ?_⟩
          have tkL := TK.put (o := .lst ((fk.2.map fun l => V.str (SX.S l)) ++ [V.str (SX.S (led a mv1.2))])) hL9 (fun _ z => by cases z)
          have hdE : E ≠ d := ne_of (e10 _ _ hE7) k1' (by intro z; cases z)
          have hdM : M ≠ d := ne_of (e10 _ _ hM7) k1' (by intro z; cases z)
          have hT1d : T1 ≠ d := fun z => by rw [z] at hT1; rw [k1] at hT1; cases hT1
          have hT1L : T1 ≠ L := fun z => by rw [z] at hT1; rw [e9 _ _ hL7] at hT1; cases hT1
          refine ⟨Same.mut (Same.mut (e7.trans e10) hd) hLn, ⟨_, (upd_ne hLd.symm).trans upd_same, ?_⟩, (upd_ne hLE.symm).trans ((upd_ne hdE).trans (e10 _ _ hE7)), ⟨(upd_ne hLM.symm).trans ((upd_ne hdM).trans (e10 _ _ hM7)), ((hM8.on e10).by tkd).by tkL⟩, ?_, _, _, _, rfl⟩
          · have hnone : getA fk.1 (led a mv1.2) = none := getA_none.mpr hin
            rw [← putA_new hnone]
            refine KvR.put kL_inj (k2.mono fun v o r => ((r.on (Same.new hT1)).by tkd).by tkL) ?_
            exact .tup (tkL _ _ (tkd _ _ upd_same)) (.two (.str _) (((h4.on e10).by tkd).by tkL))
          · show upd _ L _ L = _
            rw [upd_same, List.map_append]
            rfl
      · obtain ⟨e7, hF7, hE7, ⟨hM7, hM8⟩, hL7, u8, u9, u10, rfl⟩ := p
        rw [hMl, List.take_length] at hF7 hL7
        have hgi := hgm (mvs bs).length
        rw [List.take_length] at hgi
        obtain ⟨b1, b2⟩ := hgi.bound hm h5 hl24 hlev
        obtain ⟨kvs, k1, k2⟩ := hF7
        refine ⟨_, rfl, d, kvs, rfl, k1, _, rfl, _, _, rfl, rfl, _, rfl, ?_⟩
        rw [decide_eq_false (by rw [k2.len]; omega)]
        refine iteF ⟨e7, ?_, hE7, ⟨hM7, hM8⟩, ?_, _, _, _, _, rfl⟩
        · rw [hnext]
          exact ⟨kvs, k1, k2⟩
        · rw [hnext]
          exact hL7
    · obtain ⟨e5, hF5, hE5, ⟨hM5, hM6⟩, hL5, u7, u8, u9, u10, rfl⟩ := p
      rw [List.length_map, List.take_length] at hF5 hL5
      obtain ⟨n1, n2⟩ := hlev.next
      have hga := (Grw.all (mv := mvs bs) edge (fun x m => m) hg0).1
      obtain ⟨b1, b2⟩ := hga.bound hm h5 hl24 hlev
      refine ⟨_, rfl, m - 1, ?_, j + 1, _, _, L, _, _, _, _, _, n1, hF5, hL5, hLn, ⟨ms, hM5, hM6⟩, e5, ?_, rfl⟩
      · rcases hm2 with h | h
        · exact absurd h hne
        · have : f.length ≤ 3125 := by omega
          omega
      · rcases hm2 with h | h
        · exact absurd h hne
        · by_cases hz : (edge.foldl (tryA (mvs bs)) (f, [])).2 = []
          · exact .inl hz
          · have := List.length_pos_iff.mpr hz
            exact .inr (by omega)
end
end Sb
namespace Sb
open PySem
def perB (n : Nat) : List (List Nat) := (wds (List.range n) n).filter fun t => decide t.Nodup
theorem perB_len {n : Nat} (h5 : n ≤ 5) : (perB n).length ≤ 120 := by
  have h0 : (perB 0).length ≤ 120 := by decide +kernel
  have h1 : (perB 1).length ≤ 120 := by decide +kernel
  have h2 : (perB 2).length ≤ 120 := by decide +kernel
  have h3 : (perB 3).length ≤ 120 := by decide +kernel
  have h4 : (perB 4).length ≤ 120 := by decide +kernel
  have h5' : (perB 5).length ≤ 120 := by decide +kernel
  rcases (by omega : n = 0 ∨ n = 1 ∨ n = 2 ∨ n = 3 ∨ n = 4 ∨ n = 5) with e | e | e | e | e | e <;> subst e <;> assumption
theorem mem_perB {n : Nat} {t : Trn} (h : Prm n t) : t ∈ perB n :=
  List.mem_filter.mpr ⟨mem_wds h.tn.1 fun x m => List.mem_range.mpr (h.tn.2 x m), decide_eq_true h.nd⟩
section
variable {mv : List Mv} {a b z : Sd} {n : Nat}
theorem Wk.prm (h : MvOk n mv) (ha : a.length = n) : ∀ {k : Nat} {b : Sd}, Wk mv k a b → ∃ t, Prm n t ∧ b = led a t
  | 0, b, e => ⟨List.range n, prm_range n, by rw [led_id ha]; exact Eq.symm e⟩
  | k + 1, b, ⟨c, h1, m, hm, e⟩ => by
    obtain ⟨t, ht, ec⟩ := Wk.prm h ha h1
    refine ⟨aft t m.2, ht.aft (h.prm m hm), ?_⟩
    rw [← e, ec, led_aft ht (h.prm m hm) ha]
theorem keys_120 (hm : MvOk n mv) (hz : z.length = n) (h5 : n ≤ 5) {f : Found} (hf : Paths mv z f) : f.length ≤ 120 := by
  have h2 : (keysF f).length = f.length := List.length_map ..
  rw [← h2]
  have := List.Nodup.length_le_of_subset (l₂ := (perB n).map (led z)) hf.nd fun b hb => by
    obtain ⟨k, w⟩ := (hf.mem b).mp hb
    obtain ⟨t, ht, e⟩ := w.prm hm hz
    exact List.mem_map.mpr ⟨t, mem_perB ht, e.symm⟩
  rw [List.length_map] at this
  exact Nat.le_trans this (perB_len h5)
theorem Paths.idx {f : Found} (hf : Paths mv z f) : ∀ (i : Nat) (b : Sd), (keysF f)[i]? = some b → dist mv z b ≤ i := by
  intro i
  induction i using Nat.strongRecOn with
  | ind i ih =>
    intro b hb
    have hb2 := hb
    unfold keysF at hb2
    rw [List.getElem?_map] at hb2
    cases e : f[i]? with
    | none => rw [e] at hb2; cases hb2
    | some x =>
      rw [e] at hb2
      obtain ⟨b', o⟩ := x
      cases hb2
      rcases hf.ent i b' o e with ⟨_, e2, _⟩ | ⟨_, a, m, _, _, _, ⟨i', h1, h2⟩, e3⟩
      · rw [e2, dist_self]; exact Nat.zero_le _
      · have := ih i' h1 a h2
        rw [e3]
        omega
theorem Paths.dist_lt (hm : MvOk n mv) (hz : z.length = n) (h5 : n ≤ 5) {f : Found} (hf : Paths mv z f) (r : Rch mv z b) : dist mv z b ≤ 120 := by
  obtain ⟨i, hi⟩ := List.getElem?_of_mem ((hf.mem b).mpr r)
  have h1 := hf.idx i b hi
  have h2 := (List.getElem?_eq_some_iff.mp hi).1
  have h3 : (keysF f).length = f.length := List.length_map ..
  have h4 := keys_120 hm hz h5 hf
  omega
end
end Sb
namespace Sb
open PySem PySem.Spec PyProof.Rows L2
section
variable {P : Program} {w : World} {K : PySem.W.Frag} {mg : Str → Option Value} {base : Heap}
/-- the farthest of what is reached -/
def Farthest (mv : List Mv) (l : Sd) (last : List Sd) : Prop := last ≠ [] ∧ ∀ b ∈ last, Rch mv l b ∧ ∀ c, Rch mv l c → dist mv l c ≤ dist mv l b
def tLenS (K : PySem.W.Frag) : List V → Hp → VK → Prop := fun xs H Q => ∃ p ys, xs = [V.ref p] ∧ (SqL K H p ys ∨ SqT K H p ys) ∧ Q (V.int ys.length) H
/-- a new layer if it is wanted, and b into its layer -/
def tLay (K : PySem.W.Frag) : TS := tSeq (tIfS (tTest (tOp rEq (tDGet (tVar 3) (tVar 5)) (tCB (tLenS K) (tCons (tVar 4) tNil)))) (tDrop (tBM K "list" rAppend (tVar 4) (tCons (tLst tNil) tNil))) tNext)
  (tDrop (tBM K "list" rAppend (tOp (rIxL K) (tVar 4) (tDGet (tVar 3) (tVar 5))) (tCons (tVar 5) tNil)))
theorem lay_tail {D : Ends} {H : Hp} {dd LL : Addr} {fk : List (Key × V)} {b : Sd} {k : Nat} {s0 s1 s2 s6 s7 : Option V} (hd : H dd = some (.dK fk)) (hv : valV fk (kL b) = some (.int k))
    (hc : (k = 0 ∧ H LL = some (.lst [])) ∨ ∃ pre A last, H LL = some (.lst (pre ++ [.ref A])) ∧ A ≠ LL ∧ TxAt H A last ∧ pre.length ≤ 1000 ∧ last.length ≤ 1000 ∧ (k = pre.length ∨ k = pre.length + 1))
    (q : ∀ H' pre' A' last', H' LL = some (.lst (pre' ++ [.ref A'])) → pre'.length = k → TxAt H' A' (last' ++ [b]) → A' ≠ LL → (last' = [] ∧ H A' = none ∨ ∃ pre, H LL = some (.lst (pre ++ [.ref A'])) ∧ TxAt H A' last' ∧ k = pre.length) → (∀ x o, x ≠ LL → x ≠ A' → H x = some o → H' x = some o) → TK H H' →
      D.nx [s0, s1, s2, some (.ref dd), some (.ref LL), some (.str (SX.S b)), s6, s7] H') : tLay K D [s0, s1, s2, some (.ref dd), some (.ref LL), some (.str (SX.S b)), s6, s7] H := by
  have hDG := DGet.k (k := kL b) hd
  rw [hv] at hDG
  -- a new layer
  have hnew : ∀ pre : List V, H LL = some (.lst pre) → pre.length = k → pre.length ≤ 1001 → tLay K D [s0, s1, s2, some (.ref dd), some (.ref LL), some (.str (SX.S b)), s6, s7] H := fun pre hL hk hl => by
    have hdL : dd ≠ LL := ne_of hd hL (by intro z; cases z)
    refine ⟨_, rfl, _, rfl, dd, _, rfl, hDG, _, rfl, LL, _, rfl, .inl (SqL.of hL), rfl, _, rfl, ?_⟩
    rw [hk, decide_eq_true rfl]
    refine iteT ⟨_, rfl, .inl ⟨rfl, _, SqL.of hL⟩, by decide, fun A hA => ⟨LL, _, _, rfl, rfl, (Same.new hA _ _ hL), by show _ < 2 ^ 24; omega, ?_⟩⟩
    have hAL : A ≠ LL := fun z => by rw [z, hL] at hA; cases hA
    have hAd : A ≠ dd := fun z => by rw [z, hd] at hA; cases hA
    have hL2 : upd (upd H A (.lst [])) LL (.lst (pre ++ [.ref A])) LL = some (.lst (pre ++ [.ref A])) := upd_same
    have hd2 : upd (upd H A (.lst [])) LL (.lst (pre ++ [.ref A])) dd = some (.dK fk) := (upd_ne hdL).trans ((upd_ne hAd.symm).trans hd)
    have hA2 : upd (upd H A (.lst [])) LL (.lst (pre ++ [.ref A])) A = some (.lst []) := (upd_ne hAL).trans upd_same
    have hDG2 := DGet.k (k := kL b) hd2
    rw [hv] at hDG2
    refine ⟨_, rfl, _, rfl, _, rfl, dd, _, rfl, hDG2, LL, _, _, V.ref A, rfl, rfl, SqL.of hL2, atI_nat (by rw [← hk, List.getElem?_append_right (Nat.le_refl _), Nat.sub_self]; rfl), .inl ⟨rfl, _, SqL.of hA2⟩, _, rfl, A, _, _, rfl, rfl, hA2, by decide, ?_⟩
    refine q _ pre A [] ((upd_ne hAL.symm).trans hL2) hk upd_same hAL (.inl ⟨rfl, hA⟩) (fun x o h1 h2 h3 => (upd_ne h2).trans ((upd_ne h1).trans ((upd_ne h2).trans h3))) ?_
    exact ((TK.new hA).trans (TK.put (Same.new hA _ _ hL) (fun _ z => by cases z))).trans (TK.put hA2 (fun _ z => by cases z))
  rcases hc with ⟨h0, hL⟩ | ⟨pre, A, last, hL, hAL, hA, hl1, hl2, hk | hk⟩
  · exact hnew [] hL h0.symm (by decide)
  · refine ⟨_, rfl, _, rfl, dd, _, rfl, hDG, _, rfl, LL, _, rfl, .inl (SqL.of hL), rfl, _, rfl, ?_⟩
    rw [decide_eq_false (by rw [List.length_append]; intro z; have := V.int.inj z; simp at this; omega)]
    refine iteF ⟨_, rfl, _, rfl, _, rfl, dd, _, rfl, hDG, LL, _, _, V.ref A, rfl, rfl, SqL.of hL, atI_nat (by rw [hk, List.getElem?_append_right (Nat.le_refl _), Nat.sub_self]; rfl), .inl ⟨rfl, _, SqL.of hA⟩, _, rfl, A, _, _, rfl, rfl, hA, by rw [List.length_map]; show _ < 2 ^ 24; omega, ?_⟩
    refine q _ pre A last ((upd_ne hAL.symm).trans hL) hk.symm ?_ hAL (.inr ⟨pre, hL, hA, hk⟩) (fun x o h1 h2 h3 => (upd_ne h2).trans h3) (TK.put hA (fun _ z => by cases z))
    show upd _ A _ A = _
    rw [upd_same, List.map_append]
    rfl
  · exact hnew _ hL (by rw [List.length_append, hk]; rfl) (by rw [List.length_append]; show _ + 1 ≤ _; omega)
def spLayers (K : PySem.W.Frag) : Sp := fun vs H Q _ => ∃ (v : V) (n : Nat) (bs : List Btn) (l : Sd), vs = [v, .str (SX.S l), .int 50000] ∧ Few K H v n bs ∧ StOk n l ∧ ∀ L pre A last H', Same H H' → H' L = some (.lst (pre ++ [.ref A])) → TxAt H' A last → Farthest (mvs bs) l last → Q (.ref L) H'
theorem c_layers_from (z : Z K mg) : Cal P w K mg base 4 "layers_from" (spLayers K) := by
  have S : FnScope ["board", "standing", "most", "far", "found", "here", "before", "press"] ["board", "standing", "most"] (defScope sLayersFrom) := ⟨rfl, rfl, rfl, by decide +kernel, rfl, by decide +kernel, by decide +kernel⟩
  refine cal_by z.d_layers_from z.g_layers_from S (fun _ _ _ _ _ _ us hl => match us, hl with | [_, _, _], _ => rfl) (fun vs H Q E h => ?_) (fun cdv A outer s H vs Q E hr h => ?_)
  · obtain ⟨v, n, bs, l, rfl, _⟩ := h
    rfl
  · obtain ⟨v, n, bs, l, rfl, hbd, hl, q⟩ := h
    refine ⟨_, pss_cons (ps_par (i := 3) (j := 4) (by rfl) S.nd rfl rfl (by decide) rfl rfl (pa_cons pe_dnewK (pa_cons (pe_lst pa_nil) pa_nil)) (by rfl))
    (pss_cons (ps_for PassesOwn.never rfl (pi_items (pe_lk (pe_f (c_paths_from z) hr (by decide) rfl (pa_cons (pv 0) (pa_cons (pv 1) (pa_cons (pv 2) pa_nil)))))) (pg_tup rfl (pgs_cons (pg_name (i := 5) S.nd rfl (Or.inl rfl)) (pgs_cons (pg_tup rfl (pgs_cons (pg_name (i := 6) S.nd rfl (Or.inl rfl)) (pgs_cons (pg_name (i := 7) S.nd rfl (Or.inl rfl)) pgs_nil))) pgs_nil)))
      (pss_cons (ps_dput (hu_of hr) (pv 3) (pv 5) (pe_ifExp (pt_cmpR op_isN (pv 6) pe_non (nomark _)) pe_int (pe_op op_add (pe_dget (hu_of hr) (pv 3) (pv 6) (fun _ _ => rfl)) pe_int)) rfl)
      (pss_cons (ps_if (pt_cmpR op_eq (pe_dget (hu_of hr) (pv 3) (pv 5) (fun _ _ => rfl)) (pe_callB call_len_seq (by rfl) z.b_len boot_len (pa_cons (pv 4) pa_nil)) (nomark _))
        (pss_one (ps_expr (pe_bm PySem.F.plainAttrs_list PySem.F.slot_list_append PySem.F.type_list_append mt_append (pv 4) (pa_cons (pe_lst pa_nil) pa_nil))))
        pss_nil)
      (pss_one (ps_expr (pe_bm PySem.F.plainAttrs_list PySem.F.slot_list_append PySem.F.type_list_append mt_append (pe_ix ix_list (pv 4) (pe_dget (hu_of hr) (pv 3) (pv 5) (fun _ _ => rfl)) (fun _ _ => rfl)) (pa_cons (pv 5) pa_nil)))))))
    (pss_one (ps_ret (pv 4)))), ?_⟩
    have hm := mvs_ok (hbd.2.1.bts hbd.2.2)
    have h5 := hbd.2.2
    intro dd hdd
    refine ⟨by decide, fun LL hLL => ⟨_, _, rfl, ?_⟩⟩
    have e0 := (Same.new (o := HO.dK []) hdd).trans (Same.new (o := HO.lst []) hLL)
    have hddL : dd ≠ LL := ne_of_none upd_same hLL
    have hLL0 : H LL = none := (Same.new hdd).free hLL
    refine ⟨_, rfl, _, rfl, _, rfl, v, n, bs, l, rfl, hbd.on e0, hl, fun d f H1 e1 hdn hF hp => ?_⟩
    obtain ⟨kvs, k1, k2⟩ := hF
    have hddd : dd ≠ d := ne_of_none ((upd_ne hddL).trans upd_same) hdn
    have hLLd : LL ≠ d := ne_of_none upd_same hdn
    have hd0 : H d = none := e0.free hdn
    refine ⟨d, _, k1, trivial, fun od => ⟨d, od, kvs, rfl, upd_same, ?_⟩⟩
    have tk1 := TK.put (o := .frz od (.dK kvs)) k1 (fun _ z => by cases z)
    have hlen := k2.len
    have hf120 := keys_120 hm hl.1 h5 hp
    have hkl : (keysF f).length = f.length := List.length_map ..
    refine for_it (walk_items (o := od) (kvs := kvs)) (fun i σ H2 => Same H H2 ∧ H2 d = some (.frz od (.dK kvs)) ∧ KvR kL (fun v o => Im H2 v (eO o)) kvs f ∧
        (∃ fkv, H2 dd = some (.dK fkv) ∧ KvR kL (fun v (k : Nat) => v = .int k) fkv (((keysF f).take i).map fun b => (b, dist (mvs bs) l b))) ∧
        ((i = 0 ∧ H2 LL = some (.lst [])) ∨ ∃ pre A last b0, H2 LL = some (.lst (pre ++ [.ref A])) ∧ H A = none ∧ A ≠ dd ∧ A ≠ LL ∧ A ≠ d ∧ TxAt H2 A last ∧ last ≠ [] ∧ last.length ≤ i ∧ pre.length ≤ i ∧ 0 < i ∧ (keysF f)[i - 1]? = some b0 ∧ pre.length = dist (mvs bs) l b0 ∧ ∀ b ∈ last, b ∈ keysF f ∧ dist (mvs bs) l b = dist (mvs bs) l b0) ∧
        ∃ w1 w2 w3, σ = [some v, some (.str (SX.S l)), some (.int 50000), some (.ref dd), some (.ref LL), w1, w2, w3]) ⟨Same.mut (e0.trans e1) hd0, upd_same, k2.mono fun v o r => r.by tk1, ⟨[], (upd_ne hddd).trans (e1 _ _ ((upd_ne hddL).trans upd_same)), .nil⟩, .inl ⟨rfl, (upd_ne hLLd).trans (e1 _ _ upd_same)⟩, none, none, none, rfl⟩ (fun i σ H2 _ p => p.2.1) (fun i x σ H2 H3 hi p hy => ?_) (fun σ H2 p => ?_)
    · obtain ⟨e2, hd2, hk2, ⟨fkv, hf1, hf2⟩, hlay, w1, w2, w3, rfl⟩ := p
      obtain ⟨T, y, u, rfl, hT, rfl, hy, hz⟩ := hy
      have hki : kvs[i]? = some kvs[i] := List.getElem?_eq_getElem hi
      replace hy : kvs[i]?.map (fun kv => kV kv.1) = some y := hy
      replace hz : kvs[i]?.map Prod.snd = some u := hz
      generalize kvs[i] = kv at hki
      obtain ⟨k, u0⟩ := kv
      rw [hki] at hy hz
      obtain rfl : kV k = y := Option.some.inj hy
      obtain rfl : u0 = u := Option.some.inj hz
      obtain ⟨b, o, h1, rfl, h2⟩ := hk2.get hki
      have hbi : (keysF f)[i]? = some b := by unfold keysF; rw [List.getElem?_map, h1]; rfl
      have e3 := Same.new (o := HO.tup [kV (kL b), u0]) hT
      have hk3 : KvR kL (fun v o => Im (upd H2 T (.tup [kV (kL b), u0])) v (eO o)) kvs f := hk2.mono fun v o r => r.on e3
      obtain ⟨c, x1, x2, rfl, hc, hx12⟩ : ∃ c x1 x2, u0 = .ref c ∧ upd H2 T (.tup [kV (kL b), u0]) c = some (.tup [x1, x2]) ∧ ((o = none ∧ x1 = .non) ∨ ∃ a p, o = some (a, p) ∧ x1 = .str (SX.S a)) := by
        cases o with
        | none =>
          obtain ⟨c, xs, rfl, hc, hxs⟩ := h2.tupE
          obtain ⟨x1, x2, rfl, g1, g2⟩ := hxs.twoE
          cases g1
          exact ⟨c, _, _, rfl, e3 _ _ hc, .inl ⟨rfl, rfl⟩⟩
        | some ap =>
          obtain ⟨a, p⟩ := ap
          obtain ⟨c, xs, rfl, hc, hxs⟩ := h2.tupE
          obtain ⟨x1, x2, rfl, g1, g2⟩ := hxs.twoE
          exact ⟨c, _, _, rfl, e3 _ _ hc, .inr ⟨a, p, rfl, g1.strE⟩⟩
      have hTd : dd ≠ T := ne_of_none hf1 hT
      have hk3' : KvR kL (fun v o => Im (upd H2 T (.tup [kV (kL b), .ref c])) v (eO o)) kvs f := hk3
      have hf3 : upd H2 T (.tup [kV (kL b), .ref c]) dd = some (.dK fkv) := (upd_ne hTd).trans hf1
      refine ⟨T, _, rfl, SqT.of upd_same, rfl, _, _, rfl, _, _, rfl, c, _, rfl, SqT.of hc, rfl, _, _, rfl, _, _, rfl, rfl, rfl, ?_⟩
      have hent := hp.ent i b o h1
      have hnew : getA (((keysF f).take i).map fun b => (b, dist (mvs bs) l b)) b = none := by
        refine getA_none.mpr fun m => ?_
        rw [List.map_map] at m
        obtain ⟨b', hb', e⟩ := List.mem_map.mp m
        obtain ⟨j, hj⟩ := List.getElem?_of_mem hb'
        have hji : j < i := by
          have := (List.getElem?_eq_some_iff.mp hj).1
          rw [List.length_take] at this
          omega
        rw [List.getElem?_take, if_pos hji] at hj
        have e' : b' = b := e
        rw [e'] at hj
        have := (List.getElem?_inj (by have := (List.getElem?_eq_some_iff.mp hj).1; omega) hp.nd).mp (hj.trans hbi.symm)
        omega
      have hK1 : ∀ k : Int, k = (dist (mvs bs) l b : Nat) → KvR kL (fun v (k : Nat) => v = .int k) (putK fkv (kL b) (.int k)) (((keysF f).take (i + 1)).map fun b => (b, dist (mvs bs) l b)) := fun k hk => by
        have := KvR.put (R := fun v (k : Nat) => v = V.int k) kL_inj (a := b) (v := .int k) (b := dist (mvs bs) l b) hf2 (by rw [hk])
        rw [putA_new hnew] at this
        rw [take_some hbi, List.map_append]
        exact this
      have hK2 : ∀ k : Int, valV (putK fkv (kL b) (.int k)) (kL b) = some (.int k) := fun k => (valV_put _ _ _ _).trans (if_pos rfl)
      have hfl : fkv.length < sizeLine := by
        rw [hf2.len, List.length_map, List.length_take]
        show _ < 2 ^ 24
        omega
      have hidx := hp.idx i b hbi
      -- the layer that b comes to
      have hcase : (i = 0 ∧ H2 LL = some (.lst []) ∧ dist (mvs bs) l b = 0) ∨ ∃ pre A last b0, H2 LL = some (.lst (pre ++ [.ref A])) ∧ H A = none ∧ A ≠ dd ∧ A ≠ LL ∧ A ≠ d ∧ TxAt H2 A last ∧ last ≠ [] ∧ last.length ≤ i ∧ pre.length ≤ i ∧ pre.length = dist (mvs bs) l b0 ∧ (∀ b ∈ last, b ∈ keysF f ∧ dist (mvs bs) l b = dist (mvs bs) l b0) ∧ (dist (mvs bs) l b = pre.length ∨ dist (mvs bs) l b = pre.length + 1) := by
        rcases hlay with ⟨h0, hL⟩ | ⟨pre, A, last, b0, g1, g2, g3, g4, g5, g6, g7, g8, g9, g10, g11, g12, g13⟩
        · subst h0
          exact .inl ⟨rfl, hL, by omega⟩
        · refine .inr ⟨pre, A, last, b0, g1, g2, g3, g4, g5, g6, g7, g8, g9, g12, g13, ?_⟩
          have h1 := hp.ord (i - 1) i b0 b (by omega) g11 hbi
          rcases hent with ⟨h0, _⟩ | ⟨_, a, m, _, _, _, ⟨i', h2, h3⟩, h4⟩
          · omega
          · have := hp.ord i' (i - 1) a b0 (by omega) h3 g11
            omega
      have hkb : b ∈ keysF f := List.mem_of_getElem? hbi
      have hval : (x1 = .non ∧ (0 : Int) = (dist (mvs bs) l b : Nat)) ∨ ∃ a, x1 = .str (SX.S a) ∧ valV fkv (kL a) = some (.int (dist (mvs bs) l a : Nat)) ∧ ((dist (mvs bs) l a : Nat) : Int) + 1 = (dist (mvs bs) l b : Nat) := by
        rcases hent with ⟨_, hbl, ho⟩ | ⟨_, a, m, ho, _, _, ⟨i', h2, h3⟩, h4⟩
        · rcases hx12 with ⟨_, hx⟩ | ⟨a, p, ho2, hx⟩
          · refine .inl ⟨hx, ?_⟩
            rw [hbl, dist_self]
            rfl
          · rw [ho] at ho2; cases ho2
        · rcases hx12 with ⟨ho2, hx⟩ | ⟨a2, p, ho2, hx⟩
          · rw [ho] at ho2; cases ho2
          · rw [ho] at ho2
            cases ho2
            refine .inr ⟨a, hx, ?_, by omega⟩
            rcases hf2.find kL_inj a with ⟨_, q2⟩ | ⟨v1, k1', q1, q2, q3⟩
            · refine absurd ?_ (getA_none.mp q2)
              rw [List.map_map]
              refine List.mem_map.mpr ⟨a, ?_, rfl⟩
              rw [List.mem_take_iff_getElem]
              obtain ⟨hb1, hb2⟩ := List.getElem?_eq_some_iff.mp h3
              exact ⟨i', by omega, hb2⟩
            · have := getA_mem q2
              obtain ⟨a', _, e⟩ := List.mem_map.mp this
              obtain ⟨rfl, rfl⟩ := Prod.mk.inj e
              rw [q1, q3]
      have hLT : LL ≠ T := by
        rcases hcase with ⟨_, g1, _⟩ | ⟨pre, A, last, b0, g1, _⟩
        · exact ne_of_none g1 hT
        · exact ne_of_none g1 hT
      have hpre : ∀ o : HO, (dist (mvs bs) l b = 0 ∧ upd (upd H2 T (.tup [kV (kL b), .ref c])) dd o LL = some (.lst [])) ∨ ∃ pre A last, upd (upd H2 T (.tup [kV (kL b), .ref c])) dd o LL = some (.lst (pre ++ [.ref A])) ∧ A ≠ LL ∧ TxAt (upd (upd H2 T (.tup [kV (kL b), .ref c])) dd o) A last ∧ pre.length ≤ 1000 ∧ last.length ≤ 1000 ∧ (dist (mvs bs) l b = pre.length ∨ dist (mvs bs) l b = pre.length + 1) := fun o => by
        rcases hcase with ⟨_, g1, g2⟩ | ⟨pre, A, last, b0, g1, g2, g3, g4, g5, g6, g7, g8, g9, g10, g11, g12⟩
        · exact .inl ⟨g2, (upd_ne hddL.symm).trans ((upd_ne hLT).trans g1)⟩
        · exact .inr ⟨pre, A, last, (upd_ne hddL.symm).trans ((upd_ne hLT).trans g1), g4, (upd_ne g3).trans ((upd_ne (ne_of_none g6 hT)).trans g6), by omega, by omega, g12⟩
      have hfin : ∀ fk, KvR kL (fun v (k : Nat) => v = .int k) fk (((keysF f).take (i + 1)).map fun b => (b, dist (mvs bs) l b)) → ∀ (H5 : Hp) (pre' : List V) (A' : Addr) (last' : List Sd), H5 LL = some (.lst (pre' ++ [.ref A'])) → pre'.length = dist (mvs bs) l b → TxAt H5 A' (last' ++ [b]) → A' ≠ LL →
          (last' = [] ∧ upd (upd H2 T (.tup [kV (kL b), .ref c])) dd (.dK fk) A' = none ∨ ∃ pre, upd (upd H2 T (.tup [kV (kL b), .ref c])) dd (.dK fk) LL = some (.lst (pre ++ [.ref A'])) ∧ TxAt (upd (upd H2 T (.tup [kV (kL b), .ref c])) dd (.dK fk)) A' last' ∧ dist (mvs bs) l b = pre.length) →
          (∀ x o, x ≠ LL → x ≠ A' → upd (upd H2 T (.tup [kV (kL b), .ref c])) dd (.dK fk) x = some o → H5 x = some o) → TK (upd (upd H2 T (.tup [kV (kL b), .ref c])) dd (.dK fk)) H5 →
          Same H H5 ∧ H5 d = some (.frz od (.dK kvs)) ∧ KvR kL (fun v o => Im H5 v (eO o)) kvs f ∧
        (∃ fkv, H5 dd = some (.dK fkv) ∧ KvR kL (fun v (k : Nat) => v = .int k) fkv (((keysF f).take (i + 1)).map fun b => (b, dist (mvs bs) l b))) ∧
        ((i + 1 = 0 ∧ H5 LL = some (.lst [])) ∨ ∃ pre A last b0, H5 LL = some (.lst (pre ++ [.ref A])) ∧ H A = none ∧ A ≠ dd ∧ A ≠ LL ∧ A ≠ d ∧ TxAt H5 A last ∧ last ≠ [] ∧ last.length ≤ i + 1 ∧ pre.length ≤ i + 1 ∧ 0 < i + 1 ∧ (keysF f)[i + 1 - 1]? = some b0 ∧ pre.length = dist (mvs bs) l b0 ∧ ∀ b ∈ last, b ∈ keysF f ∧ dist (mvs bs) l b = dist (mvs bs) l b0) ∧
        ∃ w1 w2 w3, [some v, some (.str (SX.S l)), some (.int 50000), some (.ref dd), some (.ref LL), some (.str (SX.S b)), some x1, some x2] = [some v, some (.str (SX.S l)), some (.int 50000), some (.ref dd), some (.ref LL), w1, w2, w3] := by
        intro fk hfk H5 pre' A' last' q1 q2 q3 q4 q5 q6 q7
        have eH4 : Same H (upd (upd H2 T (.tup [kV (kL b), .ref c])) dd (.dK fk)) := Same.mut (e2.trans e3) hdd
        have hd4 : upd (upd H2 T (.tup [kV (kL b), .ref c])) dd (.dK fk) d = some (.frz od (.dK kvs)) := (upd_ne hddd.symm).trans (e3 _ _ hd2)
        have tk4 : TK (upd H2 T (.tup [kV (kL b), .ref c])) (upd (upd H2 T (.tup [kV (kL b), .ref c])) dd (.dK fk)) := TK.put hf3 (fun _ z => by cases z)
        have hdd4 : upd (upd H2 T (.tup [kV (kL b), .ref c])) dd (.dK fk) dd = some (.dK fk) := upd_same
        have hL4 : ∀ o, H2 LL = some o → upd (upd H2 T (.tup [kV (kL b), .ref c])) dd (.dK fk) LL = some o := fun o ho => (upd_ne hddL.symm).trans ((upd_ne hLT).trans ho)
        have hA4 : ∀ A o, A ≠ dd → H2 A = some o → upd (upd H2 T (.tup [kV (kL b), .ref c])) dd (.dK fk) A = some o := fun A o hA ho => (upd_ne hA).trans ((upd_ne (ne_of_none ho hT)).trans ho)
        generalize upd (upd H2 T (.tup [kV (kL b), .ref c])) dd (.dK fk) = H4 at *
        -- what is known of the layer's place
        obtain ⟨a1, a2, a3, a4⟩ : H A' = none ∧ A' ≠ dd ∧ A' ≠ d ∧ (∀ x ∈ last', x ∈ keysF f ∧ dist (mvs bs) l x = dist (mvs bs) l b) ∧ last'.length ≤ i := by
          rcases q5 with ⟨rfl, hA⟩ | ⟨pre, g1, g2, g3⟩
          · exact ⟨eH4.free hA, (fun z => by rw [z, hdd4] at hA; cases hA), (fun z => by rw [z, hd4] at hA; cases hA), (fun _ m => by cases m), Nat.zero_le _⟩
          · rcases hcase with ⟨_, w1, _⟩ | ⟨pre0, A0, last0, b0, w1, w2, w3, w4, w5, w6, w7, w8, w9, w10, w11, w12⟩
            · rw [hL4 _ w1] at g1
              have := HO.lst.inj (Option.some.inj g1)
              exact absurd this (by simp)
            · rw [hL4 _ w1] at g1
              have := HO.lst.inj (Option.some.inj g1)
              obtain ⟨e1', e2'⟩ := List.append_inj' this rfl
              have e3' : A0 = A' := V.ref.inj (List.cons.inj e2').1
              subst e3'
              have w6' := hA4 _ _ w3 w6
              rw [show H4 A0 = _ from g2] at w6'
              have e4' := HO.lst.inj (Option.some.inj w6')
              have e5' : last' = last0 := by
                have inj : ∀ a b : Sd, V.str (SX.S a) = V.str (SX.S b) → a = b := fun a b h => kL_inj a b (congrArg kS (V.str.inj h))
                exact List.map_inj_right (fun a b h => inj a b h) |>.mp e4'
              subst e5'
              refine ⟨w2, w3, w5, fun x hx => ⟨(w11 x hx).1, ?_⟩, w8⟩
              rw [(w11 x hx).2, ← w10, g3, e1']
        refine ⟨fun x o hx => q6 x o (fun z => by rw [z, hLL0] at hx; cases hx) (fun z => by rw [z, a1] at hx; cases hx) (eH4 x o hx), q6 d _ hLLd.symm a3.symm hd4, ?_, ⟨fk, q6 dd _ hddL a2.symm hdd4, hfk⟩, .inr ⟨pre', A', last' ++ [b], b, q1, a1, a2, q4, a3, q3, by simp, by rw [List.length_append]; show _ + 1 ≤ _; omega, by omega, Nat.succ_pos _, hbi, q2, fun x hx => ?_⟩, _, _, _, rfl⟩
        · exact hk3'.mono fun v o r => (r.by tk4).by q7
        · rcases List.mem_append.mp hx with hx | hx
          · exact a4.1 x hx
          · rw [List.mem_singleton.mp hx]
            exact ⟨hkb, rfl⟩
      obtain ⟨k, hk, hgoal⟩ : ∃ k : Int, k = (dist (mvs bs) l b : Nat) ∧ (x1 = .non ∧ k = 0 ∨ ∃ a, x1 = .str (SX.S a) ∧ valV fkv (kL a) = some (.int (dist (mvs bs) l a : Nat)) ∧ k = ((dist (mvs bs) l a : Nat) : Int) + 1) := by
        rcases hval with ⟨h1, h2⟩ | ⟨a, h1, h2, h3⟩
        · exact ⟨0, h2, .inl ⟨h1, rfl⟩⟩
        · exact ⟨_, h3, .inr ⟨a, h1, h2, rfl⟩⟩
      rcases hgoal with ⟨rfl, rfl⟩ | ⟨a, rfl, hda, rfl⟩
      · refine ⟨_, rfl, rfl, _, rfl, iteT ?_⟩
        refine ⟨_, rfl, _, rfl, dd, _, rfl, DPut.k (k := kL b) hf3 hfl, ?_⟩
        refine lay_tail (k := dist (mvs bs) l b) upd_same ((hK2 _).trans (by rw [hk])) (hpre _) (fun H5 pre' A' last' q1 q2 q3 q4 q5 q6 q7 => hfin _ (hK1 _ hk) H5 pre' A' last' q1 q2 q3 q4 q5 q6 q7)
      · have hDG := DGet.k (k := kL a) hf3
        rw [hda] at hDG
        refine ⟨_, rfl, rfl, _, rfl, iteF ?_⟩
        refine ⟨_, rfl, _, rfl, dd, _, rfl, hDG, _, _, rfl, rfl, _, rfl, _, rfl, dd, _, rfl, DPut.k (k := kL b) hf3 hfl, ?_⟩
        refine lay_tail (k := dist (mvs bs) l b) upd_same ((hK2 _).trans (by rw [hk])) (hpre _) (fun H5 pre' A' last' q1 q2 q3 q4 q5 q6 q7 => hfin _ (hK1 _ hk) H5 pre' A' last' q1 q2 q3 q4 q5 q6 q7)
    · obtain ⟨e2, hd2, hk2, ⟨fkv, hf1, hf2⟩, hlay, w1, w2, w3, rfl⟩ := p
      have hpos : 0 < f.length := by
        obtain ⟨j, hj⟩ := List.getElem?_of_mem ((hp.mem l).mpr ⟨0, rfl⟩)
        have := (List.getElem?_eq_some_iff.mp hj).1
        omega
      rcases hlay with ⟨h0, _⟩ | ⟨pre, A, last, b0, g1, g2, g3, g4, g5, g6, g7, g8, g9, g10, g11, g12, g13⟩
      · omega
      · refine ⟨_, rfl, q LL pre A last _ e2 g1 g6 ⟨g7, fun b hb => ?_⟩⟩
        obtain ⟨m1, m2⟩ := g13 b hb
        refine ⟨(hp.mem b).mp m1, fun c hc => ?_⟩
        rw [m2]
        obtain ⟨j, hj⟩ := List.getElem?_of_mem ((hp.mem c).mpr hc)
        have := (List.getElem?_eq_some_iff.mp hj).1
        exact hp.ord j _ c b0 (by omega) hj g11
end
end Sb
namespace Sb
open PySem PySem.Spec PyProof.Rows L2
section
variable {P : Program} {w : World} {K : PySem.W.Frag} {mg : Str → Option Value} {base : Heap}
def spPressesTo : Sp := fun vs H Q _ => ∃ (d : Addr) (f : Found) (n : Nat) (mv : List Mv) (l g : Sd), vs = [.ref d, .str (SX.S g)] ∧ FAt H d f ∧ Paths mv l f ∧ MvOk n mv ∧ l.length = n ∧ n ≤ 5 ∧
  (¬ Rch mv l g → ∀ H', Same H H' → Q .non H') ∧ (∀ x r H', Same H H' → Rch mv l g → Way mv l r g → r.length = dist mv l g → Im H' x (eR r) → Q x H')
theorem c_presses_to (z : Z K mg) : Cal P w K mg base 1 "presses_to" spPressesTo := by
  have S : FnScope ["paths", "goal", "found", "here"] ["paths", "goal"] (defScope sPressesTo) := ⟨rfl, rfl, rfl, by decide +kernel, rfl, by decide +kernel, by decide +kernel⟩
  refine cal_by z.d_presses_to z.g_presses_to S (fun _ _ _ _ _ _ us hl => match us, hl with | [_, _], _ => rfl) (fun vs H Q E h => ?_) (fun cdv A outer s H vs Q E hr h => ?_)
  · obtain ⟨d, f, n, mv, l, g, rfl, _⟩ := h
    rfl
  · obtain ⟨d, f, n, mv, l, g, rfl, hF, hp, hm, hl, h5, qn, q⟩ := h
    refine ⟨_, pss_cons (ps_if (pt_cmp (pc_dnotin (hu_of hr) (pv 1) (pv 0)))
      (pss_one (ps_ret pe_non))
      pss_nil)
    (pss_cons (ps_par (i := 2) (j := 3) (by rfl) S.nd rfl rfl (by decide) rfl rfl (pa_cons (pe_lst pa_nil) (pa_cons (pv 1) pa_nil)) (by rfl))
    (pss_cons (ps_while PassesOwn.never (pt_cmpR op_notN (pe_ix ix_tup (pe_dget (hu_of hr) (pv 0) (pv 3) (fun _ _ => rfl)) pe_int (fun _ _ => rfl)) pe_non (nomark _))
      (pss_cons (ps_expr (pe_bm PySem.F.plainAttrs_list PySem.F.slot_list_append PySem.F.type_list_append mt_append (pv 2) (pa_cons (pe_ix ix_tup (pe_dget (hu_of hr) (pv 0) (pv 3) (fun _ _ => rfl)) pe_int (fun _ _ => rfl)) pa_nil)))
      (pss_one (ps_set (i := 3) S.nd rfl (Or.inl rfl) (pe_ix ix_tup (pe_dget (hu_of hr) (pv 0) (pv 3) (fun _ _ => rfl)) pe_int (fun _ _ => rfl))))))
    (pss_one (ps_ret (pe_callTy call_tuple_of (by rfl) z.b_tuple boot_tuple (pa_cons (pe_revL (pv 2)) pa_nil)))))), ?_⟩
    obtain ⟨kvs, k1, k2⟩ := hF
    refine ⟨_, rfl, _, rfl, d, _, rfl, DGet.k (k := kL g) k1, _, rfl, ?_⟩
    rw [FAt.find k2]
    by_cases hr : Rch mv l g
    case neg =>
      rw [decide_eq_false fun z => hr ((hp.mem g).mp z)]
      exact iteT (qn hr H (Same.refl H))
    rw [decide_eq_true ((hp.mem g).mpr hr)]
    refine iteF ⟨by decide, fun F hF => ⟨_, rfl, _, _, rfl, ?_⟩⟩
    have e0 := Same.new (o := HO.lst []) hF
    have h120 := hp.dist_lt hm hl h5 hr
    refine ⟨fun m σ H2 => ∃ (b : Sd) (r : Row) (xs : List V), Rch mv l b ∧ Way mv b r g ∧ r.length + dist mv l b = dist mv l g ∧ m = dist mv l b ∧ Same H H2 ∧ H2 F = some (.lst xs) ∧ Ims H2 xs (r.reverse.map eP) ∧ σ = [some (.ref d), some (.str (SX.S g)), some (.ref F), some (.str (SX.S b))], ⟨dist mv l g, g, [], [], hr, .nil g, by simp, rfl, e0, upd_same, .nil, rfl⟩, ?_⟩
    rintro m σ H2 ⟨b, r, xs, hb, hw, hlen, rfl, e1, hF1, hxs, rfl⟩
    have k1' := e1 _ _ k1
    obtain ⟨v, o, g1, g2, g3⟩ : ∃ v o, valV kvs (kL b) = some v ∧ getA f b = some o ∧ Im H2 v (eO o) := by
      rcases k2.find kL_inj b with ⟨_, h2⟩ | ⟨v, o, h1, h2, h3⟩
      · exact absurd ((hp.mem b).mpr hb) (getA_none.mp h2)
      · exact ⟨v, o, h1, h2, h3.on e1⟩
    have hDG := DGet.k (k := kL b) k1'
    rw [g1] at hDG
    obtain ⟨i, hi⟩ := List.getElem?_of_mem (getA_mem g2)
    have hent := hp.ent i b o hi
    have hxl := hxs.mlen
    rw [List.length_reverse] at hxl
    rcases hent with ⟨_, hbl, rfl⟩ | ⟨_, a, mo, rfl, hmo, hled, ⟨i', _, hi'⟩, hdist⟩
    · obtain ⟨c, ys, rfl, hc, hys⟩ := g3.tupE
      obtain ⟨x1, x2, rfl, q1, q2⟩ := hys.twoE
      cases q1
      refine ⟨_, rfl, _, rfl, d, _, rfl, hDG, c, _, _, _, rfl, rfl, SqT.of hc, rfl, rfl, _, rfl, ?_⟩
      refine iteF ⟨_, rfl, F, _, rfl, SqL.of hF1, fun R hR => ⟨R, _, rfl, .inl ⟨SqL.of upd_same, fun T hT => ?_⟩⟩⟩
      have e3 := (Same.new (o := HO.lst xs.reverse) hR).trans (Same.new (o := HO.tup xs.reverse) hT)
      refine q _ r _ (e1.trans e3) hr (hbl ▸ hw) ?_ (.tup upd_same ?_)
      · rw [hbl, dist_self] at hlen
        omega
      · have := (hxs.on e3).rev
        rw [← List.map_reverse, List.reverse_reverse] at this
        exact this
    · have ha : Rch mv l a := (hp.mem a).mp (List.mem_of_getElem? hi')
      obtain ⟨c, ys, rfl, hc, hys⟩ := g3.tupE
      obtain ⟨x1, x2, rfl, q1, q2⟩ := hys.twoE
      cases q1
      refine ⟨_, rfl, _, rfl, d, _, rfl, hDG, c, _, _, _, rfl, rfl, SqT.of hc, rfl, rfl, _, rfl, ?_⟩
      refine iteT ⟨_, fun σ' H' w => ⟨dist mv l a, by omega, w⟩, ?_⟩
      refine ⟨_, rfl, .inl ⟨rfl, _, SqL.of hF1⟩, _, rfl, _, rfl, d, _, rfl, hDG, c, _, _, _, rfl, rfl, SqT.of hc, rfl, F, _, _, rfl, rfl, hF1, by show _ < 2 ^ 24; omega, ?_⟩
      have hFd : d ≠ F := ne_of k1' hF1 (by intro z; cases z)
      have hcF : c ≠ F := ne_of hc hF1 (by intro z; cases z)
      have k3 : upd H2 F (.lst (xs ++ [x2])) d = some (.dK kvs) := (upd_ne hFd).trans k1'
      have hDG2 := DGet.k (k := kL b) k3
      rw [g1] at hDG2
      refine ⟨_, rfl, _, rfl, d, _, rfl, hDG2, c, _, _, _, rfl, rfl, SqT.of ((upd_ne hcF).trans hc), rfl, ?_⟩
      refine ⟨a, mo.1 :: r, _, ha, .cons hmo (by rw [hled]; exact hw), by rw [List.length_cons]; omega, rfl, Same.mut e1 hF, upd_same, ?_, rfl⟩
      rw [List.reverse_cons]
      have tk := TK.put (o := .lst (xs ++ [x2])) hF1 (fun _ z => by cases z)
      exact Ims.snocM (hxs.by tk) (q2.by tk)
def spCheckStood (K : PySem.W.Frag) : Sp := fun vs H Q _ => ∃ (v : V) (n : Nat) (bs : List Btn) (l : Sd), vs = [v, .str (SX.S l)] ∧ Few K H v n bs ∧ StOk n l ∧ ∀ H', Same H H' → Q .non H'
theorem c_check_stood (z : Z K mg) : Cal P w K mg base 3 "check_stood" (spCheckStood K) := by
  have S : FnScope ["board", "standing"] ["board", "standing"] (defScope sCheckStood) := ⟨rfl, rfl, rfl, by decide +kernel, rfl, by decide +kernel, by decide +kernel⟩
  refine cal_by z.d_check_stood z.g_check_stood S (fun _ _ _ _ _ _ us hl => match us, hl with | [_, _], _ => rfl) (fun vs H Q E h => ?_) (fun cdv A outer s H vs Q E hr h => ?_)
  · obtain ⟨v, n, bs, l, rfl, _⟩ := h
    rfl
  · obtain ⟨v, n, bs, l, rfl, hf, hl, q⟩ := h
    refine ⟨_, pss_cons (ps_expr (pe_f (c_check_board z) hr (by decide) rfl (pa_cons (pv 0) pa_nil)))
    (pss_one (ps_expr (pe_f (c_check_standing z) hr (by decide) rfl (pa_cons (pv 0) (pa_cons (pv 1) pa_nil))))), ?_⟩
    have h5 := hf.2.2
    exact ⟨_, rfl, v, n, bs, rfl, hf.1, _, rfl, _, rfl, v, n, bs, l, rfl, hf.1, by omega, hl, fun H1 e1 => q H1 e1⟩
def spCheckBoth (K : PySem.W.Frag) : Sp := fun vs H Q _ => ∃ (v : V) (n : Nat) (bs : List Btn) (l y : Sd), vs = [v, .str (SX.S l), .str (SX.S y)] ∧ Few K H v n bs ∧ StOk n l ∧ StOk n y ∧ ∀ H', Same H H' → Q .non H'
theorem c_check_both (z : Z K mg) : Cal P w K mg base 4 "check_both" (spCheckBoth K) := by
  have S : FnScope ["board", "one", "other"] ["board", "one", "other"] (defScope sCheckBoth) := ⟨rfl, rfl, rfl, by decide +kernel, rfl, by decide +kernel, by decide +kernel⟩
  refine cal_by z.d_check_both z.g_check_both S (fun _ _ _ _ _ _ us hl => match us, hl with | [_, _, _], _ => rfl) (fun vs H Q E h => ?_) (fun cdv A outer s H vs Q E hr h => ?_)
  · obtain ⟨v, n, bs, l, y, rfl, _⟩ := h
    rfl
  · obtain ⟨v, n, bs, l, y, rfl, hf, hl, hy, q⟩ := h
    refine ⟨_, pss_cons (ps_expr (pe_f (c_check_stood z) hr (by decide) rfl (pa_cons (pv 0) (pa_cons (pv 1) pa_nil))))
    (pss_one (ps_expr (pe_f (c_check_standing z) hr (by decide) rfl (pa_cons (pv 0) (pa_cons (pv 2) pa_nil))))), ?_⟩
    have h5 := hf.2.2
    exact ⟨_, rfl, _, rfl, v, n, bs, l, rfl, hf, hl, fun H1 e1 => ⟨_, rfl, _, rfl, v, n, bs, y, rfl, hf.1.on e1, by omega, hy, fun H2 e2 => q H2 (e1.trans e2)⟩⟩
def spCount (K : PySem.W.Frag) : Sp := fun vs H Q _ => ∃ (v : V) (n : Nat) (bs : List Btn) (l : Sd), vs = [v, .str (SX.S l)] ∧ Few K H v n bs ∧ StOk n l ∧ ∀ f H', Same H H' → Paths (mvs bs) l f → Q (.int f.length) H'
theorem c_count_reached (z : Z K mg) : Cal P w K mg base 4 "count_reached" (spCount K) := by
  have S : FnScope ["board", "standing"] ["board", "standing"] (defScope sCountReached) := ⟨rfl, rfl, rfl, by decide +kernel, rfl, by decide +kernel, by decide +kernel⟩
  refine cal_by z.d_count_reached z.g_count_reached S (fun _ _ _ _ _ _ us hl => match us, hl with | [_, _], _ => rfl) (fun vs H Q E h => ?_) (fun cdv A outer s H vs Q E hr h => ?_)
  · obtain ⟨v, n, bs, l, rfl, _⟩ := h
    rfl
  · obtain ⟨v, n, bs, l, rfl, hf, hl, q⟩ := h
    refine ⟨_, pss_cons (ps_expr (pe_f (c_check_stood z) hr (by decide) rfl (pa_cons (pv 0) (pa_cons (pv 1) pa_nil))))
    (pss_one (ps_ret (pe_callB call_lenD (by rfl) z.b_len boot_len (pa_cons (pe_f (c_paths_from z) hr (by decide) rfl (pa_cons (pv 0) (pa_cons (pv 1) (pa_cons (C8.pe_gc (by rfl) z.c_MOST_REACHED) pa_nil)))) pa_nil)))), ?_⟩
    refine ⟨_, rfl, _, rfl, v, n, bs, l, rfl, hf, hl, fun H1 e1 => ?_⟩
    refine ⟨_, rfl, _, rfl, v, n, bs, l, rfl, hf.on e1, hl, fun d f H2 e2 _ hF hp => ?_⟩
    obtain ⟨kvs, k1, k2⟩ := hF
    refine ⟨d, kvs, rfl, k1, ?_⟩
    rw [k2.len]
    exact q f _ (e1.trans e2) hp
/-- all that is reached, sorted -/
def Sorted (mv : List Mv) (l : Sd) (ys : List Str) : Prop := ∃ f, Paths mv l f ∧ ys.Perm ((keysF f).map SX.S) ∧ UpS ys
def spAll (K : PySem.W.Frag) : Sp := fun vs H Q _ => ∃ (v : V) (n : Nat) (bs : List Btn) (l : Sd), vs = [v, .str (SX.S l)] ∧ Few K H v n bs ∧ StOk n l ∧ ∀ x ys H', Same H H' → Sorted (mvs bs) l ys → Im H' x (eNs ys) → Q x H'
theorem ims_strs {H : Hp} : ∀ ss : List Str, Ims H (ss.map V.str) (ss.map .str)
  | [] => .nil
  | s :: ss => .cons (.str s) (ims_strs ss)
theorem c_all_reached (z : Z K mg) : Cal P w K mg base 4 "all_reached" (spAll K) := by
  have S : FnScope ["board", "standing"] ["board", "standing"] (defScope sAllReached) := ⟨rfl, rfl, rfl, by decide +kernel, rfl, by decide +kernel, by decide +kernel⟩
  refine cal_by z.d_all_reached z.g_all_reached S (fun _ _ _ _ _ _ us hl => match us, hl with | [_, _], _ => rfl) (fun vs H Q E h => ?_) (fun cdv A outer s H vs Q E hr h => ?_)
  · obtain ⟨v, n, bs, l, rfl, _⟩ := h
    rfl
  · obtain ⟨v, n, bs, l, rfl, hf, hl, q⟩ := h
    refine ⟨_, pss_cons (ps_expr (pe_f (c_check_stood z) hr (by decide) rfl (pa_cons (pv 0) (pa_cons (pv 1) pa_nil))))
    (pss_one (ps_ret (pe_callTy call_tuple_of (by rfl) z.b_tuple boot_tuple (pa_cons (pe_callB (cr_sortD rfl) (by rfl) z.b_sorted boot_sorted (pa_cons (pe_f (c_paths_from z) hr (by decide) rfl (pa_cons (pv 0) (pa_cons (pv 1) (pa_cons (C8.pe_gc (by rfl) z.c_MOST_REACHED) pa_nil)))) pa_nil)) pa_nil)))), ?_⟩
    refine ⟨_, rfl, _, rfl, v, n, bs, l, rfl, hf, hl, fun H1 e1 => ?_⟩
    refine ⟨_, rfl, _, rfl, v, n, bs, l, rfl, hf.on e1, hl, fun d f H2 e2 _ hF hp => ?_⟩
    obtain ⟨kvs, k1, k2⟩ := hF
    refine ⟨d, kvs, (keysF f).map SX.S, rfl, .inl k1, ?_, fun ys p h1 h2 h3 => ⟨p, _, rfl, .inl ⟨SqL.of upd_same, fun T hT => ?_⟩⟩⟩
    · exact k2.keys.trans (List.map_map (l := keysF f) (f := SX.S) (g := (Sum.inr : Str → Key))).symm
    · exact q _ ys _ ((e1.trans e2).trans ((Same.new h3).trans (Same.new hT))) ⟨f, hp, h1, h2⟩ (.tup upd_same (ims_strs ys))
def spLeast (K : PySem.W.Frag) : Sp := fun vs H Q _ => ∃ (v : V) (n : Nat) (bs : List Btn) (l : Sd), vs = [v, .str (SX.S l)] ∧ Few K H v n bs ∧ StOk n l ∧ ∀ x ys H', Same H H' → Sorted (mvs bs) l (x :: ys) → Q (.str x) H'
theorem c_least (z : Z K mg) : Cal P w K mg base 5 "least" (spLeast K) := by
  have S : FnScope ["board", "standing"] ["board", "standing"] (defScope sLeast) := ⟨rfl, rfl, rfl, by decide +kernel, rfl, by decide +kernel, by decide +kernel⟩
  refine cal_by z.d_least z.g_least S (fun _ _ _ _ _ _ us hl => match us, hl with | [_, _], _ => rfl) (fun vs H Q E h => ?_) (fun cdv A outer s H vs Q E hr h => ?_)
  · obtain ⟨v, n, bs, l, rfl, _⟩ := h
    rfl
  · obtain ⟨v, n, bs, l, rfl, hf, hl, q⟩ := h
    refine ⟨_, pss_one (ps_ret (pe_ix ix_tup (pe_f (c_all_reached z) hr (by decide) rfl (pa_cons (pv 0) (pa_cons (pv 1) pa_nil))) pe_int (fun _ _ => rfl))), ?_⟩
    refine ⟨_, rfl, _, rfl, v, n, bs, l, rfl, hf, hl, fun x ys H1 e1 hs hx => ?_⟩
    obtain ⟨a, xs, rfl, ha, hxs⟩ := hx.tupE
    rw [hxs.strs] at ha
    cases ys with
    | nil =>
      obtain ⟨f, hp, h1, _⟩ := hs
      have : SX.S l ∈ (keysF f).map SX.S := List.mem_map.mpr ⟨l, (hp.mem l).mpr ⟨0, rfl⟩, rfl⟩
      exact absurd (h1.mem_iff.mpr this) (by simp)
    | cons y ys => exact ⟨a, _, _, V.str y, rfl, rfl, SqT.of ha, atI_nat (j := 0) rfl, q y ys _ e1 hs⟩
def spGoes (K : PySem.W.Frag) : Sp := fun vs H Q _ => ∃ (v : V) (n : Nat) (bs : List Btn) (l y : Sd), vs = [v, .str (SX.S l), .str (SX.S y)] ∧ Few K H v n bs ∧ StOk n l ∧ StOk n y ∧ ∀ (b : Bool) H', Same H H' → (b = true ↔ Rch (mvs bs) l y) → Q (.bl b) H'
theorem c_goes (z : Z K mg) : Cal P w K mg base 5 "goes" (spGoes K) := by
  have S : FnScope ["board", "one", "other"] ["board", "one", "other"] (defScope sGoes) := ⟨rfl, rfl, rfl, by decide +kernel, rfl, by decide +kernel, by decide +kernel⟩
  refine cal_by z.d_goes z.g_goes S (fun _ _ _ _ _ _ us hl => match us, hl with | [_, _, _], _ => rfl) (fun vs H Q E h => ?_) (fun cdv A outer s H vs Q E hr h => ?_)
  · obtain ⟨v, n, bs, l, y, rfl, _⟩ := h
    rfl
  · obtain ⟨v, n, bs, l, y, rfl, hf, hl, hy, q⟩ := h
    refine ⟨_, pss_cons (ps_expr (pe_f (c_check_both z) hr (by decide) rfl (pa_cons (pv 0) (pa_cons (pv 1) (pa_cons (pv 2) pa_nil)))))
    (pss_one (ps_ret (pe_cmp (pc_din (hu_of hr) (pv 2) (pe_f (c_paths_from z) hr (by decide) rfl (pa_cons (pv 0) (pa_cons (pv 1) (pa_cons (C8.pe_gc (by rfl) z.c_MOST_REACHED) pa_nil)))))))), ?_⟩
    refine ⟨_, rfl, _, rfl, _, rfl, v, n, bs, l, y, rfl, hf, hl, hy, fun H1 e1 => ?_⟩
    refine ⟨_, rfl, _, rfl, _, rfl, v, n, bs, l, rfl, hf.on e1, hl, fun d f H2 e2 _ hF hp => ?_⟩
    obtain ⟨kvs, k1, k2⟩ := hF
    refine ⟨d, _, rfl, DGet.k (k := kL y) k1, ?_⟩
    rw [FAt.find k2]
    exact q _ _ (e1.trans e2) (by rw [decide_eq_true_eq, hp.mem])
def spRowFor (K : PySem.W.Frag) : Sp := fun vs H Q _ => ∃ (v : V) (n : Nat) (bs : List Btn) (l y : Sd), vs = [v, .str (SX.S l), .str (SX.S y)] ∧ Few K H v n bs ∧ StOk n l ∧ StOk n y ∧
  (¬ Rch (mvs bs) l y → ∀ H', Same H H' → Q .non H') ∧ (∀ a r H', Same H H' → Rch (mvs bs) l y → Way (mvs bs) l r y → r.length = dist (mvs bs) l y → r.length ≤ 120 → Im H' (.ref a) (eR r) → Q (.ref a) H')
theorem c_row_for (z : Z K mg) : Cal P w K mg base 5 "row_for" (spRowFor K) := by
  have S : FnScope ["board", "one", "other"] ["board", "one", "other"] (defScope sRowFor) := ⟨rfl, rfl, rfl, by decide +kernel, rfl, by decide +kernel, by decide +kernel⟩
  refine cal_by z.d_row_for z.g_row_for S (fun _ _ _ _ _ _ us hl => match us, hl with | [_, _, _], _ => rfl) (fun vs H Q E h => ?_) (fun cdv A outer s H vs Q E hr h => ?_)
  · obtain ⟨v, n, bs, l, y, rfl, _⟩ := h
    rfl
  · obtain ⟨v, n, bs, l, y, rfl, hf, hl, hy, qn, q⟩ := h
    refine ⟨_, pss_cons (ps_expr (pe_f (c_check_both z) hr (by decide) rfl (pa_cons (pv 0) (pa_cons (pv 1) (pa_cons (pv 2) pa_nil)))))
    (pss_one (ps_ret (pe_f (c_presses_to z) hr (by decide) rfl (pa_cons (pe_f (c_paths_from z) hr (by decide) rfl (pa_cons (pv 0) (pa_cons (pv 1) (pa_cons (C8.pe_gc (by rfl) z.c_MOST_REACHED) pa_nil)))) (pa_cons (pv 2) pa_nil))))), ?_⟩
    refine ⟨_, rfl, _, rfl, _, rfl, v, n, bs, l, y, rfl, hf, hl, hy, fun H1 e1 => ?_⟩
    refine ⟨_, rfl, _, rfl, v, n, bs, l, rfl, hf.on e1, hl, fun d f H2 e2 _ hF hp => ?_⟩
    have hm := mvs_ok (hf.2.1.bts hf.2.2)
    refine ⟨_, rfl, d, f, n, mvs bs, l, y, rfl, hF, hp, hm, hl.1, hf.2.2, fun hn H3 e3 => qn hn H3 ((e1.trans e2).trans e3), fun x r H3 e3 hr hw hd hx => ?_⟩
    obtain ⟨a, xs, rfl, _⟩ := hx.tupE
    exact q a r H3 ((e1.trans e2).trans e3) hr hw hd (by rw [hd]; exact hp.dist_lt hm hl.1 hf.2.2 hr) hx
theorem c_row_between (z : Z K mg) : Cal P w K mg base 6 "row_between" (spRowFor K) := by
  have S : FnScope ["board", "one", "other", "row"] ["board", "one", "other"] (defScope sRowBetween) := ⟨rfl, rfl, rfl, by decide +kernel, rfl, by decide +kernel, by decide +kernel⟩
  refine cal_by z.d_row_between z.g_row_between S (fun _ _ _ _ _ _ us hl => match us, hl with | [_, _, _], _ => rfl) (fun vs H Q E h => ?_) (fun cdv A outer s H vs Q E hr h => ?_)
  · obtain ⟨v, n, bs, l, y, rfl, _⟩ := h
    rfl
  · obtain ⟨v, n, bs, l, y, rfl, hf, hl, hy, qn, q⟩ := h
    refine ⟨_, pss_cons (ps_set (i := 3) S.nd rfl (Or.inl rfl) (pe_f (c_row_for z) hr (by decide) rfl (pa_cons (pv 0) (pa_cons (pv 1) (pa_cons (pv 2) pa_nil)))))
    (pss_cons (ps_if (PW.pt (pw_and (pt_cmpR op_notN (pv 3) pe_non (nomark _)) (pw_and1 (pt_cmpR op_gt (pe_callB call_len_seq (by rfl) z.b_len boot_len (pa_cons (pv 3) pa_nil)) (C8.pe_gc (by rfl) z.c_MOST_PRESSES) (nomark _)))))
      pss_never
      pss_nil)
    (pss_one (ps_ret (pv 3)))), ?_⟩
    refine ⟨_, rfl, _, rfl, _, rfl, v, n, bs, l, y, rfl, hf, hl, hy, fun hn H1 e1 => ?_, fun a r H1 e1 hr hw hd h120 hx => ?_⟩
    · exact ⟨_, rfl, rfl, _, rfl, iteF (iteF ⟨_, rfl, qn hn H1 e1⟩)⟩
    · have hx' := hx
      obtain ⟨a', xs, e, ha, hxs⟩ := hx'.tupE
      cases e
      have hlen := hxs.mlen
      refine ⟨_, rfl, rfl, _, rfl, iteT ⟨_, rfl, a, _, rfl, .inr (SqT.of ha), _, _, rfl, rfl, _, rfl, ?_⟩⟩
      rw [decide_eq_false (by omega)]
      exact iteF ⟨_, rfl, q a r H1 e1 hr hw hd h120 hx⟩
def spBetween (K : PySem.W.Frag) : Sp := fun vs H Q _ => ∃ (v : V) (n : Nat) (bs : List Btn) (l y : Sd), vs = [v, .str (SX.S l), .str (SX.S y)] ∧ Few K H v n bs ∧ StOk n l ∧ StOk n y ∧ Rch (mvs bs) l y ∧ ∀ H', Same H H' → Q (.int (dist (mvs bs) l y : Nat)) H'
theorem c_presses_between (z : Z K mg) : Cal P w K mg base 6 "presses_between" (spBetween K) := by
  have S : FnScope ["board", "one", "other", "row"] ["board", "one", "other"] (defScope sPressesBetween) := ⟨rfl, rfl, rfl, by decide +kernel, rfl, by decide +kernel, by decide +kernel⟩
  refine cal_by z.d_presses_between z.g_presses_between S (fun _ _ _ _ _ _ us hl => match us, hl with | [_, _, _], _ => rfl) (fun vs H Q E h => ?_) (fun cdv A outer s H vs Q E hr h => ?_)
  · obtain ⟨v, n, bs, l, y, rfl, _⟩ := h
    rfl
  · obtain ⟨v, n, bs, l, y, rfl, hf, hl, hy, hrc, q⟩ := h
    refine ⟨_, pss_cons (ps_set (i := 3) S.nd rfl (Or.inl rfl) (pe_f (c_row_for z) hr (by decide) rfl (pa_cons (pv 0) (pa_cons (pv 1) (pa_cons (pv 2) pa_nil)))))
    (pss_one (ps_ret (pe_ifExp (pt_cmpR op_isN (pv 3) pe_non (nomark _)) pe_non (pe_callB call_len_seq (by rfl) z.b_len boot_len (pa_cons (pv 3) pa_nil))))), ?_⟩
    refine ⟨_, rfl, _, rfl, _, rfl, v, n, bs, l, y, rfl, hf, hl, hy, fun hn => absurd hrc hn, fun a r H1 e1 hr hw hd h120 hx => ?_⟩
    obtain ⟨a', xs, e, ha, hxs⟩ := hx.tupE
    cases e
    have hlen := hxs.mlen
    refine ⟨_, rfl, rfl, _, rfl, iteF ⟨_, rfl, a, _, rfl, .inr (SqT.of ha), ?_⟩⟩
    rw [hlen, hd]
    exact q H1 e1
def spFarthest (K : PySem.W.Frag) : Sp := fun vs H Q _ => ∃ (v : V) (n : Nat) (bs : List Btn) (l : Sd), vs = [v, .str (SX.S l)] ∧ Few K H v n bs ∧ StOk n l ∧ ∀ x (b : Sd) ys H', Same H H' → Rch (mvs bs) l b → (∀ c, Rch (mvs bs) l c → dist (mvs bs) l c ≤ dist (mvs bs) l b) → Im H' x (eNs (SX.S b :: ys)) → Q x H'
theorem c_farthest_standings (z : Z K mg) : Cal P w K mg base 5 "farthest_standings" (spFarthest K) := by
  have S : FnScope ["board", "one"] ["board", "one"] (defScope sFarthestStandings) := ⟨rfl, rfl, rfl, by decide +kernel, rfl, by decide +kernel, by decide +kernel⟩
  refine cal_by z.d_farthest_standings z.g_farthest_standings S (fun _ _ _ _ _ _ us hl => match us, hl with | [_, _], _ => rfl) (fun vs H Q E h => ?_) (fun cdv A outer s H vs Q E hr h => ?_)
  · obtain ⟨v, n, bs, l, rfl, _⟩ := h
    rfl
  · obtain ⟨v, n, bs, l, rfl, hf, hl, q⟩ := h
    refine ⟨_, pss_cons (ps_expr (pe_f (c_check_board z) hr (by decide) rfl (pa_cons (pv 0) pa_nil)))
    (pss_cons (ps_expr (pe_f (c_check_standing z) hr (by decide) rfl (pa_cons (pv 0) (pa_cons (pv 1) pa_nil))))
    (pss_one (ps_ret (pe_callTy call_tuple_of (by rfl) z.b_tuple boot_tuple (pa_cons (pe_callB cr_sortLS (by rfl) z.b_sorted boot_sorted (pa_cons (pe_ix ix_list (pe_f (c_layers_from z) hr (by decide) rfl (pa_cons (pv 0) (pa_cons (pv 1) (pa_cons (C8.pe_gc (by rfl) z.c_MOST_REACHED) pa_nil)))) (pe_un un_neg pe_int) (fun _ _ => rfl)) pa_nil)) pa_nil))))), ?_⟩
    have h5 := hf.2.2
    refine ⟨_, rfl, v, n, bs, rfl, hf.1, _, rfl, _, rfl, v, n, bs, l, rfl, hf.1, by omega, hl, fun H1 e1 => ?_⟩
    refine ⟨_, rfl, _, rfl, v, n, bs, l, rfl, hf.on e1, hl, fun L pre A last H2 e2 hL hA hfar => ?_⟩
    refine ⟨_, rfl, L, _, _, _, rfl, rfl, SqL.of hL, atI_last pre (.ref A), A, last.map SX.S, rfl, ?_, fun ys p h1 h2 h3 => ⟨p, _, rfl, .inl ⟨SqL.of upd_same, fun T hT => ?_⟩⟩⟩
    · have : (last.map SX.S).map V.str = last.map fun l => V.str (SX.S l) := by rw [List.map_map]; rfl
      rw [this]
      exact SqL.of hA
    · cases ys with
      | nil =>
        have := h1.length_eq
        rw [List.length_map] at this
        exact absurd (List.length_eq_zero_iff.mp this.symm) hfar.1
      | cons y ys =>
        obtain ⟨b, hb, rfl⟩ := List.mem_map.mp (h1.mem_iff.mp (List.mem_cons_self ..))
        obtain ⟨f1, f2⟩ := hfar.2 b hb
        exact q _ b ys _ ((e1.trans e2).trans ((Same.new h3).trans (Same.new hT))) f1 f2 (.tup upd_same (ims_strs _))
end
end Sb
namespace Sb
abbrev Lvl := List (Nat × Option Nat)
abbrev Wt := List (Nat × Nat × Nat)
structure Tw where
  steps : Nat
  faces : List Trn
  levels : List Lvl
  strong : List (Nat × Nat)
  backward : List (Nat × Nat)
  backs : List (Nat × Trn)
def fac (s : Tw) (k : Nat) : Trn := s.faces.getD k []
def lvl (s : Tw) (l : Nat) : Lvl := s.levels.getD l []
def bkOf (s : Tw) (k : Nat) : Trn := (getA s.backs k).getD []
def keysL (l : Lvl) : List Nat := l.map (·.1)
def fce (n : Nat) (s : Tw) : Option Nat → Trn
  | none => List.range n
  | some k => fac s k
def addF (s : Tw) (t : Trn) : Tw := { s with steps := s.steps + 1, faces := s.faces ++ [t] }
def leadF (s : Tw) (l g k : Nat) : Tw := { s with levels := s.levels.set l (putA (lvl s l) g (some k)), backs := putA s.backs k (bck (fac s k)) }
def backF (s : Tw) (k : Nat) : Nat × Tw :=
  match getA s.backward k with
  | some b => (b, s)
  | none => (s.steps, { addF s (bck (fac s k)) with backward := s.backward ++ [(k, s.steps)] })
def tdGo (s : Tw) : Nat → Nat → Trn → List Nat → Nat × List Nat
  | 0, l, _, ps => (l, ps)
  | f + 1, l, t, ps =>
    match getA (lvl s l) (gt t l) with
    | none => (l, ps)
    | some none => tdGo s f (l + 1) t ps
    | some (some k) => tdGo s f (l + 1) (aft t (bkOf s k)) (ps ++ [k])
def td (n : Nat) (s : Tw) (t : Trn) (start : Nat) : Nat × List Nat := tdGo s (n - start) start t []
def useStep (x : Tw × Trn × Nat) (u : Nat) : Tw × Trn × Nat :=
  let b := backF x.1 u
  let t := aft x.2.1 (fac b.2 b.1)
  (addF b.2 t, t, b.2.steps)
def useGo (s : Tw) (t : Trn) (k : Nat) (ps : List Nat) : Tw × Trn × Nat := ps.foldl useStep (s, t, k)
def items (s : Tw) (l k : Nat) : Wt := (lvl s l).map fun e => (l, e.1, k)
def putS (s : Tw) (w : Wt) (l k : Nat) : Tw × Wt := ({ s with strong := s.strong ++ [(l, k)] }, w ++ (List.range (l + 1)).flatMap fun lo => items s lo k)
def siftM (n : Nat) (s : Tw) (w : Wt) (k start : Nat) : Tw × Wt :=
  let r := td n s (fac s k) start
  if r.1 = n then (s, w) else
    let u := useGo s (fac s k) k r.2
    putS u.1 w r.1 u.2.2
def pushed (s : Tw) (l g : Nat) : Wt := (s.strong.filter fun e => decide (l ≤ e.1)).map fun e => (l, g, e.2)
def workM (n : Nat) (s : Tw) (w : Wt) (x : Nat × Nat × Nat) : Tw × Wt :=
  let first := (getA (lvl s x.1) x.2.1).getD none
  let turn := aft (fce n s first) (fac s x.2.2)
  let goal := gt turn x.1
  if goal ∈ keysL (lvl s x.1) then
    match first with
    | none => siftM n s w x.2.2 x.1
    | some f => if (td n s turn x.1).1 < n then siftM n (addF s turn) w s.steps x.1 else (s, w)
  else
    match first with
    | none => (leadF s x.1 goal x.2.2, w ++ pushed s x.1 goal)
    | some f => (leadF (addF s turn) x.1 goal s.steps, w ++ pushed s x.1 goal)
def loopM (n : Nat) : Nat → Tw × Wt → Tw × Wt
  | 0, x => x
  | f + 1, x =>
    match x.2.getLast? with
    | none => x
    | some i => loopM n f (workM n x.1 x.2.dropLast i)
def pairM (n : Nat) (s : Tw) (t : Trn) : Tw := (loopM n 10000 (siftM n (addF s t) [] s.steps 0)).1
def tw0 (n : Nat) : Tw := ⟨0, [], (List.range n).map fun p => [(p, none)], [], [], []⟩
def grownM (n : Nat) (ts : List Trn) : Tw := ts.foldl (pairM n) (tw0 n)
def sizeM (s : Tw) : Nat := (s.levels.map List.length).foldl (· * ·) 1
end Sb
namespace Sb
open PySem PySem.Spec PyProof.Rows L2
structure Ad where
  a : Addr
  aL : Addr
  aS : Addr
  aF : Addr
  aV : Addr
  aG : Addr
  aB : Addr
  aK : Addr
  aW : Addr
  dx : Addr
  as : List Addr
def Ad.fix (d : Ad) : List Addr := [d.a, d.aL, d.aS, d.aF, d.aV, d.aG, d.aB, d.aK, d.aW]
def Ad.all (d : Ad) : List Addr := d.fix ++ d.as
def Ad.fs (d : Ad) : List (Str × V) := [("line", .ref d.aL), ("steps", .ref d.aS), ("faces", .ref d.aF), ("levels", .ref d.aV), ("strong", .ref d.aG), ("backward", .ref d.aB), ("backs", .ref d.aK)]
def e2 (p : Nat × Nat) : PyData := .tuple [.int (p.1 : Nat), .int (p.2 : Nat)]
def e3 (p : Nat × Nat × Nat) : PyData := .tuple [.int (p.1 : Nat), .int (p.2.1 : Nat), .int (p.2.2 : Nat)]
def oV : Option Nat → V
  | none => .non
  | some k => .int (k : Nat)
def RI (v : V) (b : Nat) : Prop := v = .int (b : Nat)
def RO (v : V) (o : Option Nat) : Prop := v = oV o
def RT (H : Hp) (v : V) (t : Trn) : Prop := Im H v (eT t)
structure Rep (K : PySem.W.Frag) (H : Hp) (d : Ad) (n : Nat) (s : Tw) (w : Wt) : Prop where
  nd : d.all.Nodup
  ins : H d.a = some (.ins (gA K "Tower") d.dx d.fs)
  line : H d.aL = some (.lst (vN (List.range n)))
  steps : ∃ xs, H d.aS = some (.lst xs) ∧ xs.length = s.steps
  faces : ∃ xs, H d.aF = some (.lst xs) ∧ Ims H xs (s.faces.map eT)
  levs : H d.aV = some (.lst (d.as.map V.ref))
  llen : d.as.length = s.levels.length
  lev : ∀ (i : Nat) (A : Addr), d.as[i]? = some A → ∃ kvs, H A = some (.dK kvs) ∧ KvR kN RO kvs (lvl s i)
  strong : ∃ xs, H d.aG = some (.lst xs) ∧ Ims H xs (s.strong.map e2)
  bwd : ∃ kvs, H d.aB = some (.dK kvs) ∧ KvR kN RI kvs s.backward
  backs : ∃ kvs, H d.aK = some (.dK kvs) ∧ KvR kN (RT H) kvs s.backs
  wait : ∃ xs, H d.aW = some (.lst xs) ∧ Ims H xs (w.map e3)
/-- the tower's own things may change, no others -/
structure Frm (d : Ad) (H H' : Hp) : Prop where
  keep : ∀ x o, x ∉ d.all → H x = some o → H' x = some o
  tk : TK H H'
section
variable {K : PySem.W.Frag} {H H' H'' H0 : Hp} {d : Ad} {n : Nat} {s : Tw} {w : Wt} {x : Addr} {o : HO}
theorem Frm.refl : Frm d H H := ⟨fun _ _ _ h => h, TK.refl H⟩
theorem Frm.trans (f : Frm d H H') (g : Frm d H' H'') : Frm d H H'' := ⟨fun x o hx h => g.keep x o hx (f.keep x o hx h), f.tk.trans g.tk⟩
theorem Frm.of (e : Same H H') : Frm d H H' := ⟨fun x o _ h => e x o h, Same.tk e⟩
theorem Frm.put (hx : x ∈ d.all) {u : HO} (h : H x = some u) (hu : ∀ xs, u ≠ .tup xs) : Frm d H (upd H x o) := ⟨fun y p hy e => (upd_ne (fun z : y = x => hy (z ▸ hx))).trans e, TK.put h hu⟩
/-- nothing of the tower was there before -/
def New (d : Ad) (H0 : Hp) : Prop := ∀ x ∈ d.all, H0 x = none
theorem Frm.same (hn : New d H0) (e : Same H0 H) (f : Frm d H H') : Same H0 H' := fun x o h => by
  refine f.keep x o (fun m => ?_) (e x o h)
  rw [hn x m] at h
  cases h
theorem at_ne (h : d.all.Nodup) {i j : Nat} {x y : Addr} (hx : d.all[i]? = some x) (hy : d.all[j]? = some y) (hij : i ≠ j) : x ≠ y := fun z => by
  subst z
  exact hij ((List.getElem?_inj (List.getElem?_eq_some_iff.mp hx).1 h).mp (hx.trans hy.symm))
theorem at_as {i : Nat} : d.all[9 + i]? = d.as[i]? := by
  unfold Ad.all
  rw [List.getElem?_append_right (by show 9 ≤ 9 + i; omega)]
  congr 1
  show 9 + i - 9 = i
  omega
theorem mem_all {i : Nat} (hx : d.all[i]? = some x) : x ∈ d.all := List.mem_of_getElem? hx
theorem Rep.on (h : Rep K H d n s w) (k : ∀ x ∈ d.all, H' x = H x) (t : TK H H') : Rep K H' d n s w where
  nd := h.nd
  ins := (k _ (mem_all (i := 0) rfl)).trans h.ins
  line := (k _ (mem_all (i := 1) rfl)).trans h.line
  steps := by obtain ⟨xs, h1, h2⟩ := h.steps; exact ⟨xs, (k _ (mem_all (i := 2) rfl)).trans h1, h2⟩
  faces := by obtain ⟨xs, h1, h2⟩ := h.faces; exact ⟨xs, (k _ (mem_all (i := 3) rfl)).trans h1, h2.by t⟩
  levs := (k _ (mem_all (i := 4) rfl)).trans h.levs
  llen := h.llen
  lev := fun i A hA => by
    obtain ⟨kvs, h1, h2⟩ := h.lev i A hA
    exact ⟨kvs, (k _ (mem_all (i := 9 + i) (at_as.trans hA))).trans h1, h2⟩
  strong := by obtain ⟨xs, h1, h2⟩ := h.strong; exact ⟨xs, (k _ (mem_all (i := 5) rfl)).trans h1, h2.by t⟩
  bwd := by obtain ⟨xs, h1, h2⟩ := h.bwd; exact ⟨xs, (k _ (mem_all (i := 6) rfl)).trans h1, h2⟩
  backs := by obtain ⟨xs, h1, h2⟩ := h.backs; exact ⟨xs, (k _ (mem_all (i := 7) rfl)).trans h1, h2.mono fun v b r => Im.by r t⟩
  wait := by obtain ⟨xs, h1, h2⟩ := h.wait; exact ⟨xs, (k _ (mem_all (i := 8) rfl)).trans h1, h2.by t⟩
/-- everything of the tower is in the heap -/
theorem Rep.there (h : Rep K H d n s w) : ∀ x ∈ d.all, ∃ o, H x = some o ∧ ∀ xs, o ≠ .tup xs := by
  intro x m
  rcases List.mem_append.mp m with m | m
  · have := h.steps
    have := h.faces
    have := h.strong
    have := h.bwd
    have := h.backs
    have := h.wait
    simp only [Ad.fix, List.mem_cons, List.not_mem_nil, or_false] at m
    rcases m with e | e | e | e | e | e | e | e | e <;> subst e
    · exact ⟨_, h.ins, fun _ z => by cases z⟩
    · exact ⟨_, h.line, fun _ z => by cases z⟩
    · obtain ⟨xs, h1, _⟩ := h.steps; exact ⟨_, h1, fun _ z => by cases z⟩
    · obtain ⟨xs, h1, _⟩ := h.faces; exact ⟨_, h1, fun _ z => by cases z⟩
    · exact ⟨_, h.levs, fun _ z => by cases z⟩
    · obtain ⟨xs, h1, _⟩ := h.strong; exact ⟨_, h1, fun _ z => by cases z⟩
    · obtain ⟨xs, h1, _⟩ := h.bwd; exact ⟨_, h1, fun _ z => by cases z⟩
    · obtain ⟨xs, h1, _⟩ := h.backs; exact ⟨_, h1, fun _ z => by cases z⟩
    · obtain ⟨xs, h1, _⟩ := h.wait; exact ⟨_, h1, fun _ z => by cases z⟩
  · obtain ⟨i, hi⟩ := List.getElem?_of_mem m
    obtain ⟨kvs, h1, _⟩ := h.lev i x hi
    exact ⟨_, h1, fun _ z => by cases z⟩
theorem Rep.by (h : Rep K H d n s w) (e : Same H H') : Rep K H' d n s w := h.on (fun x m => by
  obtain ⟨o, ho, _⟩ := h.there x m
  rw [ho, e x o ho]) (Same.tk e)
/-- one thing of the tower is changed -/
theorem Rep.frm (h : Rep K H d n s w) (hx : x ∈ d.all) : Frm d H (upd H x o) := by
  obtain ⟨u, h1, h2⟩ := h.there x hx
  exact Frm.put hx h1 h2
theorem Rep.others (h : Rep K H d n s w) {i : Nat} (hx : d.all[i]? = some x) : TK H (upd H x o) ∧ ∀ j y, d.all[j]? = some y → j ≠ i → upd H x o y = H y :=
  ⟨(h.frm (mem_all hx)).tk, fun j y hy hj => upd_ne (at_ne h.nd hy hx hj)⟩
theorem Rep.setS (h : Rep K H d n s w) {xs : List V} {k : Nat} (hk : xs.length = k) : Rep K (upd H d.aS (.lst xs)) d n { s with steps := k } w := by
  obtain ⟨t, k⟩ := h.others (o := .lst xs) (i := 2) (x := d.aS) rfl
  exact { nd := h.nd
          ins := (k 0 _ rfl (by decide)).trans h.ins
          line := (k 1 _ rfl (by decide)).trans h.line
          steps := ⟨xs, upd_same, hk⟩
          faces := by obtain ⟨xs, h1, h2⟩ := h.faces; exact ⟨xs, (k 3 _ rfl (by decide)).trans h1, h2.by t⟩
          levs := (k 4 _ rfl (by decide)).trans h.levs
          llen := h.llen
          lev := fun i A hA => by
            obtain ⟨kvs, h1, h2⟩ := h.lev i A hA
            exact ⟨kvs, (k (9 + i) _ (at_as.trans hA) (by omega)).trans h1, h2⟩
          strong := by obtain ⟨xs, h1, h2⟩ := h.strong; exact ⟨xs, (k 5 _ rfl (by decide)).trans h1, h2.by t⟩
          bwd := by obtain ⟨xs, h1, h2⟩ := h.bwd; exact ⟨xs, (k 6 _ rfl (by decide)).trans h1, h2⟩
          backs := by obtain ⟨xs, h1, h2⟩ := h.backs; exact ⟨xs, (k 7 _ rfl (by decide)).trans h1, h2.mono fun v b r => Im.by r t⟩
          wait := by obtain ⟨xs, h1, h2⟩ := h.wait; exact ⟨xs, (k 8 _ rfl (by decide)).trans h1, h2.by t⟩ }
theorem Rep.setF (h : Rep K H d n s w) {xs : List V} {fs : List Trn} (hk : Ims H xs (fs.map eT)) : Rep K (upd H d.aF (.lst xs)) d n { s with faces := fs } w := by
  obtain ⟨t, k⟩ := h.others (o := .lst xs) (i := 3) (x := d.aF) rfl
  exact { nd := h.nd
          ins := (k 0 _ rfl (by decide)).trans h.ins
          line := (k 1 _ rfl (by decide)).trans h.line
          steps := by obtain ⟨xs, h1, h2⟩ := h.steps; exact ⟨xs, (k 2 _ rfl (by decide)).trans h1, h2⟩
          faces := ⟨xs, upd_same, hk.by t⟩
          levs := (k 4 _ rfl (by decide)).trans h.levs
          llen := h.llen
          lev := fun i A hA => by
            obtain ⟨kvs, h1, h2⟩ := h.lev i A hA
            exact ⟨kvs, (k (9 + i) _ (at_as.trans hA) (by omega)).trans h1, h2⟩
          strong := by obtain ⟨xs, h1, h2⟩ := h.strong; exact ⟨xs, (k 5 _ rfl (by decide)).trans h1, h2.by t⟩
          bwd := by obtain ⟨xs, h1, h2⟩ := h.bwd; exact ⟨xs, (k 6 _ rfl (by decide)).trans h1, h2⟩
          backs := by obtain ⟨xs, h1, h2⟩ := h.backs; exact ⟨xs, (k 7 _ rfl (by decide)).trans h1, h2.mono fun v b r => Im.by r t⟩
          wait := by obtain ⟨xs, h1, h2⟩ := h.wait; exact ⟨xs, (k 8 _ rfl (by decide)).trans h1, h2.by t⟩ }
theorem Rep.setG (h : Rep K H d n s w) {xs : List V} {gs : List (Nat × Nat)} (hk : Ims H xs (gs.map e2)) : Rep K (upd H d.aG (.lst xs)) d n { s with strong := gs } w := by
  obtain ⟨t, k⟩ := h.others (o := .lst xs) (i := 5) (x := d.aG) rfl
  exact { nd := h.nd
          ins := (k 0 _ rfl (by decide)).trans h.ins
          line := (k 1 _ rfl (by decide)).trans h.line
          steps := by obtain ⟨xs, h1, h2⟩ := h.steps; exact ⟨xs, (k 2 _ rfl (by decide)).trans h1, h2⟩
          faces := by obtain ⟨xs, h1, h2⟩ := h.faces; exact ⟨xs, (k 3 _ rfl (by decide)).trans h1, h2.by t⟩
          levs := (k 4 _ rfl (by decide)).trans h.levs
          llen := h.llen
          lev := fun i A hA => by
            obtain ⟨kvs, h1, h2⟩ := h.lev i A hA
            exact ⟨kvs, (k (9 + i) _ (at_as.trans hA) (by omega)).trans h1, h2⟩
          strong := ⟨xs, upd_same, hk.by t⟩
          bwd := by obtain ⟨xs, h1, h2⟩ := h.bwd; exact ⟨xs, (k 6 _ rfl (by decide)).trans h1, h2⟩
          backs := by obtain ⟨xs, h1, h2⟩ := h.backs; exact ⟨xs, (k 7 _ rfl (by decide)).trans h1, h2.mono fun v b r => Im.by r t⟩
          wait := by obtain ⟨xs, h1, h2⟩ := h.wait; exact ⟨xs, (k 8 _ rfl (by decide)).trans h1, h2.by t⟩ }
theorem Rep.setB (h : Rep K H d n s w) {kvs : List (Key × V)} {bs : List (Nat × Nat)} (hk : KvR kN RI kvs bs) : Rep K (upd H d.aB (.dK kvs)) d n { s with backward := bs } w := by
  obtain ⟨t, k⟩ := h.others (o := .dK kvs) (i := 6) (x := d.aB) rfl
  exact { nd := h.nd
          ins := (k 0 _ rfl (by decide)).trans h.ins
          line := (k 1 _ rfl (by decide)).trans h.line
          steps := by obtain ⟨xs, h1, h2⟩ := h.steps; exact ⟨xs, (k 2 _ rfl (by decide)).trans h1, h2⟩
          faces := by obtain ⟨xs, h1, h2⟩ := h.faces; exact ⟨xs, (k 3 _ rfl (by decide)).trans h1, h2.by t⟩
          levs := (k 4 _ rfl (by decide)).trans h.levs
          llen := h.llen
          lev := fun i A hA => by
            obtain ⟨kvs, h1, h2⟩ := h.lev i A hA
            exact ⟨kvs, (k (9 + i) _ (at_as.trans hA) (by omega)).trans h1, h2⟩
          strong := by obtain ⟨xs, h1, h2⟩ := h.strong; exact ⟨xs, (k 5 _ rfl (by decide)).trans h1, h2.by t⟩
          bwd := ⟨kvs, upd_same, hk⟩
          backs := by obtain ⟨xs, h1, h2⟩ := h.backs; exact ⟨xs, (k 7 _ rfl (by decide)).trans h1, h2.mono fun v b r => Im.by r t⟩
          wait := by obtain ⟨xs, h1, h2⟩ := h.wait; exact ⟨xs, (k 8 _ rfl (by decide)).trans h1, h2.by t⟩ }
theorem Rep.setK (h : Rep K H d n s w) {kvs : List (Key × V)} {bs : List (Nat × Trn)} (hk : KvR kN (RT H) kvs bs) : Rep K (upd H d.aK (.dK kvs)) d n { s with backs := bs } w := by
  obtain ⟨t, k⟩ := h.others (o := .dK kvs) (i := 7) (x := d.aK) rfl
  exact { nd := h.nd
          ins := (k 0 _ rfl (by decide)).trans h.ins
          line := (k 1 _ rfl (by decide)).trans h.line
          steps := by obtain ⟨xs, h1, h2⟩ := h.steps; exact ⟨xs, (k 2 _ rfl (by decide)).trans h1, h2⟩
          faces := by obtain ⟨xs, h1, h2⟩ := h.faces; exact ⟨xs, (k 3 _ rfl (by decide)).trans h1, h2.by t⟩
          levs := (k 4 _ rfl (by decide)).trans h.levs
          llen := h.llen
          lev := fun i A hA => by
            obtain ⟨kvs, h1, h2⟩ := h.lev i A hA
            exact ⟨kvs, (k (9 + i) _ (at_as.trans hA) (by omega)).trans h1, h2⟩
          strong := by obtain ⟨xs, h1, h2⟩ := h.strong; exact ⟨xs, (k 5 _ rfl (by decide)).trans h1, h2.by t⟩
          bwd := by obtain ⟨xs, h1, h2⟩ := h.bwd; exact ⟨xs, (k 6 _ rfl (by decide)).trans h1, h2⟩
          backs := ⟨kvs, upd_same, hk.mono fun v b r => Im.by r t⟩
          wait := by obtain ⟨xs, h1, h2⟩ := h.wait; exact ⟨xs, (k 8 _ rfl (by decide)).trans h1, h2.by t⟩ }
theorem Rep.setW (h : Rep K H d n s w) {xs : List V} {w' : Wt} (hk : Ims H xs (w'.map e3)) : Rep K (upd H d.aW (.lst xs)) d n s w' := by
  obtain ⟨t, k⟩ := h.others (o := .lst xs) (i := 8) (x := d.aW) rfl
  exact { nd := h.nd
          ins := (k 0 _ rfl (by decide)).trans h.ins
          line := (k 1 _ rfl (by decide)).trans h.line
          steps := by obtain ⟨xs, h1, h2⟩ := h.steps; exact ⟨xs, (k 2 _ rfl (by decide)).trans h1, h2⟩
          faces := by obtain ⟨xs, h1, h2⟩ := h.faces; exact ⟨xs, (k 3 _ rfl (by decide)).trans h1, h2.by t⟩
          levs := (k 4 _ rfl (by decide)).trans h.levs
          llen := h.llen
          lev := fun i A hA => by
            obtain ⟨kvs, h1, h2⟩ := h.lev i A hA
            exact ⟨kvs, (k (9 + i) _ (at_as.trans hA) (by omega)).trans h1, h2⟩
          strong := by obtain ⟨xs, h1, h2⟩ := h.strong; exact ⟨xs, (k 5 _ rfl (by decide)).trans h1, h2.by t⟩
          bwd := by obtain ⟨xs, h1, h2⟩ := h.bwd; exact ⟨xs, (k 6 _ rfl (by decide)).trans h1, h2⟩
          backs := by obtain ⟨xs, h1, h2⟩ := h.backs; exact ⟨xs, (k 7 _ rfl (by decide)).trans h1, h2.mono fun v b r => Im.by r t⟩
          wait := ⟨xs, upd_same, hk.by t⟩ }
theorem Rep.setV (h : Rep K H d n s w) {l : Nat} {A : Addr} (hA : d.as[l]? = some A) {kvs : List (Key × V)} {b : Lvl} (hk : KvR kN RO kvs b) : Rep K (upd H A (.dK kvs)) d n { s with levels := s.levels.set l b } w := by
  obtain ⟨t, k⟩ := h.others (o := .dK kvs) (i := 9 + l) (x := A) (at_as.trans hA)
  have hl : l < s.levels.length := by rw [← h.llen]; exact (List.getElem?_eq_some_iff.mp hA).1
  exact { nd := h.nd
          ins := (k 0 _ rfl (by omega)).trans h.ins
          line := (k 1 _ rfl (by omega)).trans h.line
          steps := by obtain ⟨xs, h1, h2⟩ := h.steps; exact ⟨xs, (k 2 _ rfl (by omega)).trans h1, h2⟩
          faces := by obtain ⟨xs, h1, h2⟩ := h.faces; exact ⟨xs, (k 3 _ rfl (by omega)).trans h1, h2.by t⟩
          levs := (k 4 _ rfl (by omega)).trans h.levs
          llen := by rw [h.llen]; exact (List.length_set ..).symm
          lev := fun i B hB => by
            by_cases e : i = l
            · subst e
              rw [hA] at hB
              cases hB
              refine ⟨kvs, upd_same, ?_⟩
              unfold lvl
              rw [List.getD_eq_getElem?_getD, List.getElem?_set_self hl]
              exact hk
            · obtain ⟨kvs', h1, h2⟩ := h.lev i B hB
              refine ⟨kvs', (k (9 + i) _ (at_as.trans hB) (by omega)).trans h1, ?_⟩
              unfold lvl at h2 ⊢
              rw [List.getD_eq_getElem?_getD, List.getElem?_set_ne (fun z => e z.symm), ← List.getD_eq_getElem?_getD]
              exact h2
          strong := by obtain ⟨xs, h1, h2⟩ := h.strong; exact ⟨xs, (k 5 _ rfl (by omega)).trans h1, h2.by t⟩
          bwd := by obtain ⟨xs, h1, h2⟩ := h.bwd; exact ⟨xs, (k 6 _ rfl (by omega)).trans h1, h2⟩
          backs := by obtain ⟨xs, h1, h2⟩ := h.backs; exact ⟨xs, (k 7 _ rfl (by omega)).trans h1, h2.mono fun v b r => Im.by r t⟩
          wait := by obtain ⟨xs, h1, h2⟩ := h.wait; exact ⟨xs, (k 8 _ rfl (by omega)).trans h1, h2.by t⟩ }
end
end Sb
namespace Sb
theorem lvl_some {s : Tw} {l : Nat} (h : l < s.levels.length) : s.levels[l]? = some (lvl s l) := by
  unfold lvl
  rw [List.getD_eq_getElem?_getD, List.getElem?_eq_getElem h]
  rfl
theorem fac_some {s : Tw} {k : Nat} (h : k < s.faces.length) : s.faces[k]? = some (fac s k) := by
  unfold fac
  rw [List.getD_eq_getElem?_getD, List.getElem?_eq_getElem h]
  rfl
theorem fac_mem {s : Tw} {k : Nat} (h : k < s.faces.length) : fac s k ∈ s.faces := List.mem_of_getElem? (fac_some h)
/-- what a method's walk needs to know -/
structure Good (n : Nat) (s : Tw) : Prop where
  steps : s.steps = s.faces.length
  tn : ∀ t ∈ s.faces, Tn n t
  lev : s.levels.length = n
  val : ∀ l, l < n → ∀ g k, getA (lvl s l) g = some (some k) → k < s.faces.length ∧ getA s.backs k = some (bkOf s k) ∧ Tn n (bkOf s k)
  bw : ∀ k b, getA s.backward k = some b → b < s.faces.length
  small : s.faces.length ≤ 1000000 ∧ s.backward.length ≤ 1000000 ∧ s.backs.length ≤ 1000000 ∧ s.strong.length ≤ 1000000 ∧ ∀ l, (lvl s l).length ≤ 1000000
  few : n ≤ 1000

theorem tdGo_ok {n : Nat} {s : Tw} (hG : Good n s) : ∀ (f l : Nat) (t : Trn) (ps : List Nat), l + f = n → Tn n t → (∀ u ∈ ps, u < s.faces.length) → (tdGo s f l t ps).1 ≤ n ∧ (∀ u ∈ (tdGo s f l t ps).2, u < s.faces.length) ∧ (tdGo s f l t ps).2.length ≤ ps.length + f
  | 0, l, t, ps, h, _, hp => ⟨by show l ≤ n; omega, hp, Nat.le_refl _⟩
  | f + 1, l, t, ps, h, ht, hp => by
    rw [tdGo]
    cases e : getA (lvl s l) (gt t l) with
    | none => exact ⟨by show l ≤ n; omega, hp, by show ps.length ≤ _; omega⟩
    | some o =>
      cases o with
      | none =>
        obtain ⟨h1, h2, h3⟩ := tdGo_ok hG f (l + 1) t ps (by omega) ht hp
        exact ⟨h1, h2, by show _ ≤ ps.length + (f + 1); have : (tdGo s f (l + 1) t ps).2.length ≤ ps.length + f := h3; exact Nat.le_trans this (by omega)⟩
      | some k =>
        obtain ⟨v1, v2, v3⟩ := hG.val l (by omega) _ _ e
        obtain ⟨h1, h2, h3⟩ := tdGo_ok hG f (l + 1) (aft t (bkOf s k)) (ps ++ [k]) (by omega) (ht.aft v3) (fun u m => by
          rcases List.mem_append.mp m with m | m
          · exact hp u m
          · rw [List.mem_singleton.mp m]; exact v1)
        refine ⟨h1, h2, Nat.le_trans h3 ?_⟩
        rw [List.length_append]
        show ps.length + 1 + f ≤ _
        omega
theorem td_ok {n : Nat} {s : Tw} (hG : Good n s) {t : Trn} {st : Nat} (ht : Tn n t) (hs : st ≤ n) : (td n s t st).1 ≤ n ∧ (∀ u ∈ (td n s t st).2, u < s.faces.length) ∧ (td n s t st).2.length ≤ n := by
  obtain ⟨h1, h2, h3⟩ := tdGo_ok hG (n - st) st t [] (by omega) ht (fun _ m => by cases m)
  exact ⟨h1, h2, Nat.le_trans h3 (by rw [List.length_nil]; omega)⟩
/-- while the passed are used: faces are added, no more -/
structure Using (n : Nat) (s0 : Tw) (i : Nat) (x : Tw × Trn × Nat) : Prop where
  levels : x.1.levels = s0.levels
  backs : x.1.backs = s0.backs
  strong : x.1.strong = s0.strong
  steps : x.1.steps = x.1.faces.length
  tn : ∀ t ∈ x.1.faces, Tn n t
  ext : ∃ g, x.1.faces = s0.faces ++ g ∧ g.length ≤ 2 * i
  bw : ∀ k b, getA x.1.backward k = some b → b < x.1.faces.length
  bwl : x.1.backward.length ≤ s0.backward.length + i ∧ x.1.backward.length + s0.faces.length ≤ s0.backward.length + x.1.faces.length
  turn : Tn n x.2.1
  num : x.2.2 < x.1.faces.length
theorem fac_ext {s s0 : Tw} {g : List Trn} (h : s.faces = s0.faces ++ g) {k : Nat} (hk : k < s0.faces.length) : fac s k = fac s0 k := by
  unfold fac
  rw [h, List.getD_eq_getElem?_getD, List.getD_eq_getElem?_getD, List.getElem?_append_left hk]
theorem using_zero {n : Nat} {s : Tw} (hG : Good n s) {t : Trn} (ht : Tn n t) {k : Nat} (hk : k < s.faces.length) : Using n s 0 (s, t, k) :=
  ⟨rfl, rfl, rfl, hG.steps, hG.tn, ⟨[], (List.append_nil _).symm, Nat.le_refl _⟩, hG.bw, ⟨Nat.le_refl _, Nat.le_refl _⟩, ht, hk⟩
theorem addF_faces (s : Tw) (t : Trn) : (addF s t).faces.length = s.faces.length + 1 := by
  unfold addF
  rw [List.length_append]
  rfl
theorem getA_app_none {α β : Type} [DecidableEq α] {l : List (α × β)} {a c : α} {b : β} (h : getA l a = none) : getA (l ++ [(a, b)]) c = if c = a then some b else getA l c := getA_snoc l a c b h
/-- what backF gives -/
theorem backF_ok {n : Nat} {s : Tw} (h1 : s.steps = s.faces.length) (h2 : ∀ t ∈ s.faces, Tn n t) (h3 : ∀ k b, getA s.backward k = some b → b < s.faces.length) {u : Nat} (hu : u < s.faces.length) :
    (backF s u).1 < (backF s u).2.faces.length ∧ (backF s u).2.levels = s.levels ∧ (backF s u).2.backs = s.backs ∧ (backF s u).2.strong = s.strong ∧ (backF s u).2.steps = (backF s u).2.faces.length ∧ (∀ t ∈ (backF s u).2.faces, Tn n t) ∧
      (∃ g, (backF s u).2.faces = s.faces ++ g ∧ g.length ≤ 1) ∧ (∀ k b, getA (backF s u).2.backward k = some b → b < (backF s u).2.faces.length) ∧ (backF s u).2.backward.length ≤ s.backward.length + 1 ∧ (backF s u).2.backward.length + s.faces.length ≤ s.backward.length + (backF s u).2.faces.length := by
  unfold backF
  cases e : getA s.backward u with
  | some b => exact ⟨h3 u b e, rfl, rfl, rfl, h1, h2, ⟨[], (List.append_nil _).symm, Nat.zero_le _⟩, h3, Nat.le_succ _, Nat.le_refl _⟩
  | none =>
    have hl : (addF s (bck (fac s u))).faces.length = s.faces.length + 1 := addF_faces ..
    refine ⟨by show s.steps < (addF s (bck (fac s u))).faces.length; omega, rfl, rfl, rfl, ?_, fun t m => ?_, ⟨[bck (fac s u)], rfl, Nat.le_refl _⟩, fun k b hb => ?_, ?_, ?_⟩
    · show s.steps + 1 = (addF s (bck (fac s u))).faces.length
      omega
    · rcases List.mem_append.mp m with m | m
      · exact h2 t m
      · rw [List.mem_singleton.mp m]
        exact (h2 _ (fac_mem hu)).bck
    · show b < (addF s (bck (fac s u))).faces.length
      have hb' : getA (s.backward ++ [(u, s.steps)]) k = some b := hb
      rw [getA_app_none e] at hb'
      split at hb'
      · cases hb'; omega
      · have := h3 k b hb'
        omega
    · show (s.backward ++ [(u, s.steps)]).length ≤ _
      rw [List.length_append]
      exact Nat.le_refl _
    · show (s.backward ++ [(u, s.steps)]).length + _ ≤ _ + (addF s (bck (fac s u))).faces.length
      rw [List.length_append]
      show s.backward.length + 1 + _ ≤ _
      omega
theorem Using.next {n : Nat} {s0 : Tw} {i : Nat} {x : Tw × Trn × Nat} (h : Using n s0 i x) {u : Nat} (hu : u < s0.faces.length) : Using n s0 (i + 1) (useStep x u) := by
  obtain ⟨g, hg, hgl⟩ := h.ext
  have hux : u < x.1.faces.length := by rw [hg, List.length_append]; omega
  obtain ⟨b1, b2, b3, b4, b5, b6, ⟨g2, b7, b8⟩, b9, b10, b11⟩ := backF_ok h.steps h.tn h.bw hux
  have hl := addF_faces (backF x.1 u).2 (aft x.2.1 (fac (backF x.1 u).2 (backF x.1 u).1))
  have htn : Tn n (aft x.2.1 (fac (backF x.1 u).2 (backF x.1 u).1)) := h.turn.aft (b6 _ (fac_mem b1))
  refine ⟨b2.trans h.levels, b3.trans h.backs, b4.trans h.strong, ?_, fun t m => ?_, ⟨g ++ g2 ++ [aft x.2.1 (fac (backF x.1 u).2 (backF x.1 u).1)], ?_, ?_⟩, fun k b hb => ?_, ⟨?_, ?_⟩, htn, ?_⟩
  · show (backF x.1 u).2.steps + 1 = (addF (backF x.1 u).2 _).faces.length
    rw [hl, b5]
  · rcases List.mem_append.mp m with m | m
    · exact b6 t m
    · rw [List.mem_singleton.mp m]; exact htn
  · show (backF x.1 u).2.faces ++ _ = _
    rw [b7, hg]
    simp only [List.append_assoc]
  · rw [List.length_append, List.length_append]
    show g.length + g2.length + 1 ≤ _
    omega
  · have := b9 k b hb
    show b < (addF (backF x.1 u).2 _).faces.length
    omega
  · have := h.bwl.1
    show (backF x.1 u).2.backward.length ≤ _
    omega
  · have := h.bwl.2
    show (backF x.1 u).2.backward.length + _ ≤ _ + (addF (backF x.1 u).2 _).faces.length
    omega
  · show (backF x.1 u).2.steps < (addF (backF x.1 u).2 _).faces.length
    omega
theorem useGo_ok {n : Nat} {s : Tw} (hG : Good n s) {t : Trn} (ht : Tn n t) {k : Nat} (hk : k < s.faces.length) {ps : List Nat} (hp : ∀ u ∈ ps, u < s.faces.length) : ∀ i, i ≤ ps.length → Using n s i ((ps.take i).foldl useStep (s, t, k))
  | 0, _ => using_zero hG ht hk
  | i + 1, hi => by
    have e : ps[i]? = some ps[i] := List.getElem?_eq_getElem (by omega)
    have hm := hp _ (List.mem_of_getElem? e)
    rw [List.take_succ_eq_append_getElem (by omega), List.foldl_append]
    exact (useGo_ok hG ht hk hp i (by omega)).next hm
theorem fac_last (s : Tw) (t : Trn) (h : s.steps = s.faces.length) : fac (addF s t) s.steps = t := by
  unfold fac addF
  rw [h, List.getD_eq_getElem?_getD, List.getElem?_append_right (Nat.le_refl _), Nat.sub_self]
  rfl
theorem Good.addF {n : Nat} {s : Tw} (h : Good n s) {t : Trn} (ht : Tn n t) (hs : s.faces.length < 1000000) : Good n (addF s t) := by
  have hl := addF_faces s t
  refine ⟨?_, fun u m => ?_, h.lev, fun l hl' g k e => ?_, fun k b e => ?_, ⟨?_, h.small.2⟩, h.few⟩
  · show s.steps + 1 = _
    rw [hl, h.steps]
  · rcases List.mem_append.mp m with m | m
    · exact h.tn u m
    · rw [List.mem_singleton.mp m]; exact ht
  · obtain ⟨h1, h2, h3⟩ := h.val l hl' g k e
    exact ⟨by omega, h2, h3⟩
  · have := h.bw k b e
    omega
  · omega
theorem fce_tn {n : Nat} {s : Tw} (h : Good n s) {o : Option Nat} (ho : ∀ k, o = some k → k < s.faces.length) : Tn n (fce n s o) := by
  cases o with
  | none => exact tn_range n
  | some k => exact h.tn _ (fac_mem (ho k rfl))
theorem workM_eq {n : Nat} {s : Tw} {w : Wt} {l p k : Nat} {first : Option Nat} {t : Trn} (h : (getA (lvl s l) p).getD none = first) (ht : t = aft (fce n s first) (fac s k)) :
    (gt t l ∈ keysL (lvl s l) → first = none → workM n s w (l, p, k) = siftM n s w k l) ∧
    (gt t l ∈ keysL (lvl s l) → ∀ f, first = some f → workM n s w (l, p, k) = if (td n s t l).1 < n then siftM n (addF s t) w s.steps l else (s, w)) ∧
    (gt t l ∉ keysL (lvl s l) → first = none → workM n s w (l, p, k) = (leadF s l (gt t l) k, w ++ pushed s l (gt t l))) ∧
    (gt t l ∉ keysL (lvl s l) → ∀ f, first = some f → workM n s w (l, p, k) = (leadF (addF s t) l (gt t l) s.steps, w ++ pushed s l (gt t l))) := by
  subst ht
  refine ⟨fun h1 h2 => ?_, fun h1 f h2 => ?_, fun h1 h2 => ?_, fun h1 f h2 => ?_⟩
  all_goals
    subst h2
    unfold workM
    simp only [h]
  · rw [if_pos h1]
  · rw [if_pos h1]
  · rw [if_neg h1]
  · rw [if_neg h1]
end Sb
namespace Sb
open PySem PySem.Spec PyProof.Rows L2
section
variable {K : PySem.W.Frag} {H : Hp} {d : Ad} {n : Nat} {s : Tw} {w : Wt}
theorem Rep.face (h : Rep K H d n s w) {k : Nat} (hk : k < s.faces.length) : ∃ xs v, H d.aF = some (.lst xs) ∧ xs[k]? = some v ∧ Im H v (eT (fac s k)) := by
  obtain ⟨xs, h1, h2⟩ := h.faces
  obtain ⟨v, hv, hi⟩ := h2.at_ (i := k) (d := eT (fac s k)) (by rw [List.getElem?_map, fac_some hk]; rfl)
  exact ⟨xs, v, h1, hv, hi⟩
theorem Rep.level (h : Rep K H d n s w) {l : Nat} (hl : l < s.levels.length) : ∃ A kvs, d.as[l]? = some A ∧ (d.as.map V.ref)[l]? = some (.ref A) ∧ H A = some (.dK kvs) ∧ KvR kN RO kvs (lvl s l) := by
  have h1 : d.as[l]? = some (d.as[l]'(by rw [h.llen]; exact hl)) := List.getElem?_eq_getElem _
  generalize (d.as[l]'(by rw [h.llen]; exact hl)) = A at h1
  obtain ⟨kvs, h2, h3⟩ := h.lev l A h1
  exact ⟨A, kvs, h1, by rw [List.getElem?_map, h1]; rfl, h2, h3⟩
theorem KvR.val {kvs : List (Key × V)} {l : Lvl} (h : KvR kN RO kvs l) (g : Nat) : valV kvs (kN g) = (getA l g).map oV := by
  rcases h.find kN_inj g with ⟨h1, h2⟩ | ⟨v, b, h1, h2, h3⟩
  · rw [h1, h2]; rfl
  · rw [h1, h2, h3]; rfl
end
section
variable {P : Program} {w0 : World} {K : PySem.W.Frag} {mg : Str → Option Value} {base : Heap}
def spFace (K : PySem.W.Frag) : Sp := fun vs H Q _ => ∃ (d : Ad) (n : Nat) (s : Tw) (w : Wt) (o : Option Nat), vs = [.ref d.a, oV o] ∧ Rep K H d n s w ∧ n ≤ 1000 ∧ (∀ k, o = some k → k < s.faces.length) ∧ ∀ x H', Same H H' → Im H' x (eT (fce n s o)) → Q x H'
theorem m_face (z : Z K mg) : Met P w0 K mg base 2 "Tower" "face" (spFace K) := by
  have S : FnScope ["self", "number"] ["self", "number"] (defScope sTowerFace) := ⟨rfl, rfl, rfl, by decide +kernel, rfl, by decide +kernel, by decide +kernel⟩
  refine met_by z.d_Tower_face z.cl_Tower z.m_face S (fun _ _ _ _ _ _ us hl => match us, hl with | [_, _], _ => rfl) (fun vs H Q E h => ?_) (fun cdv A outer s H vs Q E hr h => ?_)
  · obtain ⟨d, n, s, w, o, rfl, _⟩ := h
    rfl
  · obtain ⟨d, n, s, w, o, rfl, R, hn, ho, q⟩ := h
    refine ⟨_, pss_one (ps_ret (pe_ifExp (pt_cmpR op_isN (pv 1) pe_non (nomark _)) (pe_f (c_staying z) hr (by decide) rfl (pa_cons (pe_callB call_len_seq (by rfl) z.b_len boot_len (pa_cons (pe_fld (pv 0) rfl) pa_nil)) pa_nil)) (pe_ix ix_list (pe_fld (pv 0) rfl) (pv 1) (fun _ _ => rfl)))), ?_⟩
    cases o with
    | none =>
      refine ⟨_, rfl, rfl, _, rfl, iteT ?_⟩
      refine ⟨_, rfl, d.a, _, d.dx, _, _, rfl, R.ins, z.cl_Tower, z.n_line, rfl, d.aL, _, rfl, .inl (SqL.of R.line), ?_⟩
      rw [vN_len, List.length_range]
      exact ⟨n, rfl, hn, fun v H' e hv => q v H' e hv⟩
    | some k =>
      obtain ⟨xs, v, h1, h2, h3⟩ := R.face (ho k rfl)
      refine ⟨_, rfl, rfl, _, rfl, iteF ?_⟩
      exact ⟨_, rfl, d.a, _, d.dx, _, _, rfl, R.ins, z.cl_Tower, z.n_faces, rfl, _, rfl, d.aF, _, _, v, rfl, rfl, SqL.of h1, atI_nat h2, q v H (Same.refl H) h3⟩
def spAdded (K : PySem.W.Frag) : Sp := fun vs H Q _ => ∃ (d : Ad) (n : Nat) (s : Tw) (w : Wt) (st v : V) (t : Trn), vs = [.ref d.a, st, v] ∧ Rep K H d n s w ∧ Im H v (eT t) ∧ s.faces.length ≤ 2000000 ∧ s.steps = s.faces.length ∧ ∀ H', Frm d H H' → Rep K H' d n (addF s t) w → Q (.int (s.steps : Nat)) H'
theorem m_added (z : Z K mg) : Met P w0 K mg base 1 "Tower" "added" (spAdded K) := by
  have S : FnScope ["self", "step", "turn"] ["self", "step", "turn"] (defScope sTowerAdded) := ⟨rfl, rfl, rfl, by decide +kernel, rfl, by decide +kernel, by decide +kernel⟩
  refine met_by z.d_Tower_added z.cl_Tower z.m_added S (fun _ _ _ _ _ _ us hl => match us, hl with | [_, _, _], _ => rfl) (fun vs H Q E h => ?_) (fun cdv A outer s H vs Q E hr h => ?_)
  · obtain ⟨d, n, s, w, st, v, t, rfl, _⟩ := h
    rfl
  · obtain ⟨d, n, s, w, st, v, t, rfl, R, hv, hs, he, q⟩ := h
    refine ⟨_, pss_cons (ps_expr (pe_bm PySem.F.plainAttrs_list PySem.F.slot_list_append PySem.F.type_list_append mt_append (pe_fld (pv 0) rfl) (pa_cons (pv 1) pa_nil)))
    (pss_cons (ps_expr (pe_bm PySem.F.plainAttrs_list PySem.F.slot_list_append PySem.F.type_list_append mt_append (pe_fld (pv 0) rfl) (pa_cons (pv 2) pa_nil)))
    (pss_one (ps_ret (pe_op op_sub (pe_callB call_len_seq (by rfl) z.b_len boot_len (pa_cons (pe_fld (pv 0) rfl) pa_nil)) pe_int)))), ?_⟩
    obtain ⟨xs, h1, h2⟩ := R.steps
    refine ⟨_, rfl, d.a, _, d.dx, _, _, rfl, R.ins, z.cl_Tower, z.n_steps, rfl, .inl ⟨rfl, _, SqL.of h1⟩, _, rfl, d.aS, _, _, rfl, rfl, h1, by show _ < 2 ^ 24; omega, ?_⟩
    have R1 := R.setS (xs := xs ++ [st]) (k := s.steps + 1) (by rw [List.length_append, h2]; rfl)
    have F1 := R.frm (o := HO.lst (xs ++ [st])) (x := d.aS) (mem_all (i := 2) rfl)
    obtain ⟨fs, h3, h4⟩ := R1.faces
    have hfl := h4.mlen
    refine ⟨_, rfl, d.a, _, d.dx, _, _, rfl, R1.ins, z.cl_Tower, z.n_faces, rfl, .inl ⟨rfl, _, SqL.of h3⟩, _, rfl, d.aF, _, _, rfl, rfl, h3, by rw [hfl]; show s.faces.length < 2 ^ 24; omega, ?_⟩
    have R2 := R1.setF (xs := fs ++ [v]) (fs := s.faces ++ [t]) (h4.snocM (hv.by F1.tk))
    have F2 := R1.frm (o := HO.lst (fs ++ [v])) (x := d.aF) (mem_all (i := 3) rfl)
    obtain ⟨ys, h5, h6⟩ := R2.steps
    refine ⟨_, rfl, d.a, _, d.dx, _, _, rfl, R2.ins, z.cl_Tower, z.n_steps, rfl, d.aS, _, rfl, .inl (SqL.of h5), _, _, rfl, rfl, ?_⟩
    rw [h6]
    have e : (((s.steps + 1 : Nat) : Int) - 1) = (s.steps : Nat) := by omega
    show Q (.int (((s.steps + 1 : Nat) : Int) - 1)) _
    rw [e]
    exact q _ (F1.trans F2) R2
def spLead (K : PySem.W.Frag) : Sp := fun vs H Q _ => ∃ (d : Ad) (n : Nat) (s : Tw) (w : Wt) (l g k : Nat), vs = [.ref d.a, .int l, .int g, .int k] ∧ Rep K H d n s w ∧ l < s.levels.length ∧ k < s.faces.length ∧ Tn n (fac s k) ∧ n ≤ 1000 ∧ (lvl s l).length ≤ 1000000 ∧ s.backs.length ≤ 1000000 ∧ ∀ H', Frm d H H' → Rep K H' d n (leadF s l g k) w → Q .non H'
theorem m_lead (z : Z K mg) : Met P w0 K mg base 2 "Tower" "lead" (spLead K) := by
  have S : FnScope ["self", "level", "goal", "number"] ["self", "level", "goal", "number"] (defScope sTowerLead) := ⟨rfl, rfl, rfl, by decide +kernel, rfl, by decide +kernel, by decide +kernel⟩
  refine met_by z.d_Tower_lead z.cl_Tower z.m_lead S (fun _ _ _ _ _ _ us hl => match us, hl with | [_, _, _, _], _ => rfl) (fun vs H Q E h => ?_) (fun cdv A outer s H vs Q E hr h => ?_)
  · obtain ⟨d, n, s, w, l, g, k, rfl, _⟩ := h
    rfl
  · obtain ⟨d, n, s, w, l, g, k, rfl, R, hl, hk, htn, hn, hs1, hs2, q⟩ := h
    refine ⟨_, pss_cons (ps_dput (hu_of hr) (pe_ix ix_list (pe_fld (pv 0) rfl) (pv 1) (fun _ _ => rfl)) (pv 2) (pv 3) rfl)
    (pss_one (ps_dput (hu_of hr) (pe_fld (pv 0) rfl) (pv 3) (pe_f (c_turned_back z) hr (by decide) rfl (pa_cons (pe_ix ix_list (pe_fld (pv 0) rfl) (pv 3) (fun _ _ => rfl)) pa_nil)) rfl)), ?_⟩
    obtain ⟨A, kvs, a1, a2, a3, a4⟩ := R.level hl
    refine ⟨_, rfl, _, rfl, d.a, _, d.dx, _, _, rfl, R.ins, z.cl_Tower, z.n_levels, rfl, _, rfl, d.aV, _, _, V.ref A, rfl, rfl, SqL.of R.levs, atI_nat a2, _, rfl, A, _, rfl, DPut.k (k := kN g) a3 (by rw [a4.len]; show _ < 2 ^ 24; omega), ?_⟩
    have R1 := R.setV a1 (KvR.put (a := g) (v := V.int k) (b := some k) kN_inj a4 rfl)
    have F1 := R.frm (o := HO.dK (putK kvs (kN g) (V.int k))) (x := A) (mem_all (at_as.trans a1))
    obtain ⟨fs, v, b1, b2, b3⟩ := R1.face (k := k) hk
    refine ⟨_, rfl, d.a, _, d.dx, _, _, rfl, R1.ins, z.cl_Tower, z.n_faces, rfl, _, rfl, d.aF, _, _, v, rfl, rfl, SqL.of b1, atI_nat b2, v, fac s k, rfl, b3, by rw [htn.1]; exact hn, by rw [htn.1]; exact htn.2, fun r H2 e2 hr2 => ?_⟩
    have R2 := R1.by e2
    obtain ⟨kv2, c1, c2⟩ := R2.backs
    refine ⟨_, rfl, d.a, _, d.dx, _, _, rfl, R2.ins, z.cl_Tower, z.n_backs, rfl, _, rfl, d.aK, _, rfl, DPut.k (k := kN k) c1 (by rw [c2.len]; show s.backs.length < 2 ^ 24; omega), ?_⟩
    have R3 := R2.setK (KvR.put (R := RT H2) (a := k) (v := r) (b := bck (fac s k)) kN_inj c2 hr2)
    have F3 := R2.frm (o := HO.dK (putK kv2 (kN k) r)) (x := d.aK) (mem_all (i := 7) rfl)
    exact q _ ((F1.trans (Frm.of e2)).trans F3) R3
def spBackStep (K : PySem.W.Frag) : Sp := fun vs H Q _ => ∃ (d : Ad) (n : Nat) (s : Tw) (w : Wt) (k : Nat), vs = [.ref d.a, .int k] ∧ Rep K H d n s w ∧ k < s.faces.length ∧ Tn n (fac s k) ∧ n ≤ 1000 ∧ s.faces.length ≤ 2000000 ∧ s.steps = s.faces.length ∧ s.backward.length ≤ 2000000 ∧ ∀ H', Frm d H H' → Rep K H' d n (backF s k).2 w → Q (.int ((backF s k).1 : Nat)) H'
theorem m_back_step (z : Z K mg) : Met P w0 K mg base 2 "Tower" "back_step" (spBackStep K) := by
  have S : FnScope ["self", "number"] ["self", "number"] (defScope sTowerBackStep) := ⟨rfl, rfl, rfl, by decide +kernel, rfl, by decide +kernel, by decide +kernel⟩
  refine met_by z.d_Tower_back_step z.cl_Tower z.m_back_step S (fun _ _ _ _ _ _ us hl => match us, hl with | [_, _], _ => rfl) (fun vs H Q E h => ?_) (fun cdv A outer s H vs Q E hr h => ?_)
  · obtain ⟨d, n, s, w, k, rfl, _⟩ := h
    rfl
  · obtain ⟨d, n, s, w, k, rfl, R, hk, htn, hn, hs1, hs2, hs3, q⟩ := h
    refine ⟨_, pss_cons (ps_if (pt_cmp (pc_dnotin (hu_of hr) (pv 1) (pe_fld (pv 0) rfl)))
      (pss_one (ps_dput (hu_of hr) (pe_fld (pv 0) rfl) (pv 1) (pe_m (m_added z) hr (by decide) (pv 0) (pa_cons (pv 1) (pa_cons (pe_f (c_turned_back z) hr (by decide) rfl (pa_cons (pe_ix ix_list (pe_fld (pv 0) rfl) (pv 1) (fun _ _ => rfl)) pa_nil)) pa_nil))) rfl))
      pss_nil)
    (pss_one (ps_ret (pe_dget (hu_of hr) (pe_fld (pv 0) rfl) (pv 1) (fun _ _ => rfl)))), ?_⟩
    obtain ⟨kvs, c1, c2⟩ := R.bwd
    refine ⟨_, rfl, _, rfl, d.a, _, d.dx, _, _, rfl, R.ins, z.cl_Tower, z.n_backward, rfl, d.aB, _, rfl, DGet.k (k := kN k) c1, _, rfl, ?_⟩
    rcases c2.find kN_inj k with ⟨g1, g2⟩ | ⟨v, b, g1, g2, g3⟩
    · rw [g1]
      have eB : backF s k = (s.steps, { addF s (bck (fac s k)) with backward := s.backward ++ [(k, s.steps)] }) := by unfold backF; rw [g2]
      rw [eB] at q
      obtain ⟨fs, v, b1, b2, b3⟩ := R.face hk
      refine iteT ⟨_, rfl, d.a, d.dx, _, rfl, R.ins, rfl, _, rfl, _, rfl, d.a, _, d.dx, _, _, rfl, R.ins, z.cl_Tower, z.n_faces, rfl, _, rfl, d.aF, _, _, v, rfl, rfl, SqL.of b1, atI_nat b2, v, fac s k, rfl, b3, by rw [htn.1]; exact hn, by rw [htn.1]; exact htn.2, fun r H2 e2 hr2 => ?_⟩
      refine ⟨d, n, s, w, .int k, r, bck (fac s k), rfl, R.by e2, hr2, hs1, hs2, fun H3 F3 R3 => ?_⟩
      obtain ⟨kv2, c3, c4⟩ := R3.bwd
      have hnew : valV kv2 (kN k) = none := by
        rcases c4.find kN_inj k with ⟨q1, _⟩ | ⟨_, b, _, q2, _⟩
        · exact q1
        · rw [show getA (addF s (bck (fac s k))).backward k = getA s.backward k from rfl, g2] at q2; cases q2
      refine ⟨_, rfl, d.a, _, d.dx, _, _, rfl, R3.ins, z.cl_Tower, z.n_backward, rfl, _, rfl, d.aB, _, rfl, DPut.k (k := kN k) c3 (by rw [c4.len]; show s.backward.length < 2 ^ 24; omega), ?_⟩
      have R4 := R3.setB (bs := s.backward ++ [(k, s.steps)]) (kvs := putK kv2 (kN k) (.int s.steps)) (by
        rw [putK_new hnew]
        exact c4.append (.cons rfl .nil))
      have F4 := R3.frm (o := HO.dK (putK kv2 (kN k) (.int s.steps))) (x := d.aB) (mem_all (i := 6) rfl)
      have hDG := DGet.k (k := kN k) (upd_same (H := H3) (a := d.aB) (o := HO.dK (putK kv2 (kN k) (.int s.steps))))
      rw [valV_put, if_pos rfl] at hDG
      exact ⟨_, rfl, d.a, _, d.dx, _, _, rfl, R4.ins, z.cl_Tower, z.n_backward, rfl, _, rfl, d.aB, _, rfl, hDG, q _ (((Frm.of e2).trans F3).trans F4) R4⟩
    · rw [g1]
      have eB : backF s k = (b, s) := by unfold backF; rw [g2]
      rw [eB] at q
      have hDG := DGet.k (k := kN k) c1
      rw [g1, g3] at hDG
      exact iteF ⟨_, rfl, d.a, _, d.dx, _, _, rfl, R.ins, z.cl_Tower, z.n_backward, rfl, _, rfl, d.aB, _, rfl, hDG, q H Frm.refl R⟩
end
end Sb
namespace Sb
open PySem PySem.Spec PyProof.Rows L2
section
variable {P : Program} {w0 : World} {K : PySem.W.Frag} {mg : Str → Option Value} {base : Heap}
def spTakenDown (K : PySem.W.Frag) : Sp := fun vs H Q _ => ∃ (d : Ad) (n : Nat) (s : Tw) (w : Wt) (v : V) (t : Trn) (st : Nat), vs = [.ref d.a, v, .int st] ∧ Rep K H d n s w ∧ Good n s ∧ Im H v (eT t) ∧ Tn n t ∧ st ≤ n ∧
  ∀ a p H', Same H H' → H p = none → H' a = some (.tup [.int ((td n s t st).1 : Nat), .ref p]) → H' p = some (.lst (vN (td n s t st).2)) → Q (.ref a) H'
theorem m_taken_down (z : Z K mg) : Met P w0 K mg base 2 "Tower" "taken_down" (spTakenDown K) := by
  have S : FnScope ["self", "turn", "start", "passed", "level", "goal", "number"] ["self", "turn", "start"] (defScope sTowerTakenDown) := ⟨rfl, rfl, rfl, by decide +kernel, rfl, by decide +kernel, by decide +kernel⟩
  refine met_by z.d_Tower_taken_down z.cl_Tower z.m_taken_down S (fun _ _ _ _ _ _ us hl => match us, hl with | [_, _, _], _ => rfl) (fun vs H Q E h => ?_) (fun cdv A outer s H vs Q E hr h => ?_)
  · obtain ⟨d, n, s, w, v, t, st, rfl, _⟩ := h
    rfl
  · obtain ⟨d, n, s, w, v, t, st, rfl, R, hG, hv, ht, hst, q⟩ := h
    refine ⟨_, pss_cons (ps_set (i := 3) S.nd rfl (Or.inl rfl) (pe_lst pa_nil))
    (pss_cons (ps_for PassesOwn.never rfl (pi_range2 (by rfl) z.b_range (pa_cons (pv 2) (pa_cons (pe_callB call_len_seq (by rfl) z.b_len boot_len (pa_cons (pe_fld (pv 0) rfl) pa_nil)) pa_nil))) (pg_name (i := 4) S.nd rfl (Or.inl rfl))
      (pss_cons (ps_set (i := 5) S.nd rfl (Or.inl rfl) (pe_ix ix_tup (pv 1) (pe_ix ix_list (pe_fld (pv 0) rfl) (pv 4) (fun _ _ => rfl)) (fun _ _ => rfl)))
      (pss_cons (ps_if (pt_cmp (pc_dnotin (hu_of hr) (pv 5) (pe_ix ix_list (pe_fld (pv 0) rfl) (pv 4) (fun _ _ => rfl))))
        (pss_one (ps_ret (pe_tup (pa_cons (pv 4) (pa_cons (pv 3) pa_nil)))))
        pss_nil)
      (pss_cons (ps_set (i := 6) S.nd rfl (Or.inl rfl) (pe_dget (hu_of hr) (pe_ix ix_list (pe_fld (pv 0) rfl) (pv 4) (fun _ _ => rfl)) (pv 5) (fun _ _ => rfl)))
      (pss_one (ps_if (pt_cmpR op_notN (pv 6) pe_non (nomark _))
        (pss_cons (ps_expr (pe_bm PySem.F.plainAttrs_list PySem.F.slot_list_append PySem.F.type_list_append mt_append (pv 3) (pa_cons (pv 6) pa_nil)))
        (pss_one (ps_set (i := 1) S.nd rfl (Or.inl rfl) (pe_f (c_after z) hr (by decide) rfl (pa_cons (pv 1) (pa_cons (pe_dget (hu_of hr) (pe_fld (pv 0) rfl) (pv 6) (fun _ _ => rfl)) pa_nil))))))
        pss_nil))))))
    (pss_one (ps_ret (pe_tup (pa_cons (pe_callB call_len_seq (by rfl) z.b_len boot_len (pa_cons (pe_fld (pv 0) rfl) pa_nil)) (pa_cons (pv 3) pa_nil)))))), ?_⟩
    refine ⟨by decide, fun p hp => ?_⟩
    have e0 := Same.new (o := HO.lst []) hp
    have R0 := R.by e0
    have hfew := hG.few
    refine ⟨_, rfl, _, rfl, d.a, _, d.dx, _, _, rfl, R0.ins, z.cl_Tower, z.n_line, rfl, d.aL, _, rfl, .inl (SqL.of R0.line), ?_⟩
    rw [vN_len, List.length_range]
    refine ⟨st, n, rfl, ⟨by omega, by omega, by omega, by omega⟩, ?_⟩
    have hns : ((n : Int) - (st : Int)).toNat = n - st := by omega
    rw [hns]
    refine for_it (walk_range (lo := st)) (fun i σ H2 => ∃ (u : Trn) (ps : List Nat) (vu : V), tdGo s (n - (st + i)) (st + i) u ps = td n s t st ∧ Im H2 vu (eT u) ∧ Tn n u ∧ H2 p = some (.lst (vN ps)) ∧ ps.length ≤ i ∧ Same H H2 ∧ ∃ w4 w5 w6, σ = [some (.ref d.a), some vu, some (.int st), some (.ref p), w4, w5, w6])
      ⟨t, [], v, rfl, hv.on e0, ht, upd_same, Nat.le_refl _, e0, none, none, none, rfl⟩ (fun i σ H2 _ p => trivial) (fun i x σ H2 H3 hi pp hy => ?_) (fun σ H2 pp => ?_)
    · obtain ⟨u, ps, vu, g1, g2, g3, g4, g5, e1, w4, w5, w6, rfl⟩ := pp
      obtain ⟨rfl, rfl⟩ := hy
      have R2 := R.by e1
      obtain ⟨c, rfl, hc⟩ := g2.tE
      have hlt : st + i < n := by omega
      have hcast : (st : Int) + (i : Nat) = ((st + i : Nat) : Int) := by omega
      rw [show n - (st + i) = (n - (st + (i + 1))) + 1 by omega] at g1
      rw [tdGo] at g1
      show gName 4 (V.int ((st : Int) + (i : Nat))) _ _ _
      rw [hcast]
      obtain ⟨A, kvs, a1, a2, a3, a4⟩ := R2.level (l := st + i) (by rw [hG.lev]; exact hlt)
      have hul : st + i < u.length := by rw [g3.1]; exact hlt
      have hln : (vN (List.range n))[st + i]? = some (.int ((st + i : Nat) : Int)) := by rw [vN_get, List.getElem?_range hlt]; rfl
      refine ⟨_, rfl, _, rfl, d.a, _, d.dx, _, _, rfl, R2.ins, z.cl_Tower, z.n_line, rfl, _, rfl, d.aL, _, _, _, rfl, rfl, SqL.of R2.line, atI_nat hln, c, _, _, V.int (gt u (st + i) : Nat), rfl, rfl, SqT.of hc, atI_nat (by rw [vN_get, gt_some hul]; rfl), ?_⟩
      refine ⟨_, rfl, _, rfl, d.a, _, d.dx, _, _, rfl, R2.ins, z.cl_Tower, z.n_levels, rfl, _, rfl, d.aV, _, _, V.ref A, rfl, rfl, SqL.of R2.levs, atI_nat a2, A, _, rfl, DGet.k (k := kN (gt u (st + i))) a3, _, rfl, ?_⟩
      rw [KvR.val a4]
      have hDG := DGet.k (k := kN (gt u (st + i))) a3
      rw [KvR.val a4] at hDG
      cases hgt : getA (lvl s (st + i)) (gt u (st + i)) with
      | none =>
        rw [hgt] at g1
        refine iteT ⟨_, rfl, _, rfl, by show 2 ≤ 2 ^ 24; decide, fun T hT => ?_⟩
        refine q T p _ (e1.trans (Same.new hT)) hp ?_ ?_
        · rw [← g1]; exact upd_same
        · rw [← g1]; exact Same.new hT _ _ g4
      | some o =>
        rw [hgt] at g1 hDG
        refine iteF ⟨_, rfl, d.a, _, d.dx, _, _, rfl, R2.ins, z.cl_Tower, z.n_levels, rfl, _, rfl, d.aV, _, _, V.ref A, rfl, rfl, SqL.of R2.levs, atI_nat a2, _, rfl, A, _, rfl, hDG, ?_⟩
        cases o with
        | none =>
          refine ⟨_, rfl, rfl, _, rfl, iteF ?_⟩
          exact ⟨u, ps, _, g1, g2, g3, g4, by omega, e1, _, _, _, rfl⟩
        | some k =>
          obtain ⟨v1, v2, v3⟩ := hG.val _ hlt _ _ hgt
          refine ⟨_, rfl, rfl, _, rfl, iteT ?_⟩
          refine ⟨_, rfl, .inl ⟨rfl, _, SqL.of g4⟩, _, rfl, p, _, _, rfl, rfl, g4, by rw [vN_len]; show _ < 2 ^ 24; omega, ?_⟩
          have e3 : Same H (upd H3 p (.lst (vN ps ++ [V.int k]))) := Same.mut e1 hp
          have R3 := R.by e3
          obtain ⟨kb, b1, b2⟩ := R3.backs
          have hDGb := DGet.k (k := kN k) b1
          obtain ⟨vb, hvb, hib⟩ : ∃ vb, valV kb (kN k) = some vb ∧ Im (upd H3 p (.lst (vN ps ++ [V.int k]))) vb (eT (bkOf s k)) := by
            rcases b2.find kN_inj k with ⟨_, q2⟩ | ⟨vb, b, q1, q2, q3⟩
            · rw [v2] at q2; cases q2
            · rw [v2] at q2
              cases q2
              exact ⟨vb, q1, q3⟩
          rw [hvb] at hDGb
          have tk := TK.put (o := .lst (vN ps ++ [V.int k])) g4 (fun _ z => by cases z)
          refine ⟨_, rfl, _, rfl, d.a, _, d.dx, _, _, rfl, R3.ins, z.cl_Tower, z.n_backs, rfl, _, rfl, d.aK, _, rfl, hDGb, _, vb, u, bkOf s k, rfl, g2.by tk, hib, by rw [g3.1]; exact hfew, by rw [v3.1]; exact g3.2, fun r H5 e5 hr5 => ?_⟩
          refine ⟨aft u (bkOf s k), ps ++ [k], r, g1, hr5, g3.aft v3, ?_, by rw [List.length_append]; show _ + 1 ≤ _; omega, e3.trans e5, _, _, _, rfl⟩
          rw [e5 _ _ upd_same, ← vN_snoc]
          rfl
    · obtain ⟨u, ps, vu, g1, g2, g3, g4, g5, e1, w4, w5, w6, rfl⟩ := pp
      have R2 := R.by e1
      have hn0 : n - (st + (n - st)) = 0 := by omega
      have hn1 : st + (n - st) = n := by omega
      rw [hn0, hn1, tdGo] at g1
      refine ⟨_, rfl, d.a, _, d.dx, _, _, rfl, R2.ins, z.cl_Tower, z.n_line, rfl, d.aL, _, rfl, .inl (SqL.of R2.line), ?_⟩
      rw [vN_len, List.length_range]
      refine ⟨_, rfl, by show 2 ≤ 2 ^ 24; decide, fun T hT => ?_⟩
      refine q T p _ (e1.trans (Same.new hT)) hp ?_ ?_
      · rw [← g1]; exact upd_same
      · rw [← g1]; exact Same.new hT _ _ g4
end
end Sb
namespace Sb
open PySem PySem.Spec PyProof.Rows L2
theorem Same.unlock {H H' : Hp} {A : Addr} {o u : HO} (hA : H A = some u) (e : Same (upd H A o) H') : Same H (upd H' A u) := fun x p h => by
  by_cases z : x = A
  · subst z
    rw [hA] at h
    rw [upd_same]
    exact h
  · rw [upd_ne z]
    exact e x p ((upd_ne z).trans h)
theorem putS_len (s : Tw) (w : Wt) (l k i : Nat) (hi : i ≤ l + 1) : (w ++ (List.range i).flatMap fun lo => items s lo k).length ≤ (putS s w l k).2.length := by
  unfold putS
  have : List.range (l + 1) = List.range i ++ (List.range (l + 1 - i)).map (i + ·) := by
    rw [← List.range_add]
    congr 1
    omega
  simp only []
  rw [this, List.flatMap_append, ← List.append_assoc, List.length_append (as := w ++ _)]
  exact Nat.le_add_right _ _
section
variable {P : Program} {w0 : World} {K : PySem.W.Frag} {mg : Str → Option Value} {base : Heap}
theorem im_3 {H : Hp} {a : Addr} {x y k : Nat} (h : H a = some (.tup [.int x, .int y, .int k])) : Im H (.ref a) (e3 (x, y, k)) := .tup h (.cons (.int _) (.cons (.int _) (.cons (.int _) .nil)))
def spPutStrong (K : PySem.W.Frag) : Sp := fun vs H Q _ => ∃ (d : Ad) (n : Nat) (s : Tw) (w : Wt) (l k : Nat), vs = [.ref d.a, .ref d.aW, .int l, .int k] ∧ Rep K H d n s w ∧ l < s.levels.length ∧ s.levels.length ≤ 1000 ∧ s.strong.length ≤ 2000000 ∧ (putS s w l k).2.length ≤ 2000000 ∧ (∀ lo, (lvl s lo).length ≤ 1000000) ∧
  ∀ H', Frm d H H' → Rep K H' d n (putS s w l k).1 (putS s w l k).2 → Q .non H'
theorem c_put_strong (z : Z K mg) : Cal P w0 K mg base 1 "put_strong" (spPutStrong K) := by
  have S : FnScope ["tower", "waiting", "level", "number", "lower", "place"] ["tower", "waiting", "level", "number"] (defScope sPutStrong) := ⟨rfl, rfl, rfl, by decide +kernel, rfl, by decide +kernel, by decide +kernel⟩
  refine cal_by z.d_put_strong z.g_put_strong S (fun _ _ _ _ _ _ us hl => match us, hl with | [_, _, _, _], _ => rfl) (fun vs H Q E h => ?_) (fun cdv A outer s H vs Q E hr h => ?_)
  · obtain ⟨d, n, s, w, l, k, rfl, _⟩ := h
    rfl
  · obtain ⟨d, n, s, w, l, k, rfl, R, hl, hll, hs1, hs2, hs3, q⟩ := h
    refine ⟨_, pss_cons (ps_expr (pe_bm PySem.F.plainAttrs_list PySem.F.slot_list_append PySem.F.type_list_append mt_append (pe_fld (pv 0) rfl) (pa_cons (pe_tup (pa_cons (pv 2) (pa_cons (pv 3) pa_nil))) pa_nil)))
    (pss_one (ps_for PassesOwn.never rfl (pi_range1 (by rfl) z.b_range (pa_cons (pe_op op_add (pv 2) pe_int) pa_nil)) (pg_name (i := 4) S.nd rfl (Or.inr rfl))
      (pss_one (ps_expr (pe_bm PySem.F.plainAttrs_list PySem.F.slot_list_extend PySem.F.type_list_extend mt_extend (pv 1) (pa_cons (pe_lock (pe_lc (own := [("place", 5)]) (g := gName 5) rfl S.nd (pi_keys (pe_ix ix_list (pe_fld (pv 0) rfl) (pv 4) (fun _ _ => rfl))) (blkOk_by (own := [("place", 5)]) (N := ["tower", "waiting", "level", "number", "lower", "place"]) (sc := defScope sPutStrong) (by decide +kernel)) (fun _ _ _ _ _ => (pg_name (i := 5) S.nd rfl (Or.inl rfl))) (fun _ _ _ _ _ => pts_nil) (fun _ _ _ _ _ => (pe_tup (pa_cons (pv 4) (pa_cons (pv 5) (pa_cons (pv 3) pa_nil))))))) pa_nil)))))), ?_⟩
    obtain ⟨gs, g1, g2⟩ := R.strong
    have hgl := g2.mlen
    refine ⟨_, rfl, d.a, _, d.dx, _, _, rfl, R.ins, z.cl_Tower, z.n_strong, rfl, .inl ⟨rfl, _, SqL.of g1⟩, _, rfl, _, rfl, by show 2 ≤ 2 ^ 24; decide, fun T hT => ?_⟩
    have e1 := Same.new (o := HO.tup [V.int l, V.int k]) hT
    refine ⟨d.aG, _, _, rfl, rfl, e1 _ _ g1, by show _ < 2 ^ 24; omega, ?_⟩
    have R1 := (R.by e1).setG (xs := gs ++ [V.ref T]) (gs := s.strong ++ [(l, k)]) ((g2.on e1).snocM (.tup upd_same (.two (.int _) (.int _))))
    have F1 := (Frm.of (d := d) e1).trans ((R.by e1).frm (o := HO.lst (gs ++ [V.ref T])) (x := d.aG) (mem_all (i := 5) rfl))
    refine ⟨_, rfl, _, _, rfl, rfl, ((l + 1 : Nat) : Int), rfl, by omega, by omega, ?_⟩
    rw [Int.toNat_natCast]
    refine for_it walk_range (fun i σ H2 => Frm d H H2 ∧ Rep K H2 d n { s with strong := s.strong ++ [(l, k)] } (w ++ (List.range i).flatMap fun lo => items s lo k) ∧ ∃ u4 u5, σ = [some (.ref d.a), some (.ref d.aW), some (.int l), some (.int k), u4, u5])
      ⟨F1, by rw [show (w ++ (List.range 0).flatMap fun lo => items s lo k) = w by simp]; exact R1, none, none, rfl⟩ (fun i σ H2 _ p => trivial) (fun i x σ H2 H3 hi p hy => ?_) (fun σ H2 p => ?_)
    · obtain ⟨F2, R2, u4, u5, rfl⟩ := p
      obtain ⟨rfl, rfl⟩ := hy
      show gName 4 (V.int (0 + (i : Int))) _ _ _
      rw [Int.zero_add]
      obtain ⟨ws, w1, w2⟩ := R2.wait
      obtain ⟨A, kvs, a1, a2, a3, a4⟩ := R2.level (l := i) (by show i < s.levels.length; omega)
      have hAl := a4.len
      have hb := hs3 i
      have hAi : A ∈ d.all := mem_all (at_as.trans a1)
      have hdA : d.a ≠ A := at_ne R2.nd (i := 0) (j := 9 + i) rfl (at_as.trans a1) (by omega)
      have hVA : d.aV ≠ A := at_ne R2.nd (i := 4) (j := 9 + i) rfl (at_as.trans a1) (by omega)
      refine ⟨_, rfl, .inl ⟨rfl, _, SqL.of w1⟩, A, _, a3, trivial, fun od => ?_⟩
      have tkl := TK.put (o := .frz od (.dK kvs)) a3 (fun _ z => by cases z)
      refine ⟨_, rfl, d.a, _, d.dx, _, _, rfl, (upd_ne hdA).trans R2.ins, z.cl_Tower, z.n_levels, rfl, _, rfl, d.aV, _, _, V.ref A, rfl, rfl, SqL.of ((upd_ne hVA).trans R2.levs), atI_nat a2, A, od, rfl, .inl ⟨kvs, upd_same, fun D hD => ?_⟩⟩
      refine lc_data walk_keys ((items s i k).map e3) (by rw [List.length_map, items, List.length_map, hAl]; rfl) (by rw [hAl]; show (lvl s i).length ≤ 2 ^ 24; omega) hD (fun H1 e => e _ _ upd_same) (fun i H x H' y => by rw [y.1]; exact Same.refl H) (fun j y H4 H5 Nx hj e e' hy q => ?_) (fun H4 xs e h5 h6 => ?_)
      · obtain ⟨rfl, kk, v, hk1, rfl⟩ := hy
        obtain ⟨g, o, b1, rfl, b2⟩ := a4.get hk1
        refine ⟨rfl, _, rfl, _, rfl, _, rfl, by show 3 ≤ 2 ^ 24; decide, fun T2 hT2 => ?_⟩
        refine q _ _ (e3 (i, g, k)) (Same.new hT2) ?_ (im_3 upd_same)
        rw [List.getElem?_map, items, List.getElem?_map, show lvl s i = lvl { s with strong := s.strong ++ [(l, k)] } i from rfl, b1]
        rfl
      · have eu := Same.unlock a3 e
        have hDA : D ≠ A := fun z => by rw [z, upd_same] at hD; cases hD
        have R4 := R2.by eu
        have hDx : upd H4 A (.dK kvs) D = some (.lst xs) := (upd_ne hDA).trans h5
        have tk2 := TK.put (o := .dK kvs) (e _ _ (upd_same (H := H3) (a := A) (o := .frz od (.dK kvs)))) (fun _ z => by cases z)
        have h6' : Ims (upd H4 A (.dK kvs)) xs ((items s i k).map e3) := h6.by tk2
        have hle := putS_len s w l k (i + 1) (by omega)
        rw [List.range_succ, List.flatMap_append, ← List.append_assoc, List.length_append] at hle
        have hxl := h6.mlen
        have hwl := w2.mlen
        have hone : ((fun lo => items s lo k) i) = items s i k := rfl
        simp only [List.flatMap_cons, List.flatMap_nil, List.append_nil] at hle
        refine ⟨e _ _ upd_same, d.aW, D, ws, xs, rfl, rfl, eu _ _ w1, hDx, by show _ ≤ 2 ^ 24; omega, ?_⟩
        have R5 := R4.setW (xs := ws ++ xs) (w' := (w ++ (List.range i).flatMap fun lo => items s lo k) ++ items s i k) (by
          rw [List.map_append]
          exact (w2.on eu).append h6')
        refine ⟨(F2.trans (Frm.of eu)).trans (R4.frm (mem_all (i := 8) rfl)), ?_, _, _, rfl⟩
        rw [List.range_succ, List.flatMap_append, ← List.append_assoc]
        simp only [List.flatMap_cons, List.flatMap_nil, List.append_nil]
        exact R5
    · obtain ⟨F2, R2, u4, u5, rfl⟩ := p
      exact q H2 F2 R2
def spSift (K : PySem.W.Frag) : Sp := fun vs H Q _ => ∃ (d : Ad) (n : Nat) (s : Tw) (w : Wt) (k st : Nat), vs = [.ref d.a, .ref d.aW, .int k, .int st] ∧ Rep K H d n s w ∧ Good n s ∧ k < s.faces.length ∧ st ≤ n ∧ (siftM n s w k st).2.length ≤ 2000000 ∧
  ∀ H', Frm d H H' → Rep K H' d n (siftM n s w k st).1 (siftM n s w k st).2 → Q .non H'
theorem c_sift (z : Z K mg) : Cal P w0 K mg base 3 "sift" (spSift K) := by
  have S : FnScope ["tower", "waiting", "number", "start", "turn", "level", "passed", "used", "back"] ["tower", "waiting", "number", "start"] (defScope sSift) := ⟨rfl, rfl, rfl, by decide +kernel, rfl, by decide +kernel, by decide +kernel⟩
  refine cal_by z.d_sift z.g_sift S (fun _ _ _ _ _ _ us hl => match us, hl with | [_, _, _, _], _ => rfl) (fun vs H Q E h => ?_) (fun cdv A outer s H vs Q E hr h => ?_)
  · obtain ⟨d, n, s, w, k, st, rfl, _⟩ := h
    rfl
  · obtain ⟨d, n, s, w, k, st, rfl, R, hG, hk, hst, hw, q⟩ := h
    refine ⟨_, pss_cons (ps_set (i := 4) S.nd rfl (Or.inl rfl) (pe_ix ix_list (pe_fld (pv 0) rfl) (pv 2) (fun _ _ => rfl)))
    (pss_cons (ps_asg (pe_m (m_taken_down z) hr (by decide) (pv 0) (pa_cons (pv 4) (pa_cons (pv 3) pa_nil))) (pg_tup rfl (pgs_cons (pg_name (i := 5) S.nd rfl (Or.inl rfl)) (pgs_cons (pg_name (i := 6) S.nd rfl (Or.inl rfl)) pgs_nil))))
    (pss_cons (ps_if (pt_cmpR op_eq (pv 5) (pe_callB call_len_seq (by rfl) z.b_len boot_len (pa_cons (pe_fld (pv 0) rfl) pa_nil)) (nomark _))
      (pss_one ps_retN)
      pss_nil)
    (pss_cons (ps_for PassesOwn.never rfl (pi_list (pv 6)) (pg_name (i := 7) S.nd rfl (Or.inl rfl))
      (pss_cons (ps_set (i := 8) S.nd rfl (Or.inl rfl) (pe_m (m_back_step z) hr (by decide) (pv 0) (pa_cons (pv 7) pa_nil)))
      (pss_cons (ps_set (i := 4) S.nd rfl (Or.inl rfl) (pe_f (c_after z) hr (by decide) rfl (pa_cons (pv 4) (pa_cons (pe_ix ix_list (pe_fld (pv 0) rfl) (pv 8) (fun _ _ => rfl)) pa_nil))))
      (pss_one (ps_set (i := 2) S.nd rfl (Or.inl rfl) (pe_m (m_added z) hr (by decide) (pv 0) (pa_cons (pe_tup (pa_cons (pv 2) (pa_cons (pv 8) pa_nil))) (pa_cons (pv 4) pa_nil))))))))
    (pss_one (ps_expr (pe_f (c_put_strong z) hr (by decide) rfl (pa_cons (pv 0) (pa_cons (pv 1) (pa_cons (pv 5) (pa_cons (pv 2) pa_nil)))))))))), ?_⟩
    obtain ⟨fs, v, f1, f2, f3⟩ := R.face hk
    have htk := hG.tn _ (fac_mem hk)
    obtain ⟨t1, t2, t3⟩ := td_ok hG htk hst
    have hfew := hG.few
    refine ⟨_, rfl, d.a, _, d.dx, _, _, rfl, R.ins, z.cl_Tower, z.n_faces, rfl, _, rfl, d.aF, _, _, v, rfl, rfl, SqL.of f1, atI_nat f2, ?_⟩
    refine ⟨_, rfl, d.a, d.dx, _, rfl, R.ins, rfl, _, rfl, _, rfl, d, n, s, w, v, fac s k, st, rfl, R, hG, f3, htk, hst, fun a p H1 e1 hp ha hpl => ?_⟩
    have R1 := R.by e1
    refine ⟨a, _, rfl, SqT.of ha, rfl, _, _, rfl, _, _, rfl, rfl, ?_⟩
    refine ⟨_, rfl, _, rfl, d.a, _, d.dx, _, _, rfl, R1.ins, z.cl_Tower, z.n_line, rfl, d.aL, _, rfl, .inl (SqL.of R1.line), rfl, _, rfl, ?_⟩
    rw [vN_len, List.length_range]
    have hpn : p ∉ d.all := fun m => by
      obtain ⟨o, ho, _⟩ := R.there p m
      rw [hp] at ho
      cases ho
    by_cases hlv : (td n s (fac s k) st).1 = n
    · have eM : siftM n s w k st = (s, w) := by unfold siftM; simp only [if_pos hlv]
      rw [eM] at q
      rw [decide_eq_true (congrArg (fun x : Nat => V.int x) hlv)]
      exact iteT (q H1 (Frm.of e1) R1)
    · have eM : siftM n s w k st = putS (useGo s (fac s k) k (td n s (fac s k) st).2).1 w (td n s (fac s k) st).1 (useGo s (fac s k) k (td n s (fac s k) st).2).2.2 := by unfold siftM; simp only [if_neg hlv]
      rw [eM] at q hw
      rw [decide_eq_false fun z => hlv (by have := V.int.inj z; omega)]
      refine iteF ?_
      generalize htd : td n s (fac s k) st = r at *
      have hU := useGo_ok hG htk hk t2
      have hsm := hG.small
      refine ⟨_, rfl, p, rfl, ⟨_, SqL.of hpl⟩, for_it (walk_list (xs := vN r.2)) (fun i σ H2 => Frm d H H2 ∧ H2 p = some (.lst (vN r.2)) ∧ Rep K H2 d n ((r.2.take i).foldl useStep (s, fac s k, k)).1 w ∧ ∃ vt u7 u8, Im H2 vt (eT ((r.2.take i).foldl useStep (s, fac s k, k)).2.1) ∧ σ = [some (.ref d.a), some (.ref d.aW), some (.int ((r.2.take i).foldl useStep (s, fac s k, k)).2.2), some (.int st), some vt, some (.int r.1), some (.ref p), u7, u8])
        ⟨Frm.of e1, hpl, R1, v, none, none, f3.on e1, rfl⟩ (fun i σ H2 _ p => SqL.of p.2.1) (fun i x σ H2 H3 hi pp hy => ?_) (fun σ H2 pp => ?_)⟩
      · obtain ⟨F2, hp2, R2, vt, u7, u8, hvt, rfl⟩ := pp
        obtain ⟨rfl, hc⟩ := hy
        rw [vN_len] at hi
        rw [vN_get, gt_some hi] at hc
        cases hc
        have hui := hU i (by omega)
        have hum := t2 _ (gt_mem hi)
        have hnx : (r.2.take (i + 1)).foldl useStep (s, fac s k, k) = useStep ((r.2.take i).foldl useStep (s, fac s k, k)) (gt r.2 i) := by
          rw [take_some (gt_some hi), List.foldl_append]
          rfl
        rw [hnx]
        generalize (r.2.take i).foldl useStep (s, fac s k, k) = x at *
        obtain ⟨g, hg1, hg2⟩ := hui.ext
        have hxl : x.1.faces.length ≤ 1002000 := by rw [hg1, List.length_append]; omega
        have hux : gt r.2 i < x.1.faces.length := by rw [hg1, List.length_append]; omega
        obtain ⟨b1, b2, b3, b4, b5, b6, ⟨g2, b7, b8⟩, b9, b10, b11⟩ := backF_ok hui.steps hui.tn hui.bw hux
        have hbl := hui.bwl.1
        refine ⟨_, rfl, d.a, d.dx, _, rfl, R2.ins, rfl, _, rfl, d, n, x.1, w, gt r.2 i, rfl, R2, hux, hui.tn _ (fac_mem hux), hfew, by omega, hui.steps, by omega, fun H4 F4 R4 => ?_⟩
        obtain ⟨fs2, v2, c1, c2, c3⟩ := R4.face b1
        refine ⟨_, rfl, _, rfl, d.a, _, d.dx, _, _, rfl, R4.ins, z.cl_Tower, z.n_faces, rfl, _, rfl, d.aF, _, _, v2, rfl, rfl, SqL.of c1, atI_nat c2, vt, v2, x.2.1, _, rfl, hvt.by F4.tk, c3, by rw [hui.turn.1]; exact hfew, by rw [(b6 _ (fac_mem b1)).1]; exact hui.turn.2, fun r5 H5 e5 hr5 => ?_⟩
        have R5 := R4.by e5
        have hl5 : (backF x.1 (gt r.2 i)).2.faces.length ≤ 1002001 := by rw [b7, List.length_append]; omega
        refine ⟨_, rfl, d.a, d.dx, _, rfl, R5.ins, rfl, _, rfl, _, rfl, by show 2 ≤ 2 ^ 24; decide, fun T hT => ⟨_, rfl, d, n, _, w, .ref T, r5, _, rfl, R5.by (Same.new hT), hr5.on (Same.new hT), by omega, b5, fun H6 F6 R6 => ?_⟩⟩
        have F7 := ((F4.trans (Frm.of e5)).trans (Frm.of (Same.new hT))).trans F6
        exact ⟨F2.trans F7, F7.keep _ _ hpn hp2, R6, r5, _, _, (hr5.on (Same.new hT)).by F6.tk, rfl⟩
      · obtain ⟨F2, hp2, R2, vt, u7, u8, hvt, rfl⟩ := pp
        rw [vN_len, List.take_length] at R2
        have hui := hU r.2.length (Nat.le_refl _)
        rw [List.take_length] at hui
        have hrl : (vN r.2).length = r.2.length := vN_len _
        refine ⟨_, rfl, _, rfl, _, rfl, _, rfl, d, n, _, w, r.1, _, rfl, R2, ?_, ?_, ?_, ?_, ?_, fun H3 F3 R3 => ?_⟩
        · rw [hui.levels, hG.lev]
          omega
        · rw [hui.levels, hG.lev]; exact hfew
        · rw [hui.strong]; omega
        · rw [hrl, List.take_length]
          exact hw
        · intro lo
          unfold lvl
          rw [hui.levels]
          exact hsm.2.2.2.2 lo
        · rw [hrl, List.take_length] at R3
          exact q H3 (F2.trans F3) R3
end
end Sb
namespace Sb
open PySem PySem.Spec PyProof.Rows L2
theorem filt_push (l g : Nat) : ∀ es : List (Nat × Nat), es.filterMap (fun e => if l ≤ e.1 then some (e3 (l, g, e.2)) else none) = ((es.filter fun e => decide (l ≤ e.1)).map fun e => (l, g, e.2)).map e3
  | [] => rfl
  | e :: es => by
    by_cases c : l ≤ e.1
    · simp only [List.filterMap_cons, List.filter_cons, c, if_true, decide_true, filt_push l g es, List.map_cons]
    · simp only [List.filterMap_cons, List.filter_cons, c, if_false, decide_false, filt_push l g es, Bool.false_eq_true]
section
variable {P : Program} {w0 : World} {K : PySem.W.Frag} {mg : Str → Option Value} {base : Heap}
def spWork (K : PySem.W.Frag) : Sp := fun vs H Q _ => ∃ (d : Ad) (n : Nat) (s : Tw) (w : Wt) (l p k : Nat), vs = [.ref d.a, .ref d.aW, .int l, .int p, .int k] ∧ Rep K H d n s w ∧ Good n s ∧ l < n ∧ p ∈ keysL (lvl s l) ∧ k < s.faces.length ∧ s.faces.length < 1000000 ∧ (workM n s w (l, p, k)).2.length ≤ 2000000 ∧
  ∀ H', Frm d H H' → Rep K H' d n (workM n s w (l, p, k)).1 (workM n s w (l, p, k)).2 → Q .non H'
theorem c_work (z : Z K mg) : Cal P w0 K mg base 4 "work" (spWork K) := by
  have S : FnScope ["tower", "waiting", "level", "place", "number", "first", "turn", "goal", "depth", "other"] ["tower", "waiting", "level", "place", "number"] (defScope sWork) := ⟨rfl, rfl, rfl, by decide +kernel, rfl, by decide +kernel, by decide +kernel⟩
  refine cal_by z.d_work z.g_work S (fun _ _ _ _ _ _ us hl => match us, hl with | [_, _, _, _, _], _ => rfl) (fun vs H Q E h => ?_) (fun cdv A outer s H vs Q E hr h => ?_)
  · obtain ⟨d, n, s, w, l, p, k, rfl, _⟩ := h
    rfl
  · obtain ⟨d, n, s, w, l, p, k, rfl, R, hG, hl, hp, hk, hs0, hw, q⟩ := h
    refine ⟨_, pss_cons (ps_set (i := 5) S.nd rfl (Or.inl rfl) (pe_dget (hu_of hr) (pe_ix ix_list (pe_fld (pv 0) rfl) (pv 2) (fun _ _ => rfl)) (pv 3) (fun _ _ => rfl)))
    (pss_cons (ps_set (i := 6) S.nd rfl (Or.inl rfl) (pe_f (c_after z) hr (by decide) rfl (pa_cons (pe_m (m_face z) hr (by decide) (pv 0) (pa_cons (pv 5) pa_nil)) (pa_cons (pe_ix ix_list (pe_fld (pv 0) rfl) (pv 4) (fun _ _ => rfl)) pa_nil))))
    (pss_cons (ps_set (i := 7) S.nd rfl (Or.inr rfl) (pe_ix ix_tup (pv 6) (pe_ix ix_list (pe_fld (pv 0) rfl) (pv 2) (fun _ _ => rfl)) (fun _ _ => rfl)))
    (pss_one (ps_if (pt_cmp (pc_dnotin (hu_of hr) (pv 7) (pe_ix ix_list (pe_fld (pv 0) rfl) (pv 2) (fun _ _ => rfl))))
      (pss_cons (ps_expr (pe_m (m_lead z) hr (by decide) (pv 0) (pa_cons (pv 2) (pa_cons (pv 7) (pa_cons (pe_ifExp (pt_cmpR op_isN (pv 5) pe_non (nomark _)) (pv 4) (pe_m (m_added z) hr (by decide) (pv 0) (pa_cons (pe_tup (pa_cons (pv 5) (pa_cons (pv 4) pa_nil))) (pa_cons (pv 6) pa_nil)))) pa_nil)))))
      (pss_one (ps_expr (pe_bm PySem.F.plainAttrs_list PySem.F.slot_list_extend PySem.F.type_list_extend mt_extend (pv 1) (pa_cons (pe_lc (own := [("depth", 8), ("other", 9)]) (g := gTup K 2 (gCons (gName 8) (gCons (gName 9) gNil))) rfl S.nd (pi_list (pe_fld (pv 0) rfl)) (blkOk_by (own := [("depth", 8), ("other", 9)]) (N := ["tower", "waiting", "level", "place", "number", "first", "turn", "goal", "depth", "other"]) (sc := defScope sWork) (by decide +kernel)) (fun _ _ _ _ _ => (pg_tup rfl (pgs_cons (pg_name (i := 8) S.nd rfl (Or.inl rfl)) (pgs_cons (pg_name (i := 9) S.nd rfl (Or.inl rfl)) pgs_nil)))) (fun _ _ _ _ _ => pts_one (pt_cmpR op_ge (pv 8) (pv 2) (nomark _))) (fun _ _ _ _ _ => (pe_tup (pa_cons (pv 2) (pa_cons (pv 7) (pa_cons (pv 9) pa_nil)))))) pa_nil)))))
      (pss_one (ps_if (pt_cmpR op_isN (pv 5) pe_non (nomark _))
        (pss_one (ps_expr (pe_f (c_sift z) hr (by decide) rfl (pa_cons (pv 0) (pa_cons (pv 1) (pa_cons (pv 4) (pa_cons (pv 2) pa_nil)))))))
        (pss_one (ps_if (pt_cmpR op_lt (pe_ix ix_tup (pe_m (m_taken_down z) hr (by decide) (pv 0) (pa_cons (pv 6) (pa_cons (pv 2) pa_nil))) pe_int (fun _ _ => rfl)) (pe_callB call_len_seq (by rfl) z.b_len boot_len (pa_cons (pe_fld (pv 0) rfl) pa_nil)) (nomark _))
          (pss_one (ps_expr (pe_f (c_sift z) hr (by decide) rfl (pa_cons (pv 0) (pa_cons (pv 1) (pa_cons (pe_m (m_added z) hr (by decide) (pv 0) (pa_cons (pe_tup (pa_cons (pv 5) (pa_cons (pv 4) pa_nil))) (pa_cons (pv 6) pa_nil))) (pa_cons (pv 2) pa_nil)))))))
          pss_nil)))))))), ?_⟩
    have hfew := hG.few
    have hsm := hG.small
    obtain ⟨A, kvs, a1, a2, a3, a4⟩ := R.level (l := l) (by rw [hG.lev]; exact hl)
    obtain ⟨first, hfirst⟩ := getA_some_iff.mpr hp
    have hDG := DGet.k (k := kN p) a3
    rw [KvR.val a4, hfirst] at hDG
    have hfk : ∀ f, first = some f → f < s.faces.length := fun f e => (hG.val l hl p f (by rw [hfirst, e])).1
    have hgetD : (getA (lvl s l) p).getD none = first := by rw [hfirst]; rfl
    refine ⟨_, rfl, d.a, _, d.dx, _, _, rfl, R.ins, z.cl_Tower, z.n_levels, rfl, _, rfl, d.aV, _, _, V.ref A, rfl, rfl, SqL.of R.levs, atI_nat a2, _, rfl, A, _, rfl, hDG, ?_⟩
    refine ⟨_, rfl, d.a, d.dx, _, rfl, R.ins, rfl, _, rfl, d, n, s, w, first, rfl, R, hfew, hfk, fun vf H1 e1 hvf => ?_⟩
    have R1 := R.by e1
    obtain ⟨fs, vk, f1, f2, f3⟩ := R1.face hk
    have htf := fce_tn hG hfk
    have htk := hG.tn _ (fac_mem hk)
    refine ⟨_, rfl, d.a, _, d.dx, _, _, rfl, R1.ins, z.cl_Tower, z.n_faces, rfl, _, rfl, d.aF, _, _, vk, rfl, rfl, SqL.of f1, atI_nat f2, vf, vk, _, _, rfl, hvf, f3, by rw [htf.1]; exact hfew, by rw [htk.1]; exact htf.2, fun vt H2 e2 hvt => ?_⟩
    have e12 := e1.trans e2
    have R2 := R.by e12
    have htt : Tn n (aft (fce n s first) (fac s k)) := htf.aft htk
    obtain ⟨m1, m2, m3, m4⟩ := workM_eq (n := n) (w := w) (k := k) hgetD rfl
    generalize aft (fce n s first) (fac s k) = t at *
    obtain ⟨c, rfl, hc⟩ := hvt.tE
    have htl : l < t.length := by rw [htt.1]; exact hl
    have hln : (vN (List.range n))[l]? = some (.int (l : Int)) := by rw [vN_get, List.getElem?_range hl]; rfl
    obtain ⟨A2, kv2, a5, a6, a7, a8⟩ := R2.level (l := l) (by rw [hG.lev]; exact hl)
    refine ⟨_, rfl, _, rfl, d.a, _, d.dx, _, _, rfl, R2.ins, z.cl_Tower, z.n_line, rfl, _, rfl, d.aL, _, _, _, rfl, rfl, SqL.of R2.line, atI_nat hln, c, _, _, V.int (gt t l : Nat), rfl, rfl, SqT.of hc, atI_nat (by rw [vN_get, gt_some htl]; rfl), ?_⟩
    refine ⟨_, rfl, _, rfl, d.a, _, d.dx, _, _, rfl, R2.ins, z.cl_Tower, z.n_levels, rfl, _, rfl, d.aV, _, _, V.ref A2, rfl, rfl, SqL.of R2.levs, atI_nat a6, A2, _, rfl, DGet.k (k := kN (gt t l)) a7, _, rfl, ?_⟩
    rw [KvR.val a8]
    by_cases hin : gt t l ∈ keysL (lvl s l)
    case pos =>
      obtain ⟨o, ho⟩ := getA_some_iff.mpr hin
      rw [ho]
      refine iteF ?_
      replace m1 := m1 hin
      replace m2 := m2 hin
      clear m3 m4
      cases first with
      | none =>
        have hwM := m1 rfl
        rw [hwM] at q hw
        refine ⟨_, rfl, rfl, _, rfl, iteT ?_⟩
        exact ⟨_, rfl, _, rfl, _, rfl, _, rfl, d, n, s, w, k, l, rfl, R2, hG, hk, by omega, hw, fun H3 F3 R3 => q H3 ((Frm.of e12).trans F3) R3⟩
      | some f =>
        refine ⟨_, rfl, rfl, _, rfl, iteF ?_⟩
        refine ⟨_, rfl, d.a, d.dx, _, rfl, R2.ins, rfl, _, rfl, _, rfl, d, n, s, w, .ref c, t, l, rfl, R2, hG, hvt, htt, by omega, fun a pp H3 e3 hpp ha hpl => ?_⟩
        have R3 := R2.by e3
        refine ⟨a, _, _, _, rfl, rfl, SqT.of ha, rfl, ?_⟩
        refine ⟨_, rfl, d.a, _, d.dx, _, _, rfl, R3.ins, z.cl_Tower, z.n_line, rfl, d.aL, _, rfl, .inl (SqL.of R3.line), _, _, rfl, rfl, _, rfl, ?_⟩
        rw [vN_len, List.length_range]
        have e13 := e12.trans e3
        have hwM := m2 f rfl
        by_cases hlt : (td n s t l).1 < n
        · rw [if_pos hlt] at hwM
          rw [hwM] at q hw
          rw [decide_eq_true (by omega)]
          refine iteT ⟨_, rfl, _, rfl, _, rfl, d.a, d.dx, _, rfl, R3.ins, rfl, _, rfl, _, rfl, by show 2 ≤ 2 ^ 24; decide, fun T hT => ⟨_, rfl, d, n, s, w, .ref T, .ref c, t, rfl, R3.by (Same.new hT), hvt.on (e3.trans (Same.new hT)), by omega, hG.steps, fun H4 F4 R4 => ?_⟩⟩
          have hst : s.steps < (addF s t).faces.length := by rw [addF_faces, hG.steps]; omega
          exact ⟨_, rfl, d, n, addF s t, w, s.steps, l, rfl, R4, hG.addF htt hs0, hst, by omega, hw, fun H5 F5 R5 => q H5 (((Frm.of (e13.trans (Same.new hT))).trans F4).trans F5) R5⟩
        · rw [if_neg hlt] at hwM
          rw [hwM] at q
          rw [decide_eq_false (by omega)]
          exact iteF (q H3 (Frm.of e13) R3)
    case neg =>
      rw [getA_none.mpr hin]
      refine iteT ?_
      replace m3 := m3 hin
      replace m4 := m4 hin
      clear m1 m2
      -- behind the lead
      have hfin : ∀ (s2 : Tw) (H3 : Hp), Frm d H H3 → Rep K H3 d n s2 w → s2.strong = s.strong → workM n s w (l, p, k) = (s2, w ++ pushed s l (gt t l)) → ∀ (s5 s6 : Option V),
          tDrop (tBM K "list" rExtend (tVar 1) (tCons (tLc (iList K (tFld K (tVar 0) "strong")) (gTup K 2 (gCons (gName 8) (gCons (gName 9) gNil))) (tTest (tOp (rI0 fun i j => V.bl (decide (i ≥ j))) (tVar 8) (tVar 2))) (tTup (tCons (tVar 2) (tCons (tVar 7) (tCons (tVar 9) tNil)))) [8, 9]) tNil)) { nx := fun _ H' => Q .non H', rt := Q }
            [some (.ref d.a), some (.ref d.aW), some (.int l), some (.int p), some (.int k), s5, s6, some (.int (gt t l : Nat)), none, none] H3 := by
        intro s2 H3 F3 R3 hst hM s5 s6
        obtain ⟨ws, w1, w2⟩ := R3.wait
        obtain ⟨gs, g1, g2⟩ := R3.strong
        rw [hst] at g2
        have hgl := g2.mlen
        refine ⟨_, rfl, .inl ⟨rfl, _, SqL.of w1⟩, _, rfl, d.a, _, d.dx, _, _, rfl, R3.ins, z.cl_Tower, z.n_strong, rfl, d.aG, rfl, ⟨_, SqL.of g1⟩, fun D hD => ?_⟩
        refine lc_dataF (walk_list (xs := gs)) (fun i => (s.strong[i]?).bind fun e => if l ≤ e.1 then some (e3 (l, gt t l, e.2)) else none) (by rw [hgl]; show _ ≤ 2 ^ 24; omega) hD (fun H4 e => SqL.of (e _ _ g1)) yat_same (fun i y H4 H5 Nx Ns hi e4 e5 hy q1 q2 => ?_) (fun H4 xs e4 h5 h6 => ?_)
        · obtain ⟨rfl, hc⟩ := hy
          obtain ⟨e, h7, h8⟩ := (g2.on e4).mget hc
          obtain ⟨c, ys, rfl, h9, h10⟩ := h8.tupE
          obtain ⟨x1, x2, rfl, m1, m2⟩ := h10.twoE
          cases m1
          cases m2
          refine ⟨c, _, rfl, SqT.of h9, rfl, _, _, rfl, _, _, rfl, rfl, rfl, _, rfl, _, rfl, _, _, rfl, rfl, _, rfl, ?_⟩
          by_cases hge : l ≤ e.1
          · rw [decide_eq_true (by omega)]
            refine iteT ⟨_, rfl, _, rfl, _, rfl, by show 3 ≤ 2 ^ 24; decide, fun T hT => ?_⟩
            exact q1 _ _ (e3 (l, gt t l, e.2)) (Same.new hT) (by simp only [h7, Option.bind_some]; rw [if_pos hge]) (im_3 upd_same)
          · rw [decide_eq_false (by omega)]
            exact iteF (q2 _ (Same.refl _) (by simp only [h7, Option.bind_some]; rw [if_neg hge]))
        · have R4 := R3.by e4
          have hlenw := w2.mlen
          have e9 : (List.range gs.length).filterMap (fun i => (s.strong[i]?).bind fun e => if l ≤ e.1 then some (e3 (l, gt t l, e.2)) else none) = (pushed s l (gt t l)).map e3 := by
            rw [hgl, range_filterMap _ _ _ (Nat.le_refl _), List.take_length]
            exact filt_push _ _ _
          rw [e9] at h6
          have hxl := h6.mlen
          rw [hM] at hw q
          rw [List.length_append] at hw
          refine ⟨d.aW, D, ws, xs, rfl, rfl, e4 _ _ w1, h5, by show _ ≤ 2 ^ 24; omega, ?_⟩
          have R5 := R4.setW (xs := ws ++ xs) (w' := w ++ pushed s l (gt t l)) (by
            rw [List.map_append]
            exact (w2.on e4).append h6)
          exact q _ ((F3.trans (Frm.of e4)).trans (R4.frm (mem_all (i := 8) rfl))) R5
      cases first with
      | none =>
        refine ⟨_, rfl, d.a, d.dx, _, rfl, R2.ins, rfl, _, rfl, _, rfl, _, rfl, rfl, _, rfl, iteT ⟨_, rfl, ?_⟩⟩
        refine ⟨d, n, s, w, l, gt t l, k, rfl, R2, by rw [hG.lev]; exact hl, hk, htk, hfew, hsm.2.2.2.2 l, hsm.2.2.1, fun H3 F3 R3 => ?_⟩
        exact hfin _ H3 ((Frm.of e12).trans F3) R3 rfl (m3 rfl) _ _
      | some f =>
        refine ⟨_, rfl, d.a, d.dx, _, rfl, R2.ins, rfl, _, rfl, _, rfl, _, rfl, rfl, _, rfl, iteF ⟨_, rfl, d.a, d.dx, _, rfl, R2.ins, rfl, _, rfl, _, rfl, by show 2 ≤ 2 ^ 24; decide, fun T hT => ⟨_, rfl, d, n, s, w, .ref T, .ref c, t, rfl, R2.by (Same.new hT), hvt.on (Same.new hT), by omega, hG.steps, fun H3 F3 R3 => ?_⟩⟩⟩
        have hst : s.steps < (addF s t).faces.length := by rw [addF_faces, hG.steps]; omega
        refine ⟨d, n, addF s t, w, l, gt t l, s.steps, rfl, R3, ?_, hst, ?_, hfew, hsm.2.2.2.2 l, hsm.2.2.1, fun H4 F4 R4 => ?_⟩
        · show l < s.levels.length
          rw [hG.lev]; exact hl
        · rw [fac_last s t hG.steps]; exact htt
        · exact hfin _ H4 (((Frm.of (e12.trans (Same.new hT))).trans F3).trans F4) R4 rfl (m4 f rfl) _ _
end
end Sb
namespace Sb
def entries (s : Tw) : Nat := (s.levels.map List.length).sum
structure Core (n : Nat) (s : Tw) : Prop where
  steps : s.steps = s.faces.length
  tn : ∀ t ∈ s.faces, Tn n t
  lev : s.levels.length = n
  keyb : ∀ l, l < n → ∀ g ∈ keysL (lvl s l), g < n
  knd : ∀ l, l < n → (keysL (lvl s l)).Nodup
  diag : ∀ l, l < n → ∃ r, lvl s l = (l, none) :: r
  val : ∀ l, l < n → ∀ g k, getA (lvl s l) g = some (some k) → k < s.faces.length ∧ getA s.backs k = some (bck (fac s k))
  bw : ∀ k b, getA s.backward k = some b → b < s.faces.length ∧ k < s.faces.length ∧ fac s b = bck (fac s k)
  bkl : s.backs.length ≤ entries s
  bkv : ∀ k t, getA s.backs k = some t → k < s.faces.length ∧ t = bck (fac s k)
  bwl : s.backward.length ≤ s.faces.length
  str : ∀ e ∈ s.strong, e.1 < n ∧ e.2 < s.faces.length
theorem sum_le {b : Nat} : ∀ {xs : List Nat}, (∀ x ∈ xs, x ≤ b) → xs.sum ≤ xs.length * b
  | [], _ => Nat.zero_le _
  | x :: xs, h => by
    have h1 := h x (List.mem_cons_self ..)
    have h2 := sum_le (xs := xs) fun y m => h y (List.mem_cons_of_mem _ m)
    rw [List.sum_cons, List.length_cons, Nat.succ_mul]
    omega
theorem sum_set : ∀ {xs : List Nat} {l v : Nat}, l < xs.length → (xs.set l v).sum + xs.getD l 0 = xs.sum + v
  | [], l, v, h => absurd h (Nat.not_lt_zero _)
  | x :: xs, 0, v, _ => by
    simp only [List.set_cons_zero, List.sum_cons, List.getD_cons_zero]
    omega
  | x :: xs, l + 1, v, h => by
    have := sum_set (xs := xs) (l := l) (v := v) (by simpa using h)
    simp only [List.set_cons_succ, List.sum_cons, List.getD_cons_succ]
    omega
section
variable {n : Nat} {s : Tw}
theorem Core.lvl_len (h : Core n s) {l : Nat} (hl : l < n) : (lvl s l).length ≤ n := by
  have h1 := List.Nodup.length_le_of_subset (l₂ := List.range n) (h.knd l hl) fun x m => List.mem_range.mpr (h.keyb l hl x m)
  rw [List.length_range] at h1
  have h2 : (keysL (lvl s l)).length = (lvl s l).length := List.length_map ..
  omega
theorem lvl_out {l : Nat} (h : s.levels.length ≤ l) : lvl s l = [] := by
  unfold lvl
  rw [List.getD_eq_getElem?_getD, List.getElem?_eq_none h]
  rfl
theorem lvl_at {l : Nat} (h : l < s.levels.length) : s.levels[l]? = some (lvl s l) := lvl_some h
theorem Core.entries_le (h : Core n s) (h5 : n ≤ 5) : entries s ≤ 25 := by
  have h1 : entries s ≤ (s.levels.map List.length).length * n := sum_le fun x m => by
    obtain ⟨b, hb, rfl⟩ := List.mem_map.mp m
    obtain ⟨l, hl⟩ := List.getElem?_of_mem hb
    have hl2 := (List.getElem?_eq_some_iff.mp hl).1
    rw [lvl_at hl2] at hl
    cases hl
    exact h.lvl_len (by rw [← h.lev]; exact hl2)
  rw [List.length_map, h.lev] at h1
  have : n * n ≤ 5 * 5 := Nat.mul_le_mul h5 h5
  omega
theorem Core.good (h : Core n s) (h5 : n ≤ 5) (hf : s.faces.length ≤ 1000000) (hs : s.strong.length ≤ 1000000) : Good n s := by
  have he := h.entries_le h5
  have h1 := h.bkl
  have h2 := h.bwl
  refine ⟨h.steps, h.tn, h.lev, fun l hl g k e => ?_, fun k b e => (h.bw k b e).1, ⟨hf, by omega, by omega, hs, fun l => ?_⟩, by omega⟩
  · obtain ⟨v1, v2⟩ := h.val l hl g k e
    have : bkOf s k = bck (fac s k) := by unfold bkOf; rw [v2]; rfl
    rw [this]
    exact ⟨v1, v2, (h.tn _ (fac_mem v1)).bck⟩
  · by_cases c : l < n
    · have := h.lvl_len c; omega
    · rw [lvl_out (by rw [h.lev]; omega)]; exact Nat.zero_le _
theorem fac_add {t : Trn} {k : Nat} (hk : k < s.faces.length) : fac (addF s t) k = fac s k := fac_ext (s := addF s t) (s0 := s) (g := [t]) rfl hk
theorem Core.add (h : Core n s) {t : Trn} (ht : Tn n t) : Core n (addF s t) := by
  have hl := addF_faces s t
  refine ⟨?_, fun u m => ?_, h.lev, h.keyb, h.knd, h.diag, fun l hl' g k e => ?_, fun k b e => ?_, h.bkl, fun k u e => ?_, ?_, fun e m => ?_⟩
  · show s.steps + 1 = _
    rw [hl, h.steps]
  · rcases List.mem_append.mp m with m | m
    · exact h.tn u m
    · rw [List.mem_singleton.mp m]; exact ht
  · obtain ⟨h1, h2⟩ := h.val l hl' g k e
    exact ⟨by omega, by rw [fac_add h1]; exact h2⟩
  · obtain ⟨h1, h2, h3⟩ := h.bw k b e
    exact ⟨by omega, by omega, by rw [fac_add h1, fac_add h2]; exact h3⟩
  · obtain ⟨h1, h2⟩ := h.bkv k u e
    exact ⟨by omega, by rw [fac_add h1]; exact h2⟩
  · have := h.bwl
    show s.backward.length ≤ _
    omega
  · obtain ⟨h1, h2⟩ := h.str e m
    exact ⟨h1, by omega⟩
theorem Core.back (h : Core n s) {u : Nat} (hu : u < s.faces.length) : Core n (backF s u).2 ∧ (backF s u).1 < (backF s u).2.faces.length ∧ fac (backF s u).2 (backF s u).1 = bck (fac s u) ∧ (backF s u).2.levels = s.levels ∧ (backF s u).2.backs = s.backs ∧ (backF s u).2.strong = s.strong ∧
    ∃ g, (backF s u).2.faces = s.faces ++ g ∧ g.length ≤ 1 := by
  unfold backF
  cases e : getA s.backward u with
  | some b =>
    obtain ⟨h1, h2, h3⟩ := h.bw u b e
    exact ⟨h, h1, h3, rfl, rfl, rfl, [], (List.append_nil _).symm, Nat.zero_le _⟩
  | none =>
    have ht := (h.tn _ (fac_mem hu)).bck
    have hc := h.add ht
    have hl := addF_faces s (bck (fac s u))
    have hst : s.steps < (addF s (bck (fac s u))).faces.length := by rw [hl, h.steps]; omega
    refine ⟨⟨hc.steps, hc.tn, hc.lev, hc.keyb, hc.knd, hc.diag, hc.val, fun k b hb => ?_, hc.bkl, hc.bkv, ?_, hc.str⟩, hst, fac_last s _ h.steps, rfl, rfl, rfl, [bck (fac s u)], rfl, Nat.le_refl _⟩
    · have hb' : getA (s.backward ++ [(u, s.steps)]) k = some b := hb
      rw [getA_app_none e] at hb'
      split at hb'
      · rename_i hk
        cases hb'
        subst hk
        refine ⟨hst, by show _ < (addF s (bck (fac s k))).faces.length; omega, ?_⟩
        show fac (addF s (bck (fac s k))) s.steps = bck (fac (addF s (bck (fac s k))) k)
        rw [fac_last s _ h.steps, fac_add hu]
      · exact hc.bw k b hb'
    · show (s.backward ++ [(u, s.steps)]).length ≤ (addF s (bck (fac s u))).faces.length
      rw [List.length_append, hl]
      have := h.bwl
      show s.backward.length + 1 ≤ _
      omega
/-- what is left of a turn when these are taken off -/
def resid (s : Tw) (t : Trn) (ps : List Nat) : Trn := ps.foldl (fun t u => aft t (bck (fac s u))) t
structure UsC (n : Nat) (s0 : Tw) (t0 : Trn) (ps : List Nat) (x : Tw × Trn × Nat) : Prop where
  core : Core n x.1
  levels : x.1.levels = s0.levels
  strong : x.1.strong = s0.strong
  ext : ∃ g, x.1.faces = s0.faces ++ g ∧ g.length ≤ 2 * ps.length
  turn : x.2.1 = resid s0 t0 ps
  tn : Tn n x.2.1
  num : x.2.2 < x.1.faces.length
  face : fac x.1 x.2.2 = x.2.1
theorem UsC.next {s0 : Tw} {t0 : Trn} {ps : List Nat} {x : Tw × Trn × Nat} (h : UsC n s0 t0 ps x) {u : Nat} (hu : u < s0.faces.length) : UsC n s0 t0 (ps ++ [u]) (useStep x u) := by
  obtain ⟨g, hg, hgl⟩ := h.ext
  have hux : u < x.1.faces.length := by rw [hg, List.length_append]; omega
  obtain ⟨c1, c2, c3, c4, c5, c6, g2, c7, c8⟩ := h.core.back hux
  have hfu : fac x.1 u = fac s0 u := fac_ext hg hu
  have htn : Tn n (aft x.2.1 (fac (backF x.1 u).2 (backF x.1 u).1)) := h.tn.aft (c1.tn _ (fac_mem c2))
  have hl := addF_faces (backF x.1 u).2 (aft x.2.1 (fac (backF x.1 u).2 (backF x.1 u).1))
  refine ⟨c1.add htn, c4.trans h.levels, c6.trans h.strong, ⟨g ++ g2 ++ [aft x.2.1 (fac (backF x.1 u).2 (backF x.1 u).1)], ?_, ?_⟩, ?_, htn, ?_, fac_last _ _ c1.steps⟩
  · show (backF x.1 u).2.faces ++ _ = _
    rw [c7, hg]
    simp only [List.append_assoc]
  · rw [List.length_append, List.length_append, List.length_append]
    show g.length + g2.length + 1 ≤ 2 * (ps.length + 1)
    omega
  · show aft x.2.1 (fac (backF x.1 u).2 (backF x.1 u).1) = _
    rw [c3, hfu, h.turn]
    unfold resid
    rw [List.foldl_append]
    rfl
  · show (backF x.1 u).2.steps < (addF (backF x.1 u).2 _).faces.length
    rw [hl, c1.steps]
    omega
theorem UsC.all {s0 : Tw} {t0 : Trn} : ∀ (qs ps : List Nat) {x : Tw × Trn × Nat}, UsC n s0 t0 ps x → (∀ u ∈ qs, u < s0.faces.length) → UsC n s0 t0 (ps ++ qs) (qs.foldl useStep x)
  | [], ps, x, h, _ => by rw [List.append_nil]; exact h
  | q :: qs, ps, x, h, hq => by
    have := UsC.all qs (ps ++ [q]) (h.next (hq q (List.mem_cons_self ..))) fun u m => hq u (List.mem_cons_of_mem _ m)
    rw [List.append_assoc] at this
    exact this
theorem tdGo_res (h : Core n s) {t0 : Trn} : ∀ (f l : Nat) (t : Trn) (ps : List Nat), l + f = n → t = resid s t0 ps → l ≤ (tdGo s f l t ps).1 ∧ ((tdGo s f l t ps).1 < n → gt (resid s t0 (tdGo s f l t ps).2) (tdGo s f l t ps).1 ∉ keysL (lvl s (tdGo s f l t ps).1)) ∧ (0 < f → gt t l ∈ keysL (lvl s l) → l + 1 ≤ (tdGo s f l t ps).1)
  | 0, l, t, ps, hf, _ => ⟨Nat.le_refl _, fun hl => by have : l < n := hl; omega, fun h0 => absurd h0 (Nat.lt_irrefl _)⟩
  | f + 1, l, t, ps, hf, ht => by
    rw [tdGo]
    cases e : getA (lvl s l) (gt t l) with
    | none =>
      refine ⟨Nat.le_refl _, fun _ => ?_, fun _ hm => absurd hm (getA_none.mp e)⟩
      show gt (resid s t0 ps) l ∉ _
      rw [← ht]
      exact getA_none.mp e
    | some o =>
      cases o with
      | none =>
        obtain ⟨h1, h2, h3⟩ := tdGo_res h f (l + 1) t ps (by omega) ht
        exact ⟨by show l ≤ (tdGo s f (l + 1) t ps).1; omega, h2, fun _ _ => h1⟩
      | some k =>
        obtain ⟨v1, v2⟩ := h.val l (by omega) _ _ e
        have hb : bkOf s k = bck (fac s k) := by unfold bkOf; rw [v2]; rfl
        obtain ⟨h1, h2, h3⟩ := tdGo_res h f (l + 1) (aft t (bkOf s k)) (ps ++ [k]) (by omega) (by
          unfold resid
          rw [List.foldl_append, hb, ht]
          rfl)
        exact ⟨by show l ≤ (tdGo s f (l + 1) _ _).1; omega, h2, fun _ _ => h1⟩
theorem tdGo_ok' (h : Core n s) : ∀ (f l : Nat) (t : Trn) (ps : List Nat), l + f = n → (∀ u ∈ ps, u < s.faces.length) → (tdGo s f l t ps).1 ≤ n ∧ (∀ u ∈ (tdGo s f l t ps).2, u < s.faces.length) ∧ (tdGo s f l t ps).2.length ≤ ps.length + f
  | 0, l, t, ps, hf, hp => ⟨by show l ≤ n; omega, hp, Nat.le_refl _⟩
  | f + 1, l, t, ps, hf, hp => by
    rw [tdGo]
    cases e : getA (lvl s l) (gt t l) with
    | none => exact ⟨by show l ≤ n; omega, hp, by show ps.length ≤ _; omega⟩
    | some o =>
      cases o with
      | none =>
        obtain ⟨h1, h2, h3⟩ := tdGo_ok' h f (l + 1) t ps (by omega) hp
        exact ⟨h1, h2, Nat.le_trans h3 (by omega)⟩
      | some k =>
        obtain ⟨v1, v2⟩ := h.val l (by omega) _ _ e
        obtain ⟨h1, h2, h3⟩ := tdGo_ok' h f (l + 1) (aft t (bkOf s k)) (ps ++ [k]) (by omega) (fun u m => by
          rcases List.mem_append.mp m with m | m
          · exact hp u m
          · rw [List.mem_singleton.mp m]; exact v1)
        refine ⟨h1, h2, Nat.le_trans h3 ?_⟩
        rw [List.length_append]
        show ps.length + 1 + f ≤ _
        omega
def phi (s : Tw) (w : Wt) (c : Nat) : Nat := w.length + (5 - c) * 25 + (25 - entries s) * 300
structure Inv (n : Nat) (s : Tw) (w : Wt) (c : Nat) : Prop where
  core : Core n s
  items : ∀ x ∈ w, x.1 < n ∧ x.2.1 ∈ keysL (lvl s x.1) ∧ x.2.2 < s.faces.length
  strl : s.strong.length ≤ 5 * entries s + c
  cn : c ≤ n
  top : c = 0 ∨ ∃ l base ps h, c = l + 1 ∧ w = base ++ ps.map (fun p => (l, p, h)) ∧ (∃ r, ps = l :: r) ∧ gt (fac s h) l ∉ keysL (lvl s l)
theorem items_len (s : Tw) (l k : Nat) : (items s l k).length = (lvl s l).length := List.length_map ..
theorem push_len (h : Core n s) {m k : Nat} (hm : m ≤ n) : ((List.range m).flatMap fun lo => items s lo k).length ≤ m * n := by
  rw [List.length_flatMap]
  have := sum_le (b := n) (xs := (List.range m).map fun lo => (items s lo k).length) fun x hx => by
    obtain ⟨lo, hlo, rfl⟩ := List.mem_map.mp hx
    rw [items_len]
    exact h.lvl_len (by have := List.mem_range.mp hlo; omega)
  rw [List.length_map, List.length_range] at this
  exact this
theorem lvl_of {s s' : Tw} (h : s'.levels = s.levels) (l : Nat) : lvl s' l = lvl s l := by unfold lvl; rw [h]
theorem entries_of {s s' : Tw} (h : s'.levels = s.levels) : entries s' = entries s := by unfold entries; rw [h]
/-- a sift: nothing, or a strong one at a later level -/
theorem sift_inv (h5 : n ≤ 5) {w : Wt} {c : Nat} (hc : Core n s) (hi : ∀ x ∈ w, x.1 < n ∧ x.2.1 ∈ keysL (lvl s x.1) ∧ x.2.2 < s.faces.length) (hs : s.strong.length ≤ 5 * entries s + c) {k st : Nat} (hk : k < s.faces.length) (hst : st ≤ n)
    (hlev : (td n s (fac s k) st).1 < n → c ≤ (td n s (fac s k) st).1) :
    ((td n s (fac s k) st).1 = n ∧ siftM n s w k st = (s, w)) ∨ (∃ c', Inv n (siftM n s w k st).1 (siftM n s w k st).2 c' ∧ c + 1 ≤ c' ∧ entries (siftM n s w k st).1 = entries s ∧ (siftM n s w k st).2.length ≤ w.length + 25 ∧ (siftM n s w k st).1.faces.length ≤ s.faces.length + 10) := by
  have htk := hc.tn _ (fac_mem hk)
  obtain ⟨r1, r2, _⟩ := tdGo_res hc (t0 := fac s k) (n - st) st (fac s k) [] (by omega) rfl
  by_cases e : (td n s (fac s k) st).1 = n
  · exact .inl ⟨e, by unfold siftM; simp only [if_pos e]⟩
  right
  have eM : siftM n s w k st = putS (useGo s (fac s k) k (td n s (fac s k) st).2).1 w (td n s (fac s k) st).1 (useGo s (fac s k) k (td n s (fac s k) st).2).2.2 := by unfold siftM; simp only [if_neg e]
  rw [eM]
  have htd := tdGo_ok' hc (n - st) st (fac s k) [] (by omega) (fun _ m => by cases m)
  obtain ⟨d1, d2, d3⟩ := htd
  have hlt : (td n s (fac s k) st).1 < n := by
    have : (td n s (fac s k) st).1 ≤ n := d1
    omega
  have hcl := hlev hlt
  have hnk := r2 hlt
  have hU0 : UsC n s (fac s k) [] (s, fac s k, k) := ⟨hc, rfl, rfl, ⟨[], (List.append_nil _).symm, Nat.le_refl _⟩, rfl, htk, hk, rfl⟩
  have hU := UsC.all (td n s (fac s k) st).2 [] hU0 d2
  rw [List.nil_append] at hU
  have hpl : (td n s (fac s k) st).2.length ≤ n := by
    have : (td n s (fac s k) st).2.length ≤ 0 + (n - st) := d3
    omega
  replace hnk : gt (resid s (fac s k) (td n s (fac s k) st).2) (td n s (fac s k) st).1 ∉ keysL (lvl s (td n s (fac s k) st).1) := hnk
  generalize td n s (fac s k) st = r at *
  unfold useGo
  generalize r.2.foldl useStep (s, fac s k, k) = x at *
  obtain ⟨g, hg, hgl⟩ := hU.ext
  have hxf : s.faces.length ≤ x.1.faces.length := by rw [hg, List.length_append]; omega
  have hxl := hU.core
  have hpush := push_len (k := x.2.2) hU.core (m := r.1 + 1) (by omega)
  have h55 : (r.1 + 1) * n ≤ 5 * 5 := Nat.mul_le_mul (by omega) h5
  refine ⟨r.1 + 1, ⟨⟨hxl.steps, hxl.tn, hxl.lev, hxl.keyb, hxl.knd, hxl.diag, hxl.val, hxl.bw, hxl.bkl, hxl.bkv, hxl.bwl, fun e m => ?_⟩, fun y m => ?_, ?_, by omega, .inr ⟨r.1, w ++ (List.range r.1).flatMap (fun lo => items x.1 lo x.2.2), keysL (lvl x.1 r.1), x.2.2, rfl, ?_, ?_, ?_⟩⟩, by omega, entries_of hU.levels, ?_, ?_⟩
  · rcases List.mem_append.mp m with m | m
    · exact hxl.str e m
    · rw [List.mem_singleton.mp m]; exact ⟨hlt, hU.num⟩
  · rcases List.mem_append.mp m with m | m
    · obtain ⟨i1, i2, i3⟩ := hi y m
      refine ⟨i1, ?_, by show _ < x.1.faces.length; omega⟩
      show y.2.1 ∈ keysL (lvl x.1 y.1)
      rw [lvl_of hU.levels]
      exact i2
    · obtain ⟨lo, hlo, m⟩ := List.mem_flatMap.mp m
      obtain ⟨e, he, rfl⟩ := List.mem_map.mp m
      have := List.mem_range.mp hlo
      exact ⟨by show lo < n; omega, List.mem_map.mpr ⟨e, he, rfl⟩, hU.num⟩
  · show (x.1.strong ++ [(r.1, x.2.2)]).length ≤ 5 * entries x.1 + (r.1 + 1)
    rw [List.length_append, hU.strong, entries_of hU.levels]
    show s.strong.length + 1 ≤ _
    omega
  · show w ++ (List.range (r.1 + 1)).flatMap (fun lo => items x.1 lo x.2.2) = _
    rw [List.range_succ, List.flatMap_append, ← List.append_assoc]
    simp only [List.flatMap_cons, List.flatMap_nil, List.append_nil]
    congr 1
    unfold items keysL
    rw [List.map_map]
    rfl
  · obtain ⟨q, hq⟩ := hxl.diag r.1 hlt
    exact ⟨q.map (·.1), by rw [hq]; rfl⟩
  · show gt (fac x.1 x.2.2) r.1 ∉ keysL (lvl x.1 r.1)
    rw [hU.face, hU.turn, lvl_of hU.levels]
    exact hnk
  · show (w ++ (List.range (r.1 + 1)).flatMap (fun lo => items x.1 lo x.2.2)).length ≤ _
    rw [List.length_append]
    omega
  · show x.1.faces.length ≤ _
    rw [hg, List.length_append]
    omega
end
end Sb
namespace Sb
section
variable {n : Nat} {s : Tw}
theorem lvl_lead {l g k : Nat} (hl : l < s.levels.length) (hg : g ∉ keysL (lvl s l)) (l' : Nat) : lvl (leadF s l g k) l' = if l' = l then lvl s l ++ [(g, some k)] else lvl s l' := by
  unfold leadF
  rw [putA_new (getA_none.mpr hg)]
  show (s.levels.set l _).getD l' [] = _
  by_cases e : l' = l
  · subst e
    rw [if_pos rfl, List.getD_eq_getElem?_getD, List.getElem?_set_self hl]
    rfl
  · rw [if_neg e, List.getD_eq_getElem?_getD, List.getElem?_set_ne (fun z => e z.symm), ← List.getD_eq_getElem?_getD]
    rfl
theorem Core.lead (h : Core n s) {l g k : Nat} (hl : l < n) (hg : g < n) (hn : g ∉ keysL (lvl s l)) (hk : k < s.faces.length) : Core n (leadF s l g k) ∧ entries (leadF s l g k) = entries s + 1 := by
  have hl' : l < s.levels.length := by rw [h.lev]; exact hl
  have hlv := lvl_lead (k := k) hl' hn
  have hgn := getA_none.mpr hn
  have hent : entries (leadF s l g k) = entries s + 1 := by
    have h1 : entries (leadF s l g k) = ((s.levels.map List.length).set l ((lvl s l).length + 1)).sum := by
      unfold entries leadF
      rw [putA_new hgn]
      show ((s.levels.set l _).map List.length).sum = _
      rw [List.map_set, List.length_append]
      rfl
    have h2 := sum_set (xs := s.levels.map List.length) (l := l) (v := (lvl s l).length + 1) (by rw [List.length_map]; exact hl')
    have h3 : (s.levels.map List.length).getD l 0 = (lvl s l).length := by
      rw [List.getD_eq_getElem?_getD, List.getElem?_map, lvl_at hl']
      rfl
    rw [h3, ← h1] at h2
    unfold entries at h2 ⊢
    omega
  refine ⟨⟨h.steps, h.tn, ?_, fun l' hl2 x hx => ?_, fun l' hl2 => ?_, fun l' hl2 => ?_, fun l' hl2 x k' e => ?_, h.bw, ?_, fun k' t e => ?_, h.bwl, h.str⟩, hent⟩
  · show (s.levels.set l _).length = n
    rw [List.length_set, h.lev]
  · rw [hlv] at hx
    split at hx
    · unfold keysL at hx
      rw [List.map_append] at hx
      rcases List.mem_append.mp hx with hx | hx
      · exact h.keyb l hl x hx
      · rw [List.mem_singleton.mp hx]; exact hg
    · exact h.keyb l' hl2 x hx
  · rw [hlv]
    split
    · unfold keysL
      rw [List.map_append]
      refine List.nodup_append.mpr ⟨h.knd l hl, List.pairwise_singleton .., fun a ha b hb e => hn ?_⟩
      rw [show b = g from List.mem_singleton.mp hb] at e
      exact e ▸ ha
    · exact h.knd l' hl2
  · rw [hlv]
    split
    · rename_i e
      subst e
      obtain ⟨r, hr⟩ := h.diag l' hl
      exact ⟨r ++ [(g, some k)], by rw [hr]; rfl⟩
    · exact h.diag l' hl2
  · have key : ∀ k', k' < s.faces.length ∧ getA s.backs k' = some (bck (fac s k')) ∨ k' = k → k' < s.faces.length ∧ getA (putA s.backs k (bck (fac s k))) k' = some (bck (fac s k')) := fun k' hh => by
      rw [getA_put]
      rcases hh with ⟨h1, h2⟩ | e
      · refine ⟨h1, ?_⟩
        split
        · rename_i e; rw [e]
        · exact h2
      · rw [e, if_pos rfl]
        exact ⟨hk, rfl⟩
    refine key k' ?_
    rw [hlv] at e
    split at e
    · rw [getA_app_none hgn] at e
      split at e
      · cases e; exact .inr rfl
      · exact .inl (h.val l hl x k' e)
    · exact .inl (h.val l' hl2 x k' e)
  · rw [hent]
    have h1 : (leadF s l g k).backs.length ≤ s.backs.length + 1 := putA_length
    have := h.bkl
    omega
  · have e' : getA (putA s.backs k (bck (fac s k))) k' = some t := e
    rw [getA_put] at e'
    split at e'
    · rename_i hh
      cases e'
      rw [hh]
      exact ⟨hk, rfl⟩
    · exact h.bkv k' t e'
theorem tdGo_add (t : Trn) : ∀ (f l : Nat) (u : Trn) (ps : List Nat), tdGo (addF s t) f l u ps = tdGo s f l u ps
  | 0, _, _, _ => rfl
  | f + 1, l, u, ps => by
    rw [tdGo, tdGo]
    show (match getA (lvl s l) (gt u l) with
      | none => (l, ps)
      | some none => tdGo (addF s t) f (l + 1) u ps
      | some (some k) => tdGo (addF s t) f (l + 1) (aft u (bkOf s k)) (ps ++ [k])) = _
    cases getA (lvl s l) (gt u l) with
    | none => rfl
    | some o =>
      cases o with
      | none => exact tdGo_add t f _ _ _
      | some k => exact tdGo_add t f _ _ _
theorem getA_head {l : Nat} {r : Lvl} : getA ((l, none) :: r : Lvl) l = some none := getA_pos (p := (l, (none : Option Nat))) rfl
/-- one turn of the loop -/
theorem work_inv (h5 : n ≤ 5) {w : Wt} {x : Nat × Nat × Nat} {c : Nat} (h : Inv n s (w ++ [x]) c) :
    ∃ c', Inv n (workM n s w x).1 (workM n s w x).2 c' ∧ phi (workM n s w x).1 (workM n s w x).2 c' < phi s (w ++ [x]) c ∧ (workM n s w x).1.faces.length ≤ s.faces.length + 11 ∧ (workM n s w x).2.length ≤ w.length + 130 := by
  obtain ⟨l, p, k⟩ := x
  have hc := h.core
  obtain ⟨hl, hp, hk⟩ := h.items (l, p, k) (List.mem_append_right _ (List.mem_singleton.mpr rfl))
  replace hl : l < n := hl
  replace hp : p ∈ keysL (lvl s l) := hp
  replace hk : k < s.faces.length := hk
  have hiw : ∀ y ∈ w, y.1 < n ∧ y.2.1 ∈ keysL (lvl s y.1) ∧ y.2.2 < s.faces.length := fun y m => h.items y (List.mem_append_left _ m)
  obtain ⟨first, hfirst⟩ := getA_some_iff.mpr hp
  have hgetD : (getA (lvl s l) p).getD none = first := by rw [hfirst]; rfl
  have htk := hc.tn _ (fac_mem hk)
  have htf : Tn n (fce n s first) := by
    cases first with
    | none => exact tn_range n
    | some f => exact hc.tn _ (fac_mem (hc.val l hl p f hfirst).1)
  have htt := htf.aft htk
  obtain ⟨m1, m2, m3, m4⟩ := workM_eq (n := n) (w := w) (k := k) hgetD rfl
  have hent := hc.entries_le h5
  have hcn := h.cn
  have hstr := h.strl
  have hwl : (w ++ [(l, p, k)]).length = w.length + 1 := by rw [List.length_append]; rfl
  have hpush : ∀ g, (pushed s l g).length ≤ 130 := fun g => by
    unfold pushed
    rw [List.length_map]
    exact Nat.le_trans (List.length_filter_le ..) (by omega)
  by_cases hin : gt (aft (fce n s first) (fac s k)) l ∈ keysL (lvl s l)
  case neg =>
    have hgn := htt.gt hl
    -- a lead
    have hlead : ∀ (s1 : Tw) (k1 : Nat), Core n s1 → s1.levels = s.levels → s1.strong = s.strong → k1 < s1.faces.length → s.faces.length ≤ s1.faces.length → s1.faces.length ≤ s.faces.length + 1 → workM n s w (l, p, k) = (leadF s1 l (gt (aft (fce n s first) (fac s k)) l) k1, w ++ pushed s l (gt (aft (fce n s first) (fac s k)) l)) →
        ∃ c', Inv n (workM n s w (l, p, k)).1 (workM n s w (l, p, k)).2 c' ∧ phi (workM n s w (l, p, k)).1 (workM n s w (l, p, k)).2 c' < phi s (w ++ [(l, p, k)]) c ∧ (workM n s w (l, p, k)).1.faces.length ≤ s.faces.length + 11 ∧ (workM n s w (l, p, k)).2.length ≤ w.length + 130 := by
      intro s1 k1 hc1 hlv hst hk1 hf1 hf2 hM
      rw [hM]
      generalize gt (aft (fce n s first) (fac s k)) l = g at *
      have hn1 : g ∉ keysL (lvl s1 l) := by rw [lvl_of hlv]; exact hin
      obtain ⟨d1, d2⟩ := hc1.lead hl hgn hn1 hk1
      have d3 := d1.entries_le h5
      rw [d2, entries_of hlv] at d3
      have hl1 : l < s1.levels.length := by rw [hc1.lev]; exact hl
      have hpl := hpush g
      have hmono : ∀ (l' x : Nat), x ∈ keysL (lvl s l') → x ∈ keysL (lvl (leadF s1 l g k1) l') := fun l' x hx => by
        rw [lvl_lead hl1 hn1]
        split
        · rename_i e
          rw [lvl_of hlv, ← e]
          unfold keysL
          rw [List.map_append]
          exact List.mem_append_left _ hx
        · rw [lvl_of hlv]; exact hx
      refine ⟨0, ⟨d1, fun y m => ?_, ?_, Nat.zero_le _, .inl rfl⟩, ?_, ?_, ?_⟩
      · rcases List.mem_append.mp m with m | m
        · obtain ⟨i1, i2, i3⟩ := hiw y m
          exact ⟨i1, hmono _ _ i2, by show _ < s1.faces.length; omega⟩
        · obtain ⟨e, he, rfl⟩ := List.mem_map.mp m
          obtain ⟨he, _⟩ := List.mem_filter.mp he
          obtain ⟨q1, q2⟩ := hc.str e he
          refine ⟨hl, ?_, by show e.2 < s1.faces.length; omega⟩
          show g ∈ keysL (lvl (leadF s1 l g k1) l)
          rw [lvl_lead hl1 hn1, if_pos rfl]
          unfold keysL
          rw [List.map_append]
          exact List.mem_append_right _ (List.mem_singleton.mpr rfl)
      · show s1.strong.length ≤ 5 * entries (leadF s1 l g k1) + 0
        rw [hst, d2, entries_of hlv]
        omega
      · unfold phi
        show (w ++ pushed s l g).length + (5 - 0) * 25 + (25 - entries (leadF s1 l g k1)) * 300 < _
        rw [hwl, List.length_append, d2, entries_of hlv]
        omega
      · show s1.faces.length ≤ _
        omega
      · show (w ++ pushed s l g).length ≤ _
        rw [List.length_append]
        omega
    cases first with
    | none => exact hlead s k hc rfl rfl hk (Nat.le_refl _) (Nat.le_succ _) (m3 hin rfl)
    | some f =>
      have hl' := addF_faces s (aft (fce n s (some f)) (fac s k))
      exact hlead _ s.steps (hc.add htt) rfl rfl (by rw [hl', hc.steps]; omega) (by omega) (by omega) (m4 hin f rfl)
  case pos =>
    -- the portion of the newest strong one stays
    have htop : Inv n s w c ∧ (c = 0 ∨ c = l + 1) := by
      rcases h.top with e | ⟨l0, base, ps, hh, e1, e2, ⟨r, e3⟩, e4⟩
      · exact ⟨⟨hc, hiw, hstr, hcn, .inl e⟩, .inl e⟩
      · subst e3
        rcases List.eq_nil_or_concat r with er | ⟨r', q, er⟩
        · subst er
          rw [List.map_cons, List.map_nil] at e2
          obtain ⟨ew, ex⟩ := List.append_inj' e2 rfl
          obtain ⟨rfl, rfl, rfl⟩ : l = l0 ∧ p = l0 ∧ k = hh := by
            have := (List.cons.inj ex).1
            exact ⟨congrArg (·.1) this, congrArg (·.2.1) this, congrArg (·.2.2) this⟩
          obtain ⟨rr, hd⟩ := hc.diag p hl
          rw [hd, getA_head] at hfirst
          cases hfirst
          rw [show aft (fce n s none) (fac s k) = fac s k from id_aft htk] at hin
          exact absurd hin e4
        · rw [List.concat_eq_append] at er
          subst er
          have e2' : w ++ [(l, p, k)] = (base ++ (l0 :: r').map (fun p => (l0, p, hh))) ++ [(l0, q, hh)] := by
            rw [e2, List.append_assoc, ← List.cons_append, List.map_append]
            rfl
          obtain ⟨ew, ex⟩ := List.append_inj' e2' rfl
          have hl0 : l = l0 := congrArg (·.1) (List.cons.inj ex).1
          exact ⟨⟨hc, hiw, hstr, hcn, .inr ⟨l0, base, l0 :: r', hh, e1, ew, ⟨r', rfl⟩, e4⟩⟩, .inr (by rw [hl0]; exact e1)⟩
    obtain ⟨hI, hcl⟩ := htop
    have hsame : ∃ c', Inv n s w c' ∧ phi s w c' < phi s (w ++ [(l, p, k)]) c ∧ s.faces.length ≤ s.faces.length + 11 ∧ w.length ≤ w.length + 130 := by
      refine ⟨c, hI, ?_, by omega, by omega⟩
      unfold phi
      rw [hwl]
      omega
    have hput : ∀ (s1 : Tw) (k1 : Nat), Core n s1 → s1.levels = s.levels → s1.strong = s.strong → k1 < s1.faces.length → s.faces.length ≤ s1.faces.length → s1.faces.length ≤ s.faces.length + 1 → fac s1 k1 = aft (fce n s first) (fac s k) → workM n s w (l, p, k) = siftM n s1 w k1 l → (s1 = s ∨ (td n s1 (fac s1 k1) l).1 ≠ n) →
        ∃ c', Inv n (workM n s w (l, p, k)).1 (workM n s w (l, p, k)).2 c' ∧ phi (workM n s w (l, p, k)).1 (workM n s w (l, p, k)).2 c' < phi s (w ++ [(l, p, k)]) c ∧ (workM n s w (l, p, k)).1.faces.length ≤ s.faces.length + 11 ∧ (workM n s w (l, p, k)).2.length ≤ w.length + 130 := by
      intro s1 k1 hc1 hlv hst hk1 hf1 hf2 hfac hM hor
      rw [hM]
      have hr3 := (tdGo_res hc1 (t0 := fac s1 k1) (n - l) l (fac s1 k1) [] (by omega) rfl).2.2 (by omega) (by rw [hfac, lvl_of hlv]; exact hin)
      rcases sift_inv h5 (w := w) (c := c) hc1 (fun y m => by
          obtain ⟨i1, i2, i3⟩ := hiw y m
          exact ⟨i1, by rw [lvl_of hlv]; exact i2, by omega⟩) (by rw [hst, entries_of hlv]; exact hstr) hk1 (by omega : l ≤ n) (fun _ => by
          have : l + 1 ≤ (td n s1 (fac s1 k1) l).1 := hr3
          omega) with ⟨e1, e2⟩ | ⟨c', i1, i2, i3, i4, i5⟩
      · rcases hor with rfl | hor
        · rw [e2]; exact hsame
        · exact absurd e1 hor
      · refine ⟨c', i1, ?_, by omega, by omega⟩
        have := i1.cn
        unfold phi
        rw [hwl, i3, entries_of hlv]
        omega
    cases first with
    | none =>
      refine hput s k hc rfl rfl hk (Nat.le_refl _) (Nat.le_succ _) ?_ (m1 hin rfl) (.inl rfl)
      exact (id_aft htk).symm
    | some f =>
      have hM := m2 hin f rfl
      by_cases hlt : (td n s (aft (fce n s (some f)) (fac s k)) l).1 < n
      · rw [if_pos hlt] at hM
        have hl' := addF_faces s (aft (fce n s (some f)) (fac s k))
        refine hput _ s.steps (hc.add htt) rfl rfl (by rw [hl', hc.steps]; omega) (by omega) (by omega) (fac_last _ _ hc.steps) hM (.inr ?_)
        rw [fac_last _ _ hc.steps]
        unfold td at hlt ⊢
        rw [tdGo_add]
        omega
      · rw [if_neg hlt] at hM
        rw [hM]
        exact hsame
theorem Inv.zero {c : Nat} (h : Inv n s [] c) : c = 0 := by
  rcases h.top with e | ⟨l0, base, ps, hh, e1, e2, ⟨r, e3⟩, e4⟩
  · exact e
  · subst e3
    exact absurd e2.symm (by simp)
theorem loop_inv (h5 : n ≤ 5) : ∀ (f : Nat) (s : Tw) (w : Wt) (c : Nat), Inv n s w c → phi s w c < f → ∃ s', loopM n f (s, w) = (s', []) ∧ Inv n s' [] 0 ∧ s'.faces.length + 11 * phi s' [] 0 ≤ s.faces.length + 11 * phi s w c
  | 0, s, w, c, _, hf => absurd hf (Nat.not_lt_zero _)
  | f + 1, s, w, c, h, hf => by
    rw [loopM]
    rcases List.eq_nil_or_concat w with e | ⟨w0, x, e⟩
    · subst e
      have := h.zero
      subst this
      exact ⟨s, rfl, h, Nat.le_refl _⟩
    · rw [List.concat_eq_append] at e
      subst e
      rw [show ((s, w0 ++ [x]) : Tw × Wt).2.getLast? = some x from List.getLast?_concat ..]
      show ∃ s', loopM n f (workM n s (w0 ++ [x]).dropLast x) = (s', []) ∧ _
      rw [List.dropLast_concat]
      obtain ⟨c', i1, i2, i3, _⟩ := work_inv h5 h
      obtain ⟨s', j1, j2, j3⟩ := loop_inv h5 f _ _ c' i1 (by omega)
      exact ⟨s', j1, j2, by omega⟩
theorem phi_le {w : Wt} {c : Nat} : phi s w c ≤ w.length + 7625 := by
  unfold phi
  have h1 : (5 - c) * 25 ≤ 5 * 25 := Nat.mul_le_mul_right _ (Nat.sub_le _ _)
  have h2 : (25 - entries s) * 300 ≤ 25 * 300 := Nat.mul_le_mul_right _ (Nat.sub_le _ _)
  omega
/-- a pair: its sift, then the loop -/
theorem pair_inv (h5 : n ≤ 5) (h : Inv n s [] 0) {t : Trn} (ht : Tn n t) : ∃ c, Inv n (siftM n (addF s t) [] s.steps 0).1 (siftM n (addF s t) [] s.steps 0).2 c ∧ phi (siftM n (addF s t) [] s.steps 0).1 (siftM n (addF s t) [] s.steps 0).2 c ≤ phi s [] 0 ∧ phi s [] 0 < 10000 ∧
    (siftM n (addF s t) [] s.steps 0).1.faces.length ≤ s.faces.length + 11 ∧ (siftM n (addF s t) [] s.steps 0).2.length ≤ 25 := by
  have hc := h.core.add ht
  have hl := addF_faces s t
  have hp : phi s [] 0 < 10000 := by
    have : phi s [] 0 ≤ 0 + 7625 := phi_le
    omega
  rcases sift_inv h5 (w := []) (c := 0) hc (fun _ m => by cases m) (by have := h.strl; exact this) (k := s.steps) (st := 0) (by rw [hl, h.core.steps]; omega) (Nat.zero_le _) (fun _ => Nat.zero_le _) with ⟨e1, e2⟩ | ⟨c', i1, i2, i3, i4, i5⟩
  · rw [e2]
    exact ⟨0, ⟨hc, (fun _ m => by cases m), h.strl, Nat.zero_le _, .inl rfl⟩, Nat.le_refl _, hp, by show (addF s t).faces.length ≤ _; omega, Nat.zero_le _⟩
  · refine ⟨c', i1, ?_, hp, by omega, by simpa using i4⟩
    have := i1.cn
    unfold phi
    rw [i3, show entries (addF s t) = entries s from rfl]
    have h25 : (siftM n (addF s t) [] s.steps 0).2.length ≤ 25 := by simpa using i4
    rw [List.length_nil]
    omega
theorem pairM_inv (h5 : n ≤ 5) (h : Inv n s [] 0) {t : Trn} (ht : Tn n t) : Inv n (pairM n s t) [] 0 ∧ (pairM n s t).faces.length + 11 * phi (pairM n s t) [] 0 ≤ s.faces.length + 11 * phi s [] 0 + 11 := by
  obtain ⟨c, i1, i2, i3, i4, _⟩ := pair_inv h5 h ht
  obtain ⟨s', j1, j2, j3⟩ := loop_inv h5 10000 _ _ c i1 (by omega)
  unfold pairM
  rw [show siftM n (addF s t) [] s.steps 0 = ((siftM n (addF s t) [] s.steps 0).1, (siftM n (addF s t) [] s.steps 0).2) from rfl, j1]
  exact ⟨j2, by show s'.faces.length + 11 * phi s' [] 0 ≤ _; omega⟩
theorem lvl_tw0 {l : Nat} (hl : l < n) : lvl (tw0 n) l = [(l, none)] := by
  unfold lvl tw0
  rw [List.getD_eq_getElem?_getD, List.getElem?_map, List.getElem?_range hl]
  rfl
theorem tw0_inv (n : Nat) : Inv n (tw0 n) [] 0 := by
  refine ⟨⟨rfl, (fun _ m => by cases m), by simp [tw0], fun l hl g hg => ?_, fun l hl => ?_, fun l hl => ⟨[], lvl_tw0 hl⟩, fun l hl g k e => ?_, (fun k b e => by cases e), Nat.zero_le _, (fun k b e => by cases e), Nat.zero_le _, fun _ m => by cases m⟩, (fun _ m => by cases m), Nat.zero_le _, Nat.zero_le _, .inl rfl⟩
  · rw [lvl_tw0 hl] at hg
    have : g = l := List.mem_singleton.mp hg
    omega
  · rw [lvl_tw0 hl]
    exact List.pairwise_singleton ..
  · rw [lvl_tw0 hl] at e
    by_cases z : l = g
    · rw [getA_pos (p := (l, (none : Option Nat))) z] at e
      cases e
    · rw [getA_neg (p := (l, (none : Option Nat))) z] at e
      cases e
end
end Sb
namespace Sb
open PySem PySem.Spec PyProof.Rows L2
/-- all but x stays -/
def K1 (x : Addr) (H H' : Hp) : Prop := ∀ y o, y ≠ x → H y = some o → H' y = some o
theorem K1.of {x : Addr} {H H' : Hp} (e : Same H H') : K1 x H H' := fun y o _ h => e y o h
theorem K1.trans {x : Addr} {H H1 H2 : Hp} (a : K1 x H H1) (b : K1 x H1 H2) : K1 x H H2 := fun y o hy h => b y o hy (a y o hy h)
theorem K1.free {x y : Addr} {H H' : Hp} (k : K1 x H H') (hy : y ≠ x) (h : H' y = none) : H y = none := by
  cases e : H y with
  | none => rfl
  | some o => rw [k y o hy e] at h; cases h
structure Init (K : PySem.W.Frag) (H : Hp) (d : Ad) (n : Nat) : Prop where
  nd : ([d.a, d.aL, d.aS, d.aF, d.aV, d.aG, d.aB, d.aK] ++ d.as).Nodup
  ins : H d.a = some (.ins (gA K "Tower") d.dx d.fs)
  line : H d.aL = some (.lst (vN (List.range n)))
  steps : H d.aS = some (.lst [])
  faces : H d.aF = some (.lst [])
  levs : H d.aV = some (.lst (d.as.map V.ref))
  llen : d.as.length = n
  lev : ∀ (i : Nat) (A : Addr), d.as[i]? = some A → H A = some (.dK [(kN i, .non)])
  strong : H d.aG = some (.lst [])
  bwd : H d.aB = some (.dK [])
  backs : H d.aK = some (.dK [])
/-- with a new list of what waits, the tower is whole -/
theorem Init.rep {K : PySem.W.Frag} {H : Hp} {d : Ad} {n : Nat} (h : Init K H d n) {W : Addr} (hW : H W = none) : Rep K (upd H W (.lst [])) { d with aW := W } n (tw0 n) [] := by
  have e := Same.new (o := HO.lst []) hW
  have hnm : ∀ x ∈ [d.a, d.aL, d.aS, d.aF, d.aV, d.aG, d.aB, d.aK] ++ d.as, x ≠ W := fun x m z => by
    subst z
    rcases List.mem_append.mp m with m | m
    · simp only [List.mem_cons, List.not_mem_nil, or_false] at m
      rcases m with z | z | z | z | z | z | z | z <;> rw [z] at hW
      · rw [h.ins] at hW; cases hW
      · rw [h.line] at hW; cases hW
      · rw [h.steps] at hW; cases hW
      · rw [h.faces] at hW; cases hW
      · rw [h.levs] at hW; cases hW
      · rw [h.strong] at hW; cases hW
      · rw [h.bwd] at hW; cases hW
      · rw [h.backs] at hW; cases hW
    · obtain ⟨i, hi⟩ := List.getElem?_of_mem m
      rw [h.lev i x hi] at hW
      cases hW
  exact { nd := by
            show ([d.a, d.aL, d.aS, d.aF, d.aV, d.aG, d.aB, d.aK, W] ++ d.as).Nodup
            have h1 : ([d.a, d.aL, d.aS, d.aF, d.aV, d.aG, d.aB, d.aK, W] ++ d.as).Perm (W :: ([d.a, d.aL, d.aS, d.aF, d.aV, d.aG, d.aB, d.aK] ++ d.as)) := by
              have : [d.a, d.aL, d.aS, d.aF, d.aV, d.aG, d.aB, d.aK, W] ++ d.as = [d.a, d.aL, d.aS, d.aF, d.aV, d.aG, d.aB, d.aK] ++ W :: d.as := rfl
              rw [this]
              exact List.perm_middle
            refine h1.nodup_iff.mpr (List.nodup_cons.mpr ⟨fun m => hnm W m rfl, h.nd⟩)
          ins := e _ _ h.ins
          line := e _ _ h.line
          steps := ⟨[], e _ _ h.steps, rfl⟩
          faces := ⟨[], e _ _ h.faces, .nil⟩
          levs := e _ _ h.levs
          llen := by show d.as.length = _; rw [h.llen]; simp [tw0]
          lev := fun i A hA => by
            refine ⟨_, e _ _ (h.lev i A hA), ?_⟩
            rw [lvl_tw0 (by rw [← h.llen]; exact (List.getElem?_eq_some_iff.mp hA).1)]
            exact .cons rfl .nil
          strong := ⟨[], e _ _ h.strong, .nil⟩
          bwd := ⟨[], e _ _ h.bwd, .nil⟩
          backs := ⟨[], e _ _ h.backs, .nil⟩
          wait := ⟨[], upd_same, .nil⟩ }
section
variable {P : Program} {w0 : World} {K : PySem.W.Frag} {mg : Str → Option Value} {base : Heap}
def spTowerInit (K : PySem.W.Frag) : Sp := fun vs H Q _ => ∃ (x dx aL : Addr) (n : Nat), vs = [.ref x, .ref aL] ∧ H x = some (.ins (gA K "Tower") dx []) ∧ H aL = some (.lst (vN (List.range n))) ∧ n ≤ 1000 ∧
  ∀ H' d, d.a = x → d.aL = aL → (∀ y, y ∈ d.all → y ≠ x → y ≠ aL → H y = none) → (∀ y o, y ≠ x → H y = some o → H' y = some o) → Init K H' d n → Q .non H'
theorem k_Tower (z : Z K mg) : Mak P w0 K mg base 1 "Tower" (spTowerInit K) := by
  have S : FnScope ["self", "line", "place"] ["self", "line"] (defScope sTowerInit) := ⟨rfl, rfl, rfl, by decide +kernel, rfl, by decide +kernel, by decide +kernel⟩
  refine mak_by z.d_Tower___init z.mk_Tower z.g_Tower S (fun _ _ _ _ _ _ us hl => match us, hl with | [_, _], _ => rfl) (fun vs H Q E h => ?_) (fun cdv A outer s H vs Q E hr h => ?_)
  · obtain ⟨x, dx, aL, n, rfl, _⟩ := h
    rfl
  · obtain ⟨x, dx, aL, n, rfl, hx, hL, hn, q⟩ := h
    refine ⟨_, pss_cons (ps_fld (pv 0) (pv 1) rfl)
    (pss_cons (ps_fld (pv 0) (pe_lst pa_nil) rfl)
    (pss_cons (ps_fld (pv 0) (pe_lst pa_nil) rfl)
    (pss_cons (ps_fld (pv 0) (pe_lc (own := [("place", 2)]) (g := gName 2) rfl S.nd (pi_list (pv 1)) (blkOk_by (own := [("place", 2)]) (N := ["self", "line", "place"]) (sc := defScope sTowerInit) (by decide +kernel)) (fun _ _ _ _ _ => (pg_name (i := 2) S.nd rfl (Or.inl rfl))) (fun _ _ _ _ _ => pts_nil) (fun _ _ _ _ _ => (pe_disp (pps_cons (pv 2) pe_non pps_nil) (by rfl) (by rfl) (fun z => by cases z) (by decide)))) rfl)
    (pss_cons (ps_fld (pv 0) (pe_lst pa_nil) rfl)
    (pss_cons (ps_fld (pv 0) pe_dnewK rfl)
    (pss_one (ps_fld (pv 0) pe_dnewK rfl))))))), ?_⟩
    have hxL : aL ≠ x := ne_of hL hx (by intro z; cases z)
    have kput : ∀ (G : Hp) (o : HO), K1 x G (upd G x o) := fun G o y p hy e => (upd_ne hy).trans e
    have knew : ∀ (G : Hp) (y : Addr) (o : HO), G y = none → K1 x G (upd G y o) := fun G y o h => K1.of (Same.new h)
    refine ⟨_, rfl, _, rfl, x, _, dx, _, rfl, hx, z.cl_Tower, z.n_line, by show 0 < 1000; decide, ?_⟩
    have k1 : K1 x H (upd H x (.ins (gA K "Tower") dx (putF "line" (.ref aL) []))) := kput _ _
    have x1 : upd H x (.ins (gA K "Tower") dx (putF "line" (.ref aL) [])) x = some (.ins (gA K "Tower") dx [("line", .ref aL)]) := upd_same
    generalize upd H x (.ins (gA K "Tower") dx (putF "line" (.ref aL) [])) = E1 at k1 x1
    -- steps
    refine ⟨by decide, fun aS hS => ⟨_, rfl, x, _, dx, _, rfl, Same.new hS _ _ x1, z.cl_Tower, z.n_steps, by show 1 < 1000; decide, ?_⟩⟩
    have sx : aS ≠ x := fun e => by rw [e, x1] at hS; cases hS
    have k2 : K1 x E1 (upd (upd E1 aS (.lst [])) x (.ins (gA K "Tower") dx (putF "steps" (.ref aS) [("line", .ref aL)]))) := (knew _ _ _ hS).trans (kput _ _)
    have x2 : upd (upd E1 aS (.lst [])) x (.ins (gA K "Tower") dx (putF "steps" (.ref aS) [("line", .ref aL)])) x = some (.ins (gA K "Tower") dx [("line", .ref aL), ("steps", .ref aS)]) := upd_same
    have s2 : upd (upd E1 aS (.lst [])) x (.ins (gA K "Tower") dx (putF "steps" (.ref aS) [("line", .ref aL)])) aS = some (.lst []) := (upd_ne sx).trans upd_same
    generalize upd (upd E1 aS (.lst [])) x (.ins (gA K "Tower") dx (putF "steps" (.ref aS) [("line", .ref aL)])) = E2 at k2 x2 s2
    -- faces
    refine ⟨by decide, fun aF hF => ⟨_, rfl, x, _, dx, _, rfl, Same.new hF _ _ x2, z.cl_Tower, z.n_faces, by show 2 < 1000; decide, ?_⟩⟩
    have fx : aF ≠ x := fun e => by rw [e, x2] at hF; cases hF
    have k3 : K1 x E2 (upd (upd E2 aF (.lst [])) x (.ins (gA K "Tower") dx (putF "faces" (.ref aF) [("line", .ref aL), ("steps", .ref aS)]))) := (knew _ _ _ hF).trans (kput _ _)
    have x3 : upd (upd E2 aF (.lst [])) x (.ins (gA K "Tower") dx (putF "faces" (.ref aF) [("line", .ref aL), ("steps", .ref aS)])) x = some (.ins (gA K "Tower") dx [("line", .ref aL), ("steps", .ref aS), ("faces", .ref aF)]) := upd_same
    have f3 : upd (upd E2 aF (.lst [])) x (.ins (gA K "Tower") dx (putF "faces" (.ref aF) [("line", .ref aL), ("steps", .ref aS)])) aF = some (.lst []) := (upd_ne fx).trans upd_same
    generalize upd (upd E2 aF (.lst [])) x (.ins (gA K "Tower") dx (putF "faces" (.ref aF) [("line", .ref aL), ("steps", .ref aS)])) = E3 at k3 x3 f3
    have k13 := (k1.trans k2).trans k3
    have L3 : E3 aL = some (.lst (vN (List.range n))) := k13 _ _ hxL hL
    -- levels
    refine ⟨_, rfl, aL, rfl, ⟨_, SqL.of L3⟩, fun D hD => ?_⟩
    refine lc_it (walk_list (xs := vN (List.range n))) (fun i G => Same E3 G ∧ ∃ as : List Addr, G D = some (.lst (as.map V.ref)) ∧ as.length = i ∧ as.Nodup ∧ ∀ (j : Nat) (A : Addr), as[j]? = some A → E3 A = none ∧ A ≠ D ∧ G A = some (.dK [(kN j, .non)])) ⟨Same.new hD, [], upd_same, rfl, List.Pairwise.nil, fun j A h => by cases h⟩ (fun i G _ p => SqL.of (p.1 _ _ L3)) (fun i y G G' hi p hy => ?_) (fun G p => ?_)
    · obtain ⟨e1, as, g1, g2, g3, g4⟩ := p
      obtain ⟨rfl, hc⟩ := hy
      rw [vN_len, List.length_range] at hi
      rw [vN_get, List.getElem?_range hi] at hc
      cases hc
      refine ⟨rfl, fun A hA => ⟨_, rfl, upd_same, [(kN i, .non)], rfl, Nat.le_of_ble_eq_true rfl, as.map V.ref, ?_, ?_, ?_⟩⟩
      · have hDA : D ≠ A := ne_of_none g1 hA
        exact (upd_ne hDA).trans ((upd_ne hDA).trans g1)
      · rw [List.length_map, g2]
        show _ < 2 ^ 24
        omega
      · have hDA : D ≠ A := ne_of_none g1 hA
        have hA3 : E3 A = none := e1.free hA
        have hAm : A ∉ as := fun m => by
          obtain ⟨j, hj⟩ := List.getElem?_of_mem m
          rw [(g4 j A hj).2.2] at hA
          cases hA
        refine ⟨Same.mut (Same.mut (Same.mut e1 hA3) hA3) hD, as ++ [A], ?_, by rw [List.length_append, g2]; rfl, ?_, fun j B hB => ?_⟩
        · rw [upd_same, List.map_append]; rfl
        · refine List.nodup_append.mpr ⟨g3, List.pairwise_singleton .., fun a ha b hb e => hAm ?_⟩
          rw [List.mem_singleton.mp hb] at e
          exact e ▸ ha
        · by_cases c : j < as.length
          · rw [List.getElem?_append_left c] at hB
            obtain ⟨q1, q2, q3⟩ := g4 j B hB
            have hBA : B ≠ A := ne_of_none q3 hA
            exact ⟨q1, q2, (upd_ne q2).trans ((upd_ne hBA).trans ((upd_ne hBA).trans q3))⟩
          · have hj : j = i := by
              have := (List.getElem?_eq_some_iff.mp hB).1
              rw [List.length_append] at this
              have : j < as.length + 1 := this
              omega
            rw [List.getElem?_append_right (by omega), hj, g2, Nat.sub_self] at hB
            cases hB
            subst hj
            exact ⟨hA3, hDA.symm, (upd_ne hDA.symm).trans (upd_same.trans rfl)⟩
    · obtain ⟨e4, as, g1, g2, g3, g4⟩ := p
      rw [vN_len, List.length_range] at g2
      have x4' : G x = some (.ins (gA K "Tower") dx [("line", .ref aL), ("steps", .ref aS), ("faces", .ref aF)]) := e4 _ _ x3
      have Dx : D ≠ x := fun e => by rw [e, x3] at hD; cases hD
      refine ⟨_, rfl, x, _, dx, _, rfl, x4', z.cl_Tower, z.n_levels, by show 3 < 1000; decide, ?_⟩
      have k4 : K1 x E3 (upd G x (.ins (gA K "Tower") dx (putF "levels" (.ref D) [("line", .ref aL), ("steps", .ref aS), ("faces", .ref aF)]))) := (K1.of e4).trans (kput _ _)
      have x4 : upd G x (.ins (gA K "Tower") dx (putF "levels" (.ref D) [("line", .ref aL), ("steps", .ref aS), ("faces", .ref aF)])) x = some (.ins (gA K "Tower") dx [("line", .ref aL), ("steps", .ref aS), ("faces", .ref aF), ("levels", .ref D)]) := upd_same
      have d4 : upd G x (.ins (gA K "Tower") dx (putF "levels" (.ref D) [("line", .ref aL), ("steps", .ref aS), ("faces", .ref aF)])) D = some (.lst (as.map V.ref)) := (upd_ne Dx).trans g1
      have a4 : ∀ (j : Nat) (A : Addr), as[j]? = some A → E3 A = none ∧ A ≠ D ∧ upd G x (.ins (gA K "Tower") dx (putF "levels" (.ref D) [("line", .ref aL), ("steps", .ref aS), ("faces", .ref aF)])) A = some (.dK [(kN j, .non)]) := fun j A hA => by
        obtain ⟨q1, q2, q3⟩ := g4 j A hA
        exact ⟨q1, q2, (upd_ne (fun e => by rw [e, x3] at q1; cases q1)).trans q3⟩
      generalize upd G x (.ins (gA K "Tower") dx (putF "levels" (.ref D) [("line", .ref aL), ("steps", .ref aS), ("faces", .ref aF)])) = E4 at k4 x4 d4 a4
      -- strong
      refine ⟨by decide, fun aG hG => ⟨_, rfl, x, _, dx, _, rfl, Same.new hG _ _ x4, z.cl_Tower, z.n_strong, by show 4 < 1000; decide, ?_⟩⟩
      have gx : aG ≠ x := fun e => by rw [e, x4] at hG; cases hG
      have k5 : K1 x E4 (upd (upd E4 aG (.lst [])) x (.ins (gA K "Tower") dx (putF "strong" (.ref aG) [("line", .ref aL), ("steps", .ref aS), ("faces", .ref aF), ("levels", .ref D)]))) := (knew _ _ _ hG).trans (kput _ _)
      have x5 : upd (upd E4 aG (.lst [])) x (.ins (gA K "Tower") dx (putF "strong" (.ref aG) [("line", .ref aL), ("steps", .ref aS), ("faces", .ref aF), ("levels", .ref D)])) x = some (.ins (gA K "Tower") dx [("line", .ref aL), ("steps", .ref aS), ("faces", .ref aF), ("levels", .ref D), ("strong", .ref aG)]) := upd_same
      have g5 : upd (upd E4 aG (.lst [])) x (.ins (gA K "Tower") dx (putF "strong" (.ref aG) [("line", .ref aL), ("steps", .ref aS), ("faces", .ref aF), ("levels", .ref D)])) aG = some (.lst []) := (upd_ne gx).trans upd_same
      generalize upd (upd E4 aG (.lst [])) x (.ins (gA K "Tower") dx (putF "strong" (.ref aG) [("line", .ref aL), ("steps", .ref aS), ("faces", .ref aF), ("levels", .ref D)])) = E5 at k5 x5 g5
      -- backward
      intro aB hB
      refine ⟨_, rfl, x, _, dx, _, rfl, Same.new hB _ _ x5, z.cl_Tower, z.n_backward, by show 5 < 1000; decide, ?_⟩
      have bx : aB ≠ x := fun e => by rw [e, x5] at hB; cases hB
      have k6 : K1 x E5 (upd (upd E5 aB (.dK [])) x (.ins (gA K "Tower") dx (putF "backward" (.ref aB) [("line", .ref aL), ("steps", .ref aS), ("faces", .ref aF), ("levels", .ref D), ("strong", .ref aG)]))) := (knew _ _ _ hB).trans (kput _ _)
      have x6 : upd (upd E5 aB (.dK [])) x (.ins (gA K "Tower") dx (putF "backward" (.ref aB) [("line", .ref aL), ("steps", .ref aS), ("faces", .ref aF), ("levels", .ref D), ("strong", .ref aG)])) x = some (.ins (gA K "Tower") dx [("line", .ref aL), ("steps", .ref aS), ("faces", .ref aF), ("levels", .ref D), ("strong", .ref aG), ("backward", .ref aB)]) := upd_same
      have b6 : upd (upd E5 aB (.dK [])) x (.ins (gA K "Tower") dx (putF "backward" (.ref aB) [("line", .ref aL), ("steps", .ref aS), ("faces", .ref aF), ("levels", .ref D), ("strong", .ref aG)])) aB = some (.dK []) := (upd_ne bx).trans upd_same
      generalize upd (upd E5 aB (.dK [])) x (.ins (gA K "Tower") dx (putF "backward" (.ref aB) [("line", .ref aL), ("steps", .ref aS), ("faces", .ref aF), ("levels", .ref D), ("strong", .ref aG)])) = E6 at k6 x6 b6
      -- backs
      intro aK hK
      refine ⟨_, rfl, x, _, dx, _, rfl, Same.new hK _ _ x6, z.cl_Tower, z.n_backs, by show 6 < 1000; decide, ?_⟩
      have kx : aK ≠ x := fun e => by rw [e, x6] at hK; cases hK
      have k7 : K1 x E6 (upd (upd E6 aK (.dK [])) x (.ins (gA K "Tower") dx (putF "backs" (.ref aK) [("line", .ref aL), ("steps", .ref aS), ("faces", .ref aF), ("levels", .ref D), ("strong", .ref aG), ("backward", .ref aB)]))) := (knew _ _ _ hK).trans (kput _ _)
      have x7 : upd (upd E6 aK (.dK [])) x (.ins (gA K "Tower") dx (putF "backs" (.ref aK) [("line", .ref aL), ("steps", .ref aS), ("faces", .ref aF), ("levels", .ref D), ("strong", .ref aG), ("backward", .ref aB)])) x = some (.ins (gA K "Tower") dx [("line", .ref aL), ("steps", .ref aS), ("faces", .ref aF), ("levels", .ref D), ("strong", .ref aG), ("backward", .ref aB), ("backs", .ref aK)]) := upd_same
      have c7 : upd (upd E6 aK (.dK [])) x (.ins (gA K "Tower") dx (putF "backs" (.ref aK) [("line", .ref aL), ("steps", .ref aS), ("faces", .ref aF), ("levels", .ref D), ("strong", .ref aG), ("backward", .ref aB)])) aK = some (.dK []) := (upd_ne kx).trans upd_same
      generalize upd (upd E6 aK (.dK [])) x (.ins (gA K "Tower") dx (putF "backs" (.ref aK) [("line", .ref aL), ("steps", .ref aS), ("faces", .ref aF), ("levels", .ref D), ("strong", .ref aG), ("backward", .ref aB)])) = E7 at k7 x7 c7
      have k67 := k7
      have k57 := k6.trans k67
      have k47 := k5.trans k57
      have k37 := k4.trans k47
      have k27 := k3.trans k37
      -- who is not who
      have sL : aS ≠ aL := fun e => by rw [e, k1 _ _ hxL hL] at hS; cases hS
      have fL : aF ≠ aL := fun e => by rw [e, (k1.trans k2) _ _ hxL hL] at hF; cases hF
      have fS : aF ≠ aS := fun e => by rw [e, s2] at hF; cases hF
      have DL : D ≠ aL := fun e => by rw [e, L3] at hD; cases hD
      have DS : D ≠ aS := fun e => by rw [e, k3 _ _ sx s2] at hD; cases hD
      have DF : D ≠ aF := fun e => by rw [e, f3] at hD; cases hD
      have gL : aG ≠ aL := fun e => by rw [e, k4 _ _ hxL L3] at hG; cases hG
      have gS : aG ≠ aS := fun e => by rw [e, (k3.trans k4) _ _ sx s2] at hG; cases hG
      have gF : aG ≠ aF := fun e => by rw [e, k4 _ _ fx f3] at hG; cases hG
      have gD : aG ≠ D := fun e => by rw [e, d4] at hG; cases hG
      have bL : aB ≠ aL := fun e => by rw [e, (k4.trans k5) _ _ hxL L3] at hB; cases hB
      have bS : aB ≠ aS := fun e => by rw [e, ((k3.trans k4).trans k5) _ _ sx s2] at hB; cases hB
      have bF : aB ≠ aF := fun e => by rw [e, (k4.trans k5) _ _ fx f3] at hB; cases hB
      have bD : aB ≠ D := fun e => by rw [e, k5 _ _ Dx d4] at hB; cases hB
      have bG : aB ≠ aG := fun e => by rw [e, g5] at hB; cases hB
      have cL : aK ≠ aL := fun e => by rw [e, ((k4.trans k5).trans k6) _ _ hxL L3] at hK; cases hK
      have cS : aK ≠ aS := fun e => by rw [e, (((k3.trans k4).trans k5).trans k6) _ _ sx s2] at hK; cases hK
      have cF : aK ≠ aF := fun e => by rw [e, ((k4.trans k5).trans k6) _ _ fx f3] at hK; cases hK
      have cD : aK ≠ D := fun e => by rw [e, (k5.trans k6) _ _ Dx d4] at hK; cases hK
      have cG : aK ≠ aG := fun e => by rw [e, k6 _ _ gx g5] at hK; cases hK
      have cB : aK ≠ aB := fun e => by rw [e, b6] at hK; cases hK
      have hfresh : ∀ (y : Addr), y ≠ x → ∀ G', K1 x H G' → G' y = none → H y = none := fun y hy G' k h => k.free hy h
      refine q E7 ⟨x, aL, aS, aF, D, aG, aB, aK, x, dx, as⟩ rfl rfl (fun y m hyx hyL => ?_) (fun y o hy h => k37 _ _ hy (k13 _ _ hy h)) ⟨?_, x7, k37 _ _ hxL L3, k27 _ _ sx s2, k37 _ _ fx f3, k47 _ _ Dx d4, g2, fun i A hA => ?_, k57 _ _ gx g5, k67 _ _ bx b6, c7⟩
      · rcases List.mem_append.mp m with m | m
        · simp only [Ad.fix, List.mem_cons, List.not_mem_nil, or_false] at m
          rcases m with e | e | e | e | e | e | e | e | e
          · exact absurd e hyx
          · exact absurd e hyL
          · subst e; exact k1.free hyx hS
          · subst e; exact (k1.trans k2).free hyx hF
          · subst e; exact k13.free hyx hD
          · subst e; exact (k13.trans k4).free hyx hG
          · subst e; exact ((k13.trans k4).trans k5).free hyx hB
          · subst e; exact (((k13.trans k4).trans k5).trans k6).free hyx hK
          · exact absurd e hyx
        · obtain ⟨i, hi⟩ := List.getElem?_of_mem m
          exact k13.free hyx (a4 i y hi).1
      · refine List.nodup_append.mpr ⟨?_, g3, fun a ha b hb e => ?_⟩
        · simp only [List.nodup_cons, List.mem_cons, List.not_mem_nil, or_false, not_or, not_false_eq_true, List.nodup_nil, and_true]
          exact ⟨⟨hxL.symm, sx.symm, fx.symm, Dx.symm, gx.symm, bx.symm, kx.symm⟩, ⟨sL.symm, fL.symm, DL.symm, gL.symm, bL.symm, cL.symm⟩, ⟨fS.symm, DS.symm, gS.symm, bS.symm, cS.symm⟩, ⟨DF.symm, gF.symm, bF.symm, cF.symm⟩, ⟨gD.symm, bD.symm, cD.symm⟩, ⟨bG.symm, cG.symm⟩, cB.symm⟩
        · subst e
          obtain ⟨i, hi⟩ := List.getElem?_of_mem hb
          obtain ⟨q1, q2, q3⟩ := a4 i a hi
          have ax : a ≠ x := fun e => by rw [e, x3] at q1; cases q1
          simp only [List.mem_cons, List.not_mem_nil, or_false] at ha
          rcases ha with e | e | e | e | e | e | e | e
          · exact ax e
          · rw [e, L3] at q1; cases q1
          · rw [e, k3 _ _ sx s2] at q1; cases q1
          · rw [e, f3] at q1; cases q1
          · exact q2 e
          · rw [e] at q3; rw [q3] at hG; cases hG
          · have := k5 _ _ ax q3; rw [e] at this; rw [this] at hB; cases hB
          · have := (k5.trans k6) _ _ ax q3; rw [e] at this; rw [this] at hK; cases hK
      · obtain ⟨q1, q2, q3⟩ := a4 i A hA
        have ax : A ≠ x := fun e => by rw [e, x3] at q1; cases q1
        exact k47 _ _ ax q3
end
end Sb
namespace Sb
open PySem PySem.Spec PyProof.Rows L2
theorem shaped_3 (w : Wt) : SeqAt.shaped (.list (w.map e3)) = true := shaped_by (k := 2) (lay_map _ (fun _ => rfl) w) (Nat.succ_le_succ (depth_map _ 1 (fun _ => Nat.le_refl _) w)) (by decide)
section
variable {P : Program} {w0 : World} {K : PySem.W.Frag} {mg : Str → Option Value} {base : Heap}
def spGrown (K : PySem.W.Frag) : Sp := fun vs H Q _ => ∃ (v : V) (aL : Addr) (n : Nat) (bs : List Btn), vs = [v, .ref aL] ∧ Im H v (eBs bs) ∧ H aL = some (.lst (vN (List.range n))) ∧ n ≤ 5 ∧ (∀ b ∈ bs, Tn n b.2) ∧ bs.length ≤ 8 ∧
  ∀ d H', Same H H' → Rep K H' d n (grownM n (bs.map (·.2))) [] → (grownM n (bs.map (·.2))).levels.length = n → Q (.ref d.a) H'
theorem c_grown (z : Z K mg) : Cal P w0 K mg base 5 "grown" (spGrown K) := by
  have S : FnScope ["pairs", "line", "tower", "waiting", "step", "turn", "level", "place", "number"] ["pairs", "line"] (defScope sGrown) := ⟨rfl, rfl, rfl, by decide +kernel, rfl, by decide +kernel, by decide +kernel⟩
  refine cal_by z.d_grown z.g_grown S (fun _ _ _ _ _ _ us hl => match us, hl with | [_, _], _ => rfl) (fun vs H Q E h => ?_) (fun cdv A outer s H vs Q E hr h => ?_)
  · obtain ⟨v, aL, n, bs, rfl, _⟩ := h
    rfl
  · obtain ⟨v, aL, n, bs, rfl, hv, hL, h5, hb, hbl, q⟩ := h
    refine ⟨_, pss_cons (ps_par (i := 2) (j := 3) (by rfl) S.nd rfl rfl (by decide) rfl rfl (pa_cons (pe_new (k_Tower z) hr (by decide) rfl (pa_cons (pv 1) pa_nil)) (pa_cons (pe_lst pa_nil) pa_nil)) (by rfl))
    (pss_cons (ps_for PassesOwn.never rfl (pi_tup (pv 0)) (pg_tup rfl (pgs_cons (pg_name (i := 4) S.nd rfl (Or.inl rfl)) (pgs_cons (pg_name (i := 5) S.nd rfl (Or.inl rfl)) pgs_nil)))
      (pss_cons (ps_expr (pe_f (c_sift z) hr (by decide) rfl (pa_cons (pv 2) (pa_cons (pv 3) (pa_cons (pe_m (m_added z) hr (by decide) (pv 2) (pa_cons (pv 4) (pa_cons (pv 5) pa_nil))) (pa_cons pe_int pa_nil))))))
      (pss_one (ps_while PassesOwn.never (pt_cmpR (op_neD hr.units) (pv 3) (pe_lst pa_nil) (nomark _))
        (pss_cons (ps_asg (pe_bm0 PySem.F.plainAttrs_list PySem.F.slot_list_pop PySem.F.type_list_pop mt_pop (pv 3)) (pg_tup rfl (pgs_cons (pg_name (i := 6) S.nd rfl (Or.inl rfl)) (pgs_cons (pg_name (i := 7) S.nd rfl (Or.inl rfl)) (pgs_cons (pg_name (i := 8) S.nd rfl (Or.inl rfl)) pgs_nil)))))
        (pss_one (ps_expr (pe_f (c_work z) hr (by decide) rfl (pa_cons (pv 2) (pa_cons (pv 3) (pa_cons (pv 6) (pa_cons (pv 7) (pa_cons (pv 8) pa_nil)))))))))))))
    (pss_one (ps_ret (pv 2)))), ?_⟩
    obtain ⟨a, xs, rfl, ha, hxs⟩ := hv.tupE
    have hlen := hxs.mlen
    refine ⟨_, rfl, fun x dx nx ndx nex => ?_⟩
    have hLx : aL ≠ x := ne_of_none hL nx
    have hLd : aL ≠ dx := ne_of_none hL ndx
    have eN : Same H (upd (upd H dx (.own x)) x (.ins (gA K "Tower") dx [])) := Same.mut (Same.new ndx) nx
    refine ⟨x, dx, aL, n, rfl, upd_same, eN _ _ hL, by omega, fun H1 d hda hdL hnew hkeep hI => ⟨rfl, by decide, fun W hW => ⟨_, _, rfl, ?_⟩⟩⟩
    have R0 := hI.rep hW
    have hW' : W ≠ x := fun e => by rw [e, ← hda, hI.ins] at hW; cases hW
    -- what was there stays
    have hs1 : ∀ y o, H y = some o → H1 y = some o := fun y o hy => hkeep y o (fun e => by rw [e, nx] at hy; cases hy) (eN y o hy)
    have hWn : H W = none := Same.free hs1 hW
    have hdn : ∀ y ∈ ({ d with aW := W } : Ad).all, y ≠ aL → H y = none := fun y m hyL => by
      by_cases e1 : y = x
      · rw [e1]; exact nx
      by_cases e2 : y = W
      · rw [e2]; exact hWn
      have m' : y ∈ d.all ∨ y = W := by
        rcases List.mem_append.mp m with m | m
        · simp only [Ad.fix, List.mem_cons, List.not_mem_nil, or_false] at m
          rcases m with e | e | e | e | e | e | e | e | e
          all_goals first
            | exact .inr e
            | (refine .inl (List.mem_append_left _ ?_); simp only [Ad.fix, List.mem_cons, List.not_mem_nil, or_false, e, true_or, or_true])
        · exact .inl (List.mem_append_right _ m)
      rcases m' with m' | m'
      · exact eN.free (hnew y m' e1 hyL)
      · exact absurd m' e2
    have hkeep0 : ∀ y o, H y = some o → upd H1 W (.lst []) y = some o := fun y o hy => Same.new hW y o (hs1 y o hy)
    -- at the end all is as it was
    have hend : ∀ (H' : Hp) (s : Tw), Rep K H' { d with aW := W } n s [] → (∀ y o, y ∉ ({ d with aW := W } : Ad).all → H y = some o → H' y = some o) → Same H H' := fun H' s R k y o hy => by
      by_cases m : y ∈ ({ d with aW := W } : Ad).all
      · by_cases e : y = aL
        · subst e
          rw [hL] at hy
          cases hy
          have := R.line
          rw [show ({ d with aW := W } : Ad).aL = d.aL from rfl, hdL] at this
          exact this
        · rw [hdn y m e] at hy
          cases hy
      · exact k y o m hy
    have hset : x = ({ d with aW := W } : Ad).a := hda.symm
    generalize hD : ({ d with aW := W } : Ad) = D at *
    have hWD : W = D.aW := by rw [← hD]
    generalize upd H1 W (HO.lst []) = G0 at *
    rw [hset, hWD]
    have ha1 : G0 a = some (.tup xs) := hkeep0 _ _ ha
    have hxs1 : Ims G0 xs (bs.map eB) := hxs.on hkeep0
    have haD : a ∉ D.all := fun m => by
      obtain ⟨o, ho, hu⟩ := R0.there a m
      rw [ha1] at ho
      exact hu xs (Option.some.inj ho).symm
    refine ⟨_, rfl, a, rfl, ⟨_, SqT.of ha1⟩, for_it (walk_tup (xs := xs)) (fun i σ H2 => ∃ s, s = ((bs.take i).map (·.2)).foldl (pairM n) (tw0 n) ∧ Inv n s [] 0 ∧ s.faces.length + 11 * phi s [] 0 ≤ 83875 + 11 * i ∧ Rep K H2 D n s [] ∧ Frm D G0 H2 ∧ ∃ u4 u5 u6 u7 u8, σ = [some (.ref a), some (.ref aL), some (.ref D.a), some (.ref D.aW), u4, u5, u6, u7, u8])
      ⟨tw0 n, rfl, tw0_inv n, ?_, R0, Frm.refl, none, none, none, none, none, rfl⟩ (fun i σ H2 _ p => by
        obtain ⟨s, _, _, _, _, F, _⟩ := p
        exact SqT.of (F.tk _ _ ha1)) (fun i y σ H2 H3 hi p hy => ?_) (fun σ H2 p => ?_)⟩
    · have : phi (tw0 n) [] 0 ≤ 0 + 7625 := phi_le
      show 0 + 11 * _ ≤ _
      omega
    · obtain ⟨s, hs, hInv, hbd, R, F, u4, u5, u6, u7, u8, rfl⟩ := p
      obtain ⟨rfl, hc⟩ := hy
      obtain ⟨b, h1, h2⟩ := (hxs1.by F.tk).mget hc
      obtain ⟨c, c2, rfl, h3, h4⟩ := h2.bE
      have htn := hb b (List.mem_of_getElem? h1)
      have hst := hInv.core.steps
      have hsl := hInv.strl
      have hel := hInv.core.entries_le h5
      have hlf := addF_faces s b.2
      obtain ⟨c0, p1, p2, p3, p4, p5⟩ := pair_inv h5 hInv htn
      have hG1 : Good n (addF s b.2) := (hInv.core.add htn).good h5 (by omega) (by show s.strong.length ≤ _; omega)
      refine ⟨c, _, rfl, SqT.of h3, rfl, _, _, rfl, _, _, rfl, rfl, ?_⟩
      refine ⟨_, rfl, _, rfl, _, rfl, D.a, D.dx, _, rfl, R.ins, rfl, _, rfl, _, rfl, D, n, s, [], .str b.1, .ref c2, b.2, rfl, R, im_t h4, by omega, hst, fun H4 F4 R4 => ?_⟩
      refine ⟨D, n, addF s b.2, [], s.steps, 0, rfl, R4, hG1, by omega, Nat.zero_le _, by omega, fun H5 F5 R5 => ?_⟩
      have hpm : pairM n s b.2 = (loopM n 10000 (siftM n (addF s b.2) [] s.steps 0)).1 := rfl
      have hnext : ((bs.take (i + 1)).map (·.2)).foldl (pairM n) (tw0 n) = pairM n s b.2 := by
        rw [take_some h1, List.map_append, List.foldl_append, ← hs]
        rfl
      rw [hnext, hpm]
      obtain ⟨s', j1, j2, j3⟩ := loop_inv h5 10000 _ _ c0 p1 (by omega)
      rw [show siftM n (addF s b.2) [] s.steps 0 = ((siftM n (addF s b.2) [] s.steps 0).1, (siftM n (addF s b.2) [] s.steps 0).2) from rfl, j1]
      have hbd1 : (siftM n (addF s b.2) [] s.steps 0).1.faces.length + 11 * phi (siftM n (addF s b.2) [] s.steps 0).1 (siftM n (addF s b.2) [] s.steps 0).2 c0 ≤ 83875 + 11 * (i + 1) := by omega
      have F15 := (F.trans F4).trans F5
      have hphi0 : phi (siftM n (addF s b.2) [] s.steps 0).1 (siftM n (addF s b.2) [] s.steps 0).2 c0 < 10000 := by omega
      generalize siftM n (addF s b.2) [] s.steps 0 = sw at *
      refine ⟨fun m σ H6 => ∃ (t : Tw) (w : Wt) (ct f : Nat), m = phi t w ct ∧ Inv n t w ct ∧ phi t w ct < f ∧ loopM n f (t, w) = (s', []) ∧ t.faces.length + 11 * phi t w ct ≤ 83875 + 11 * (i + 1) ∧ Rep K H6 D n t w ∧ Frm D G0 H6 ∧ ∃ u4 u5 u6 u7 u8, σ = [some (.ref a), some (.ref aL), some (.ref D.a), some (.ref D.aW), u4, u5, u6, u7, u8],
        ⟨_, sw.1, sw.2, c0, 10000, rfl, p1, hphi0, j1, hbd1, R5, F15, _, _, _, _, _, rfl⟩, ?_⟩
      rintro m σ H6 ⟨t, w, ct, f, rfl, tI, tf, tl, tb, tR, tF, v4, v5, v6, v7, v8, rfl⟩
      obtain ⟨ws, w1, w2⟩ := tR.wait
      refine ⟨_, rfl, by decide, fun L hL' => ⟨.list (w.map e3), .list [], .lst (SqL.of (Same.new hL' _ _ w1)) (Ims.dp _ _ (w2.on (Same.new hL'))), .lst (SqL.of upd_same) .nil, shaped_3 w, rfl, _, rfl, ?_⟩⟩
      have eL := Same.new (o := HO.lst []) hL'
      have tR1 := tR.by eL
      have tF1 := tF.trans (Frm.of eL)
      rw [PyData.eqv]
      rcases List.eq_nil_or_concat w with ew | ⟨w', x', ew⟩
      · subst ew
        have hz := tI.zero
        subst hz
        have hts : t = s' := by
          cases f with
          | zero => exact congrArg Prod.fst tl
          | succ f => exact congrArg Prod.fst tl
        subst hts
        exact iteF ⟨t, rfl, tI, tb, tR1, tF1, _, _, _, _, _, rfl⟩
      · rw [List.concat_eq_append] at ew
        subst ew
        have hev : PyData.eqvAll ((w' ++ [x']).map e3) [] = false := by
          rw [List.map_append]
          cases w' <;> rfl
        rw [hev]
        obtain ⟨c', i1, i2, i3, i4⟩ := work_inv h5 tI
        obtain ⟨f, rfl⟩ : ∃ k, f = k + 1 := ⟨f - 1, by omega⟩
        have tl' : loopM n f (workM n t w' x') = (s', []) := by
          rw [loopM, show ((t, w' ++ [x']) : Tw × Wt).2.getLast? = some x' from List.getLast?_concat ..] at tl
          have : loopM n f (workM n t (w' ++ [x']).dropLast x') = (s', []) := tl
          rwa [List.dropLast_concat] at this
        refine iteT ⟨_, fun σ' H' w => ⟨phi (workM n t w' x').1 (workM n t w' x').2 c', i2, w⟩, ?_⟩
        obtain ⟨ws1, w3, w4⟩ := tR1.wait
        have hwl : ws1.length = w'.length + 1 := by rw [w4.mlen, List.length_append]; rfl
        obtain ⟨y, hy⟩ : ∃ y, ws1[ws1.length - 1]? = some y := ⟨_, List.getElem?_eq_getElem (by omega)⟩
        obtain ⟨x2, q1, q2⟩ := w4.mget hy
        rw [hwl, Nat.add_sub_cancel, List.getElem?_append_right (Nat.le_refl _), Nat.sub_self] at q1
        cases q1
        obtain ⟨ay, ys, rfl, h5', h6⟩ := q2.tupE
        obtain ⟨l, pp, k⟩ := x'
        have hys : ys = [.int (l : Nat), .int (pp : Nat), .int (k : Nat)] := by
          cases h6 with
          | cons a1 h6 =>
            cases h6 with
            | cons a2 h6 =>
              cases h6 with
              | cons a3 h6 =>
                cases h6
                rw [a1.intE, a2.intE, a3.intE]
        subst hys
        refine ⟨_, rfl, .inl ⟨rfl, _, SqL.of w3⟩, D.aW, ws1, _, rfl, rfl, w3, hy, ?_⟩
        have tR2 := tR1.setW (xs := ws1.dropLast) (w' := w') (by
          have := ims_take w'.length w4
          rw [List.map_append, List.take_left' (by rw [List.length_map])] at this
          rw [List.dropLast_eq_take, hwl, Nat.add_sub_cancel]
          exact this)
        have tF2 := tR1.frm (o := HO.lst ws1.dropLast) (x := D.aW) (mem_all (i := 8) rfl)
        obtain ⟨g1, g2, g3⟩ := tI.items (l, pp, k) (List.mem_append_right _ (List.mem_singleton.mpr rfl))
        have tsl := tI.strl
        have tel := tI.core.entries_le h5
        have tcn := tI.cn
        have hphl : (w' ++ [(l, pp, k)]).length ≤ phi t (w' ++ [(l, pp, k)]) ct := by unfold phi; omega
        rw [List.length_append] at hphl
        have hG2 : Good n t := tI.core.good h5 (by omega) (by omega)
        refine ⟨ay, _, rfl, SqT.of (tF2.tk _ _ h5'), rfl, _, _, rfl, _, _, rfl, _, _, rfl, rfl, ?_⟩
        refine ⟨_, rfl, _, rfl, _, rfl, _, rfl, _, rfl, D, n, t, w', l, pp, k, rfl, tR2, hG2, g1, g2, g3, by omega, by omega, fun H7 F7 R7 => ?_⟩
        exact ⟨_, _, c', f, rfl, i1, by omega, tl', by omega, R7, (tF1.trans tF2).trans F7, _, _, _, _, _, rfl⟩
    · obtain ⟨s, hs, hInv, hbd, R, F, u4, u5, u6, u7, u8, rfl⟩ := p
      rw [hlen, List.take_length] at hs
      have hg : grownM n (bs.map (·.2)) = s := hs.symm
      refine ⟨_, rfl, q D H2 (hend H2 s R fun y o m hy => F.keep y o m (hkeep0 y o hy)) ?_ ?_⟩
      · rw [hg]; exact R
      · rw [hg]; exact hInv.core.lev
def spSpan (K : PySem.W.Frag) : Sp := fun vs H Q _ => ∃ (d : Ad) (n : Nat) (s : Tw), vs = [.ref d.a] ∧ Rep K H d n s [] ∧ s.levels.length ≤ 1000 ∧ ∀ a H', Same H H' → H' a = some (.lst (vN (s.levels.map List.length))) → Q (.ref a) H'
theorem c_span_sizes (z : Z K mg) : Cal P w0 K mg base 1 "span_sizes" (spSpan K) := by
  have S : FnScope ["tower", "level"] ["tower"] (defScope sSpanSizes) := ⟨rfl, rfl, rfl, by decide +kernel, rfl, by decide +kernel, by decide +kernel⟩
  refine cal_by z.d_span_sizes z.g_span_sizes S (fun _ _ _ _ _ _ us hl => match us, hl with | [_], _ => rfl) (fun vs H Q E h => ?_) (fun cdv A outer s H vs Q E hr h => ?_)
  · obtain ⟨d, n, s, rfl, _⟩ := h
    rfl
  · obtain ⟨d, n, s, rfl, R, hl, q⟩ := h
    refine ⟨_, pss_one (ps_ret (pe_lc (own := [("level", 1)]) (g := gName 1) rfl S.nd (pi_list (pe_fld (pv 0) rfl)) (blkOk_by (own := [("level", 1)]) (N := ["tower", "level"]) (sc := defScope sSpanSizes) (by decide +kernel)) (fun _ _ _ _ _ => (pg_name (i := 1) S.nd rfl (Or.inl rfl))) (fun _ _ _ _ _ => pts_nil) (fun _ _ _ _ _ => (pe_callB call_lenD (by rfl) z.b_len boot_len (pa_cons (pv 1) pa_nil))))), ?_⟩
    have hll := R.llen
    refine ⟨_, rfl, d.a, _, d.dx, _, _, rfl, R.ins, z.cl_Tower, z.n_levels, rfl, d.aV, rfl, ⟨_, SqL.of R.levs⟩, fun D hD => lc_data (walk_list (xs := d.as.map V.ref)) ((s.levels.map List.length).map fun n : Nat => .int (n : Int)) (by rw [List.length_map, List.length_map, List.length_map, hll]) (by rw [List.length_map, hll]; show _ ≤ 2 ^ 24; omega) hD (fun H1 e => SqL.of (e _ _ R.levs)) yat_same (fun i y H1 H2 Nx hi e e2 hy q => ?_) (fun H1 xs e h5 h6 => ?_)⟩
    · obtain ⟨rfl, hc⟩ := hy
      rw [List.length_map] at hi
      have hi2 : i < s.levels.length := by omega
      obtain ⟨A, kvs, a1, a2, a3, a4⟩ := (R.by e).level hi2
      rw [a2] at hc
      cases hc
      refine ⟨rfl, _, rfl, A, kvs, rfl, a3, ?_⟩
      rw [a4.len]
      exact q _ _ _ (Same.refl _) (by rw [List.getElem?_map, List.getElem?_map, lvl_some hi2]; rfl) (.int _)
    · rw [h6.nats] at h5
      exact q D _ e h5
def spSize (K : PySem.W.Frag) : Sp := fun vs H Q _ => ∃ (d : Ad) (n : Nat) (s : Tw), vs = [.ref d.a] ∧ Rep K H d n s [] ∧ Core n s ∧ n ≤ 5 ∧ ∀ H', Same H H' → Q (.int (sizeM s : Nat)) H'
theorem c_size_of (z : Z K mg) : Cal P w0 K mg base 2 "size_of" (spSize K) := by
  have S : FnScope ["tower", "found", "many"] ["tower"] (defScope sSizeOf) := ⟨rfl, rfl, rfl, by decide +kernel, rfl, by decide +kernel, by decide +kernel⟩
  refine cal_by z.d_size_of z.g_size_of S (fun _ _ _ _ _ _ us hl => match us, hl with | [_], _ => rfl) (fun vs H Q E h => ?_) (fun cdv A outer s H vs Q E hr h => ?_)
  · obtain ⟨d, n, s, rfl, _⟩ := h
    rfl
  · obtain ⟨d, n, s, rfl, R, hC, h5, q⟩ := h
    refine ⟨_, pss_cons (ps_set (i := 1) S.nd rfl (Or.inl rfl) pe_int)
    (pss_cons (ps_for PassesOwn.never rfl (pi_list (pe_f (c_span_sizes z) hr (by decide) rfl (pa_cons (pv 0) pa_nil))) (pg_name (i := 2) S.nd rfl (Or.inl rfl))
      (pss_one (ps_set (i := 1) S.nd rfl (Or.inl rfl) (pe_op op_mul (pv 1) (pv 2)))))
    (pss_one (ps_ret (pv 1)))), ?_⟩
    refine ⟨_, rfl, d, n, s, rfl, R, by rw [hC.lev]; omega, fun a H1 e1 ha => ?_⟩
    have hms : ∀ x ∈ s.levels.map List.length, x ≤ 5 := fun x m => by
      obtain ⟨b, hb, rfl⟩ := List.mem_map.mp m
      obtain ⟨l, hl⟩ := List.getElem?_of_mem hb
      have hl2 := (List.getElem?_eq_some_iff.mp hl).1
      rw [lvl_at hl2] at hl
      cases hl
      have := hC.lvl_len (by rw [← hC.lev]; exact hl2)
      omega
    refine ⟨a, rfl, ⟨_, SqL.of ha⟩, for_it (walk_list (xs := vN (s.levels.map List.length))) (fun i σ H2 => H2 = H1 ∧ ∃ u, σ = [some (.ref d.a), some (.int ((((s.levels.map List.length).take i).foldl (· * ·) 1 : Nat))), u]) ⟨rfl, none, rfl⟩ (fun i σ H2 _ p => by rw [p.1]; exact SqL.of ha) (fun i y σ H2 H3 hi p hy => ?_) (fun σ H2 p => ?_)⟩
    · obtain ⟨rfl, u, rfl⟩ := p
      obtain ⟨rfl, hc⟩ := hy
      rw [vN_len] at hi
      rw [vN_get, gt_some hi] at hc
      cases hc
      have := hms _ (gt_mem hi)
      refine ⟨_, rfl, _, rfl, _, _, rfl, rfl, .inr ⟨by omega, by omega⟩, rfl, some (.int (gt (s.levels.map List.length) i : Nat)), ?_⟩
      rw [take_some (gt_some hi), List.foldl_append]
      rfl
    · obtain ⟨rfl, u, rfl⟩ := p
      rw [vN_len, List.take_length]
      exact ⟨_, rfl, q _ e1⟩
def ordM (n : Nat) (bs : List Btn) : Nat := sizeM (grownM n (bs.map (·.2)))
def spTowerOf (K : PySem.W.Frag) : Sp := fun vs H Q _ => ∃ (v : V) (n : Nat) (bs : List Btn), vs = [v] ∧ Few K H v n bs ∧ ∀ d H', Same H H' → Rep K H' d n (grownM n (bs.map (·.2))) [] → Q (.ref d.a) H'
theorem c_tower_of (z : Z K mg) : Cal P w0 K mg base 6 "tower_of" (spTowerOf K) := by
  have S : FnScope ["board"] ["board"] (defScope sTowerOf) := ⟨rfl, rfl, rfl, by decide +kernel, rfl, by decide +kernel, by decide +kernel⟩
  refine cal_by z.d_tower_of z.g_tower_of S (fun _ _ _ _ _ _ us hl => match us, hl with | [_], _ => rfl) (fun vs H Q E h => ?_) (fun cdv A outer s H vs Q E hr h => ?_)
  · obtain ⟨v, n, bs, rfl, _⟩ := h
    rfl
  · obtain ⟨v, n, bs, rfl, ⟨⟨a, dx, T, E1, rfl, ha, hT⟩, hb, h5⟩, q⟩ := h
    refine ⟨_, pss_one (ps_ret (pe_f (c_grown z) hr (by decide) rfl (pa_cons (pe_fld (pv 0) rfl) (pa_cons (pe_listRg rfl (by rfl) z.b_list (prg_1 (by rfl) z.b_range (pe_fld (pv 0) rfl))) pa_nil)))), ?_⟩
    refine ⟨_, rfl, a, _, dx, _, _, rfl, ha, z.cl_Board, z.n_buttons, rfl, _, rfl, a, _, dx, _, _, rfl, ha, z.cl_Board, z.n_size, rfl, n, rfl, rgOk_nat (by omega), fun p hp => ?_⟩
    rw [rgV_nat]
    exact ⟨T, p, n, bs, rfl, hT.on (Same.new hp), upd_same, h5, fun b m => (hb.2.2.2.1 b m).2.2.tn, hb.2.2.1, fun d H' e R _ => q d H' ((Same.new hp).trans e) R⟩
theorem grown_core {n : Nat} {bs : List Btn} (hb : BtnsOk n bs) (h5 : n ≤ 5) : Core n (grownM n (bs.map (·.2))) := by
  have : ∀ (ts : List Trn) (s : Tw), (∀ t ∈ ts, Tn n t) → Inv n s [] 0 → Inv n (ts.foldl (pairM n) s) [] 0 := fun ts => by
    induction ts with
    | nil => exact fun s _ h => h
    | cons t ts ih => exact fun s ht h => ih _ (fun u m => ht u (List.mem_cons_of_mem _ m)) (pairM_inv h5 h (ht t (List.mem_cons_self ..))).1
  refine (this _ (tw0 n) (fun t m => ?_) (tw0_inv n)).core
  obtain ⟨b, hbm, rfl⟩ := List.mem_map.mp m
  exact (hb.2.2.2.1 b hbm).2.2.tn
def spOrder (K : PySem.W.Frag) : Sp := fun vs H Q _ => ∃ (v : V) (n : Nat) (bs : List Btn), vs = [v] ∧ Few K H v n bs ∧ ∀ H', Same H H' → Q (.int (ordM n bs : Nat)) H'
theorem c_group_order (z : Z K mg) : Cal P w0 K mg base 7 "group_order" (spOrder K) := by
  have S : FnScope ["board"] ["board"] (defScope sGroupOrder) := ⟨rfl, rfl, rfl, by decide +kernel, rfl, by decide +kernel, by decide +kernel⟩
  refine cal_by z.d_group_order z.g_group_order S (fun _ _ _ _ _ _ us hl => match us, hl with | [_], _ => rfl) (fun vs H Q E h => ?_) (fun cdv A outer s H vs Q E hr h => ?_)
  · obtain ⟨v, n, bs, rfl, _⟩ := h
    rfl
  · obtain ⟨v, n, bs, rfl, hf, q⟩ := h
    refine ⟨_, pss_one (ps_ret (pe_f (c_size_of z) hr (by decide) rfl (pa_cons (pe_f (c_tower_of z) hr (by decide) rfl (pa_cons (pv 0) pa_nil)) pa_nil))), ?_⟩
    exact ⟨_, rfl, v, n, bs, rfl, hf, fun d H1 e1 R => ⟨d, n, _, rfl, R, grown_core hf.2.1 hf.2.2, hf.2.2, fun H2 e2 => q H2 (e1.trans e2)⟩⟩
theorem c_order (z : Z K mg) : Cal P w0 K mg base 8 "order" (spOrder K) := by
  have S : FnScope ["board"] ["board"] (defScope sOrder) := ⟨rfl, rfl, rfl, by decide +kernel, rfl, by decide +kernel, by decide +kernel⟩
  refine cal_by z.d_order z.g_order S (fun _ _ _ _ _ _ us hl => match us, hl with | [_], _ => rfl) (fun vs H Q E h => ?_) (fun cdv A outer s H vs Q E hr h => ?_)
  · obtain ⟨v, n, bs, rfl, _⟩ := h
    rfl
  · obtain ⟨v, n, bs, rfl, hf, q⟩ := h
    refine ⟨_, pss_cons (ps_expr (pe_f (c_check_board z) hr (by decide) rfl (pa_cons (pv 0) pa_nil)))
    (pss_one (ps_ret (pe_f (c_group_order z) hr (by decide) rfl (pa_cons (pv 0) pa_nil)))), ?_⟩
    exact ⟨_, rfl, v, n, bs, rfl, hf.1, _, rfl, v, n, bs, rfl, hf, q⟩
def spKeepers (K : PySem.W.Frag) : Sp := fun vs H Q _ => ∃ (v : V) (n : Nat) (bs : List Btn) (l : Sd), vs = [v, .str (SX.S l)] ∧ Few K H v n bs ∧ StOk n l ∧ ∀ f H', Same H H' → Paths (mvs bs) l f → Q (.int (((ordM n bs : Nat) : Int).fdiv (f.length : Int))) H'
theorem c_keepers (z : Z K mg) : Cal P w0 K mg base 9 "keepers" (spKeepers K) := by
  have S : FnScope ["board", "standing"] ["board", "standing"] (defScope sKeepers) := ⟨rfl, rfl, rfl, by decide +kernel, rfl, by decide +kernel, by decide +kernel⟩
  refine cal_by z.d_keepers z.g_keepers S (fun _ _ _ _ _ _ us hl => match us, hl with | [_, _], _ => rfl) (fun vs H Q E h => ?_) (fun cdv A outer s H vs Q E hr h => ?_)
  · obtain ⟨v, n, bs, l, rfl, _⟩ := h
    rfl
  · obtain ⟨v, n, bs, l, rfl, hf, hl, q⟩ := h
    refine ⟨_, pss_one (ps_ret (pe_op op_fdivN (pe_f (c_order z) hr (by decide) rfl (pa_cons (pv 0) pa_nil)) (pe_f (c_count_reached z) hr (by decide) rfl (pa_cons (pv 0) (pa_cons (pv 1) pa_nil))))), ?_⟩
    refine ⟨_, rfl, v, n, bs, rfl, hf, fun H1 e1 => ⟨_, rfl, _, rfl, v, n, bs, l, rfl, hf.on e1, hl, fun f H2 e2 hp => ?_⟩⟩
    have h120 := keys_120 (mvs_ok (hf.2.1.bts hf.2.2)) hl.1 hf.2.2 hp
    have hpos : 0 < f.length := by
      have hm := (hp.mem l).mpr ⟨0, rfl⟩
      obtain ⟨j, hj⟩ := List.getElem?_of_mem hm
      have := (List.getElem?_eq_some_iff.mp hj).1
      have h2 : (keysF f).length = f.length := List.length_map ..
      omega
    exact ⟨_, _, rfl, rfl, ⟨by omega, by rw [Int.natAbs_natCast]; omega⟩, q f H2 (e1.trans e2) hp⟩
end
end Sb
namespace Sb
open PySem PySem.Spec PyProof.Rows L2
def CupAt (H : Hp) (c : Addr) : Prop := ∃ g m t : Int, H c = some (.lst [.int g, .int m, .int t])
/-- the cup may change, and what is new may come -/
structure Sips (c : Addr) (H H' : Hp) : Prop where
  k1 : K1 c H H'
  cup : CupAt H' c
section
variable {c : Addr} {H H' H'' H0 : Hp}
theorem Sips.refl (h : CupAt H c) : Sips c H H := ⟨fun _ _ _ h => h, h⟩
theorem Sips.trans (a : Sips c H H') (b : Sips c H' H'') : Sips c H H'' := ⟨a.k1.trans b.k1, b.cup⟩
theorem CupAt.on (h : CupAt H c) (e : Same H H') : CupAt H' c := by
  obtain ⟨g, m, t, h⟩ := h
  exact ⟨g, m, t, e _ _ h⟩
theorem Sips.of (h : CupAt H c) (e : Same H H') : Sips c H H' := ⟨K1.of e, h.on e⟩
theorem Sips.tk (h : CupAt H c) (s : Sips c H H') : TK H H' := fun a xs ha => s.k1 a _ (fun e => by
  obtain ⟨g, m, t, h⟩ := h
  rw [e, h] at ha
  cases ha) ha
/-- the cup is new to H0 -/
theorem Sips.same (hc : H0 c = none) (e : Same H0 H) (s : Sips c H H') : Same H0 H' := fun a o h => s.k1 a o (fun z => by rw [z, hc] at h; cases h) (e a o h)
theorem Sips.put (h : CupAt H c) (g m t : Int) : Sips c H (upd H c (.lst [.int g, .int m, .int t])) := ⟨fun y o hy e => (upd_ne hy).trans e, g, m, t, upd_same⟩
end
section
variable {P : Program} {w0 : World} {K : PySem.W.Frag} {mg : Str → Option Value} {base : Heap}
def spCup (K : PySem.W.Frag) : Sp := fun vs H Q _ => ∃ (a : Addr) (ns : List Int) (k : Nat), vs = [.ref a, .int k] ∧ SqL K H a (ns.map V.int) ∧ ns.length ≤ 1000 ∧ ∀ c H', Same H H' → H c = none → CupAt H' c → Q (.ref c) H'
theorem c_law_cup (z : Z K mg) : Cal P w0 K mg base 1 "_law_cup" (spCup K) := by
  have S : FnScope ["_law_script", "_law_k", "_law_cell", "_law_mixed_here", "_law_each", "_law_great"] ["_law_script", "_law_k"] (defScope sLawCup) := ⟨rfl, rfl, rfl, by decide +kernel, rfl, by decide +kernel, by decide +kernel⟩
  refine cal_by z.d_law_cup z.g_law_cup S (fun _ _ _ _ _ _ us hl => match us, hl with | [_, _], _ => rfl) (fun vs H Q E h => ?_) (fun cdv A outer s H vs Q E hr h => ?_)
  · obtain ⟨a, ns, k, rfl, _⟩ := h
    rfl
  · obtain ⟨a, ns, k, rfl, ha, hl, q⟩ := h
    refine ⟨_, pss_cons (ps_par (i := 2) (j := 3) (by rfl) S.nd rfl rfl (by decide) rfl rfl (pa_cons (pe_ifExp (pt_cmpR op_lt (pv 1) (pe_callB call_len_seq (by rfl) z.b_len boot_len (pa_cons (pv 0) pa_nil)) (nomark _)) (pe_callTy call_int1 (by rfl) z.b_int boot_int (pa_cons (pe_ix ix_list (pv 0) (pv 1) (fun _ _ => rfl)) pa_nil)) pe_int) (pa_cons (pe_op op_mul pe_int (pe_op op_add (pv 1) pe_int)) pa_nil)) (by rfl))
    (pss_cons (ps_for PassesOwn.never rfl (pi_list (pe_slice sl_list (pv 0) po_none (po_some pe_int))) (pg_name (i := 4) S.nd rfl (Or.inl rfl))
      (pss_one (ps_set (i := 3) S.nd rfl (Or.inl rfl) (pe_op op_mod (pe_callTy call_int1 (by rfl) z.b_int boot_int (pa_cons (pe_op op_add (pe_op op_add (pe_op op_mul (pv 3) pe_int) (pe_op op_mod (pe_callTy call_int1 (by rfl) z.b_int boot_int (pa_cons (pv 4) pa_nil)) pe_int)) (pe_op op_mul pe_int (pv 1))) pa_nil)) pe_int))))
    (pss_cons (ps_set (i := 5) S.nd rfl (Or.inl rfl) (pe_ifExp (PW.pt (pw_or (pt_cmpR op_lt (pv 2) pe_int (nomark _)) (pw_or1 (pt_cmpR op_ge (pv 2) (pe_op op_pow pe_int pe_int) (nomark _))))) (pe_callB call_abs (by rfl) z.b_abs boot_abs (pa_cons (pv 2) pa_nil)) pe_int))
    (pss_one (ps_ret (pe_lst (pa_cons (pv 5) (pa_cons (pe_op op_mod (pe_callTy call_int1 (by rfl) z.b_int boot_int (pa_cons (pe_op op_add (pv 3) (pe_op op_mul pe_int (pe_op op_mod (pe_callTy call_int1 (by rfl) z.b_int boot_int (pa_cons (pv 2) pa_nil)) pe_int))) pa_nil)) pe_int) (pa_cons pe_int pa_nil)))))))), ?_⟩
    have hcut : ∀ y, y ∈ cutV (ns.map V.int) none (some 8) → ∃ i : Int, y = V.int i := fun y m => by
      unfold cutV at m
      obtain ⟨i, _, e⟩ := List.mem_map.mp (List.mem_of_mem_drop (List.mem_of_mem_take m))
      exact ⟨i, e.symm⟩
    refine ⟨_, rfl, _, rfl, a, _, rfl, .inl ha, _, _, rfl, rfl, _, rfl, ite2 (fun c => ?_) (fun c => ?_)⟩
    have hk : k < ns.length := by
      have := of_decide_eq_true c
      rw [List.length_map] at this
      omega
    refine ⟨_, rfl, _, rfl, a, _, _, V.int ns[k], rfl, rfl, ha, atI_nat (by rw [List.getElem?_map, List.getElem?_eq_getElem hk]; rfl), .inl ⟨_, rfl, ?_⟩⟩
    refine ⟨_, rfl, _, _, rfl, rfl, _, _, rfl, rfl, .inl ⟨by decide, by decide⟩, _, _, rfl, ?_⟩
    rotate_left
    refine ⟨_, rfl, _, _, rfl, rfl, _, _, rfl, rfl, .inl ⟨by decide, by decide⟩, _, _, rfl, ?_⟩
    all_goals
      refine ⟨_, rfl, 8, rfl, a, _, rfl, ha, fun p hp => ⟨p, rfl, ⟨_, SqL.of upd_same⟩, for_it (walk_list (xs := cutV (ns.map V.int) none (some 8))) (fun i σ H2 => H2 = upd H p (.lst (cutV (ns.map V.int) none (some 8))) ∧ ∃ (x u : Int) (w : Option V), σ = [some (.ref a), some (.int k), some (.int x), some (.int u), w, none]) ⟨rfl, _, _, none, rfl⟩ (fun i σ H2 _ p => by rw [p.1]; exact SqL.of upd_same) (fun i y σ H2 H3 hi p hy => ?_) (fun σ H2 p => ?_)⟩⟩
      · obtain ⟨rfl, x, u, w, rfl⟩ := p
        obtain ⟨rfl, hc⟩ := hy
        obtain ⟨j, rfl⟩ := hcut y (List.mem_of_getElem? hc)
        refine ⟨_, rfl, _, _, rfl, rfl, .inr ⟨by decide, by decide⟩, _, rfl, .inl ⟨_, rfl, _, _, rfl, rfl, by show (0 : Int) < 1000117; decide, _, _, rfl, rfl, _, rfl, _, _, rfl, rfl, .inl ⟨by decide, by decide⟩, _, _, rfl, rfl, .inl ⟨_, rfl, _, _, rfl, rfl, by show (0 : Int) < 2147482921; decide, rfl, _, _, _, rfl⟩⟩⟩
      · obtain ⟨rfl, x, u, w, rfl⟩ := p
        have hE : ∀ (G : Int) (C : Addr), upd H p (.lst (cutV (ns.map V.int) none (some 8))) C = none → ∀ (x u : Int), Q (.ref C) (upd (upd H p (.lst (cutV (ns.map V.int) none (some 8)))) C (.lst [.int G, .int x, .int u])) := fun G C hC x u =>
          q C _ ((Same.new hp).trans (Same.new hC)) ((Same.new hp).free hC) ⟨_, _, _, upd_same⟩
        refine ⟨_, rfl, _, _, rfl, rfl, _, rfl, ite2 (fun c => ?_) (fun c => ?_)⟩
        · refine iteT ⟨_, rfl, _, rfl, ?_⟩
          exact ⟨_, rfl, _, rfl, _, rfl, .inl ⟨_, rfl, _, _, rfl, rfl, by show (0 : Int) < 999907; decide, _, _, rfl, rfl, .inl ⟨by decide, by decide⟩, _, _, rfl, rfl, .inl ⟨_, rfl, _, _, rfl, rfl, by show (0 : Int) < 2147482921; decide, by show 3 ≤ 2 ^ 24; decide, fun C hC => hE _ C hC _ _⟩⟩⟩
        · refine ⟨_, rfl, _, _, rfl, rfl, ⟨by decide, by decide, by decide⟩, _, _, rfl, rfl, _, rfl, ite2 (fun c => ?_) (fun c => ?_)⟩
          · refine ⟨_, rfl, _, rfl, ?_⟩
            exact ⟨_, rfl, _, rfl, _, rfl, .inl ⟨_, rfl, _, _, rfl, rfl, by show (0 : Int) < 999907; decide, _, _, rfl, rfl, .inl ⟨by decide, by decide⟩, _, _, rfl, rfl, .inl ⟨_, rfl, _, _, rfl, rfl, by show (0 : Int) < 2147482921; decide, by show 3 ≤ 2 ^ 24; decide, fun C hC => hE _ C hC _ _⟩⟩⟩
          · exact ⟨_, rfl, _, rfl, _, rfl, .inl ⟨_, rfl, _, _, rfl, rfl, by show (0 : Int) < 999907; decide, _, _, rfl, rfl, .inl ⟨by decide, by decide⟩, _, _, rfl, rfl, .inl ⟨_, rfl, _, _, rfl, rfl, by show (0 : Int) < 2147482921; decide, by show 3 ≤ 2 ^ 24; decide, fun C hC => hE _ C hC _ _⟩⟩⟩
def spSip : Sp := fun vs H Q _ => ∃ (c : Addr) (top : Nat), vs = [.ref c, .int top] ∧ CupAt H c ∧ 0 < top ∧ top < 1000 ∧ ∀ (r : Nat) H', r < top → Sips c H H' → Q (.int r) H'
theorem c_law_sip (z : Z K mg) : Cal P w0 K mg base 1 "_law_sip" spSip := by
  have S : FnScope ["_law_cup_here", "_law_top", "_law_figure", "_law_state", "_law_factor"] ["_law_cup_here", "_law_top"] (defScope sLawSip) := ⟨rfl, rfl, rfl, by decide +kernel, rfl, by decide +kernel, by decide +kernel⟩
  refine cal_by z.d_law_sip z.g_law_sip S (fun _ _ _ _ _ _ us hl => match us, hl with | [_, _], _ => rfl) (fun vs H Q E h => ?_) (fun cdv A outer s H vs Q E hr h => ?_)
  · obtain ⟨c, top, rfl, _⟩ := h
    rfl
  · obtain ⟨c, top, rfl, ⟨g, m, t, hc⟩, t1, t2, q⟩ := h
    refine ⟨_, pss_cons (ps_asg (pe_op op_add (pe_ix ix_list (pv 0) pe_int (fun _ _ => rfl)) pe_int) (pg_sub (pv 0) pe_int set_list))
    (pss_cons (ps_if (pt_cmpR op_gt (pe_ix ix_list (pv 0) pe_int (fun _ _ => rfl)) pe_int (nomark _))
      (pss_cons (ps_set (i := 2) S.nd rfl (Or.inl rfl) (pe_op op_mod (pe_callTy call_int1 (by rfl) z.b_int boot_int (pa_cons (pe_ix ix_list (pv 0) pe_int (fun _ _ => rfl)) pa_nil)) (pv 1)))
      (pss_cons (ps_asg (pe_op op_fdivN (pe_ix ix_list (pv 0) pe_int (fun _ _ => rfl)) (pv 1)) (pg_sub (pv 0) pe_int set_list))
      (pss_one (ps_ret (pv 2)))))
      pss_nil)
    (pss_cons (ps_set (i := 3) S.nd rfl (Or.inl rfl) (pe_op op_add (pe_callTy call_int1 (by rfl) z.b_int boot_int (pa_cons (pe_ix ix_list (pv 0) pe_int (fun _ _ => rfl)) pa_nil)) (pe_op op_mul pe_int (pe_ix ix_list (pv 0) pe_int (fun _ _ => rfl)))))
    (pss_cons (ps_set (i := 4) S.nd rfl (Or.inl rfl) (pe_op op_add (pe_op op_mod (pe_callTy call_int1 (by rfl) z.b_int boot_int (pa_cons (pv 3) pa_nil)) pe_int) pe_int))
    (pss_cons (ps_asg (pe_op op_mod (pe_callTy call_int1 (by rfl) z.b_int boot_int (pa_cons (pe_op op_add (pe_op op_add (pe_op op_mul (pv 3) (pv 4)) (pe_op op_mul pe_int (pe_ix ix_list (pv 0) pe_int (fun _ _ => rfl)))) pe_int) pa_nil)) pe_int) (pg_sub (pv 0) pe_int set_list))
    (pss_one (ps_ret (pe_op op_mod (pe_op op_fdivN (pe_callTy call_int1 (by rfl) z.b_int boot_int (pa_cons (pe_ix ix_list (pv 0) pe_int (fun _ _ => rfl)) pa_nil)) pe_int) (pv 1)))))))), ?_⟩
    have htop : (0 : Int) < (top : Int) := by omega
    refine ⟨_, rfl, c, _, _, V.int t, rfl, rfl, SqL.of hc, rfl, _, _, rfl, rfl, _, rfl, c, _, _, 2, rfl, rfl, hc, rfl, ?_⟩
    have h1 : upd H c (.lst [.int g, .int m, .int (t + 1)]) c = some (.lst [.int g, .int m, .int (t + 1)]) := upd_same
    have k1 : K1 c H (upd H c (.lst [.int g, .int m, .int (t + 1)])) := fun y o hy e => (upd_ne hy).trans e
    show tSeq _ _ _ _ (upd H c (.lst [.int g, .int m, .int (t + 1)]))
    generalize upd H c (.lst [.int g, .int m, .int (t + 1)]) = H1 at h1 k1
    refine ⟨_, rfl, c, _, _, V.int g, rfl, rfl, SqL.of h1, rfl, _, _, rfl, rfl, _, rfl, ite2 (fun hg => ?_) (fun hg => ?_)⟩
    · refine ⟨_, rfl, c, _, _, V.int g, rfl, rfl, SqL.of h1, rfl, .inl ⟨_, rfl, _, rfl, _, _, rfl, rfl, htop, ?_⟩⟩
      refine ⟨_, rfl, c, _, _, V.int g, rfl, rfl, SqL.of h1, rfl, _, rfl, _, _, rfl, rfl, ⟨by omega, by rw [Int.natAbs_natCast]; omega⟩, _, rfl, c, _, _, 0, rfl, rfl, h1, rfl, _, rfl, ?_⟩
      have hmod := emod_lt (a := g) t1
      have hnn := Int.emod_nonneg g (by omega : (top : Int) ≠ 0)
      show Q (.int (g % (top : Int))) _
      rw [← Int.toNat_of_nonneg hnn]
      exact q _ _ hmod ⟨k1.trans fun y o hy e => (upd_ne hy).trans e, _, _, _, upd_same⟩
    · refine ⟨_, rfl, c, _, _, V.int m, rfl, rfl, SqL.of h1, rfl, .inl ⟨_, rfl, _, rfl, c, _, _, V.int (t + 1), rfl, rfl, SqL.of h1, rfl, _, _, rfl, rfl, .inl ⟨by decide, by decide⟩, _, _, rfl, rfl, ?_⟩⟩
      refine ⟨_, rfl, .inl ⟨_, rfl, _, _, rfl, rfl, by show (0 : Int) < 65587; decide, _, _, rfl, rfl, ?_⟩⟩
      have f1 := Int.emod_nonneg (m + 77003 * (t + 1)) (by decide : (65587 : Int) ≠ 0)
      have f2 := Int.emod_lt_of_pos (m + 77003 * (t + 1)) (by decide : (0 : Int) < 65587)
      have b1 : -(2 ^ 64) < (m + 77003 * (t + 1)) % 65587 + 47017 := by omega
      have b2 : (m + 77003 * (t + 1)) % 65587 + 47017 < 2 ^ 64 := by omega
      have key : ∀ (x : Int) (H' : Hp), Sips c H H' → Q (.int (x % (top : Int))) H' := fun x H' hs => by
        have hmod := emod_lt (a := x) t1
        have hnn := Int.emod_nonneg x (by omega : (top : Int) ≠ 0)
        rw [← Int.toNat_of_nonneg hnn]
        exact q _ _ hmod hs
      refine ⟨_, rfl, _, rfl, _, _, rfl, rfl, .inr ⟨b1, b2⟩, _, rfl, c, _, _, V.int (t + 1), rfl, rfl, SqL.of h1, rfl, _, _, rfl, rfl, .inl ⟨by decide, by decide⟩, _, _, rfl, rfl, _, _, rfl, rfl, .inl ⟨_, rfl, _, _, rfl, rfl, by show (0 : Int) < 2147482921; decide, _, rfl, c, _, _, 1, rfl, rfl, h1, rfl, ?_⟩⟩
      refine ⟨_, rfl, c, _, _, _, rfl, rfl, SqL.of upd_same, rfl, .inl ⟨_, rfl, _, _, rfl, rfl, ⟨by decide, by decide⟩, _, rfl, _, _, rfl, rfl, htop, ?_⟩⟩
      exact key _ _ ⟨k1.trans fun y o hy e => (upd_ne hy).trans e, _, _, _, upd_same⟩
end
end Sb
namespace Sb
open PySem PySem.Spec PyProof.Rows L2
def rIxA (K : PySem.W.Frag) : R2 := fun x y H Q => rIxL K x y H Q ∨ rIxS x y H Q
theorem ix_any {X : Cx} : IxR X (rIxA X.K) := by
  intro value slice pins s σ H x y v u Q I rx ry h hs
  rcases h with h | h
  · exact ix_list value slice pins s σ H x y v u Q I rx ry h hs
  · exact ix_str value slice pins s σ H x y v u Q I rx ry h hs
theorem CupAt.ne {H : Hp} {c a : Addr} {xs : List V} (h : CupAt H c) (ha : H a = some (.tup xs)) : a ≠ c := by
  obtain ⟨g, m, t, h⟩ := h
  exact ne_of ha h (by intro z; cases z)
theorem Sips.newL {c x : Addr} {H H' : Hp} {o : HO} (s : Sips c H H') (hx : H x = none) (hc : x ≠ c) : Sips c H (upd H' x o) := ⟨fun y p hy e => (upd_ne (fun z => by rw [z, hx] at e; cases e)).trans (s.k1 y p hy e), by
  obtain ⟨g, m, t, h⟩ := s.cup
  exact ⟨g, m, t, (upd_ne hc.symm).trans h⟩⟩
theorem cut_take (xs : List V) (k : Nat) : cutV xs none (some (k : Int)) = xs.take k := by
  unfold cutV
  rw [HT.sIx_nat, HT.sIx_none, List.drop_zero, Nat.sub_zero, ← List.take_eq_take_min]
theorem vN_take (t : Trn) (k : Nat) : (vN t).take k = vN (t.take k) := (List.map_take).symm
theorem erase_perm {α : Type} : ∀ (ls : List α) (r : Nat) (h : r < ls.length), ([ls[r]] ++ ls.eraseIdx r).Perm ls
  | [], r, h => absurd h (Nat.not_lt_zero _)
  | x :: ls, 0, _ => List.Perm.refl _
  | x :: ls, r + 1, h => by
    have := erase_perm ls r (by simpa using h)
    exact (List.Perm.swap x (ls[r]'(by simpa using h)) (ls.eraseIdx r)).trans (this.cons x)
/-- who stands before, in a ring -/
def prv (s : Trn) (i : Nat) : Nat := if i = 0 then gt s (s.length - 1) else gt s (i - 1)
def cycTo (n : Nat) (s : Trn) : Nat → Trn
  | 0 => List.range n
  | i + 1 => (cycTo n s i).set (gt s i) (prv s i)
theorem cycTo_len (n : Nat) (s : Trn) : ∀ i, (cycTo n s i).length = n
  | 0 => List.length_range
  | i + 1 => by rw [cycTo, List.length_set, cycTo_len n s i]
theorem cycTo_gt {n : Nat} {s : Trn} (hs : s.Nodup) (hn : ∀ x ∈ s, x < n) : ∀ i, i ≤ s.length → ∀ x, x < n → (∀ j, j < i → gt s j = x → gt (cycTo n s i) x = prv s j) ∧ ((∀ j, j < i → gt s j ≠ x) → gt (cycTo n s i) x = x)
  | 0, _, x, hx => ⟨fun j hj => absurd hj (Nat.not_lt_zero _), fun _ => gt_range hx⟩
  | i + 1, hi, x, hx => by
    obtain ⟨h1, h2⟩ := cycTo_gt hs hn i (by omega) x hx
    have hil : i < s.length := by omega
    have hgi := hn _ (gt_mem hil)
    rw [cycTo]
    refine ⟨fun j hj e => ?_, fun h => ?_⟩
    · rw [gt_set (by rw [cycTo_len]; exact hgi)]
      by_cases c : x = gt s i
      · rw [if_pos c]
        have : j = i := nd_inj hs (by omega) hil (e.trans c)
        rw [this]
      · rw [if_neg c]
        refine h1 j ?_ e
        have : j ≠ i := fun z => c (by rw [← e, z])
        omega
    · rw [gt_set (by rw [cycTo_len]; exact hgi), if_neg fun z => h i (Nat.lt_succ_self i) z.symm]
      exact h2 fun j hj => h j (by omega)
theorem prv_mem {s : Trn} {i : Nat} (hi : i < s.length) : prv s i ∈ s := by
  unfold prv
  split
  · exact gt_mem (by omega)
  · exact gt_mem (by omega)
theorem prv_inj {s : Trn} (hs : s.Nodup) {i j : Nat} (hi : i < s.length) (hj : j < s.length) (e : prv s i = prv s j) : i = j := by
  unfold prv at e
  split at e <;> split at e
  · omega
  · have := nd_inj hs (by omega) (by omega) e; omega
  · have := nd_inj hs (by omega) (by omega) e; omega
  · have := nd_inj hs (by omega) (by omega) e; omega
theorem cycTo_prm {n : Nat} {s : Trn} (hs : s.Nodup) (hn : ∀ x ∈ s, x < n) : Prm n (cycTo n s s.length) := by
  have hg := cycTo_gt hs hn s.length (Nat.le_refl _)
  have hcase : ∀ x, x < n → (∃ j, j < s.length ∧ gt s j = x ∧ gt (cycTo n s s.length) x = prv s j) ∨ (x ∉ s ∧ gt (cycTo n s s.length) x = x) := fun x hx => by
    obtain ⟨h1, h2⟩ := hg x hx
    by_cases c : ∃ j, j < s.length ∧ gt s j = x
    · obtain ⟨j, hj, e⟩ := c
      exact .inl ⟨j, hj, e, h1 j hj e⟩
    · refine .inr ⟨fun m => ?_, h2 fun j hj e => c ⟨j, hj, e⟩⟩
      obtain ⟨j, hj⟩ := List.getElem?_of_mem m
      exact c ⟨j, (List.getElem?_eq_some_iff.mp hj).1, gt_eq hj⟩
  have hlt : ∀ x, x < n → gt (cycTo n s s.length) x < n := fun x hx => by
    rcases hcase x hx with ⟨j, hj, _, e⟩ | ⟨_, e⟩
    · rw [e]; exact hn _ (prv_mem hj)
    · rw [e]; exact hx
  refine prm_of ⟨cycTo_len .., fun y m => ?_⟩ (inj_nd fun p q hp hq e => ?_)
  · obtain ⟨i, hi⟩ := List.getElem?_of_mem m
    have := (List.getElem?_eq_some_iff.mp hi).1
    rw [cycTo_len] at this
    rw [← gt_eq hi]
    exact hlt i this
  · rw [cycTo_len] at hp hq
    rcases hcase p hp with ⟨j, hj, e1, e2⟩ | ⟨e1, e2⟩ <;> rcases hcase q hq with ⟨k, hk, e3, e4⟩ | ⟨e3, e4⟩
    · rw [e2, e4] at e
      have := prv_inj hs hj hk e
      rw [← e1, ← e3, this]
    · rw [e2, e4] at e
      exact absurd (e ▸ prv_mem hj) e3
    · rw [e2, e4] at e
      exact absurd (e ▸ prv_mem hk) e1
    · rw [e2, e4] at e
      exact e
section
variable {P : Program} {w0 : World} {K : PySem.W.Frag} {mg : Str → Option Value} {base : Heap}
def spOne : Sp := fun vs H Q _ => ∃ (c : Addr) (v : V), vs = [.ref c, v] ∧ CupAt H c ∧ ((∃ (a : Addr) (xs : List V), v = .ref a ∧ a ≠ c ∧ H a = some (.lst xs) ∧ 0 < xs.length ∧ xs.length < 1000 ∧ ∀ y H', y ∈ xs → Sips c H H' → Q y H') ∨
  ∃ l : List Nat, v = .str (SX.S l) ∧ 0 < l.length ∧ l.length < 1000 ∧ ∀ x H', x ∈ l → Sips c H H' → Q (.str ⟨#[x]⟩) H')
theorem c_law_one (z : Z K mg) : Cal P w0 K mg base 2 "_law_one" spOne := by
  have S : FnScope ["_law_cup_here", "_law_some"] ["_law_cup_here", "_law_some"] (defScope sLawOne) := ⟨rfl, rfl, rfl, by decide +kernel, rfl, by decide +kernel, by decide +kernel⟩
  refine cal_by z.d_law_one z.g_law_one S (fun _ _ _ _ _ _ us hl => match us, hl with | [_, _], _ => rfl) (fun vs H Q E h => ?_) (fun cdv A outer s H vs Q E hr h => ?_)
  · obtain ⟨c, v, rfl, _⟩ := h
    rfl
  · obtain ⟨c, v, rfl, hc, h⟩ := h
    refine ⟨_, pss_one (ps_ret (pe_ix ix_any (pv 1) (pe_f (c_law_sip z) hr (by decide) rfl (pa_cons (pv 0) (pa_cons (pe_callB call_len (by rfl) z.b_len boot_len (pa_cons (pv 1) pa_nil)) pa_nil))) (fun _ _ => rfl))), ?_⟩
    rcases h with ⟨a, xs, rfl, hac, ha, h1, h2, q⟩ | ⟨l, rfl, h1, h2, q⟩
    · refine ⟨_, rfl, _, rfl, _, rfl, .ref a, xs.length, rfl, .inl ⟨xs, SqL.of ha, rfl⟩, c, xs.length, rfl, hc, h1, h2, fun r H' hrl hs => ?_⟩
      exact .inl ⟨a, _, _, xs[r], rfl, rfl, SqL.of (hs.k1 _ _ hac ha), atI_nat (List.getElem?_eq_getElem hrl), q _ _ (List.getElem_mem _) hs⟩
    · have hlen : (SX.S l).length = l.length := by show (SX.S l).cps.size = _; simp
      refine ⟨_, rfl, _, rfl, _, rfl, .str (SX.S l), l.length, rfl, ⟨by rw [hlen]; show _ ≤ 2 ^ 24; omega, hlen.symm⟩, c, l.length, rfl, hc, h1, h2, fun r H' hrl hs => ?_⟩
      exact .inr ⟨_, _, l[r], rfl, rfl, by rw [hlen]; show _ ≤ 2 ^ 24; omega, atI_nat (by simp [hrl]), q _ _ (List.getElem_mem _) hs⟩
def spMixed : Sp := fun vs H Q _ => ∃ (c a : Addr) (xs : List V), vs = [.ref c, .ref a] ∧ CupAt H c ∧ a ≠ c ∧ H a = some (.lst xs) ∧ xs.length < 1000 ∧ ∀ F ys H', ys.Perm xs → Sips c H H' → H F = none → F ≠ c → H' F = some (.lst ys) → Q (.ref F) H'
theorem c_law_mixed (z : Z K mg) : Cal P w0 K mg base 2 "_law_mixed" spMixed := by
  have S : FnScope ["_law_cup_here", "_law_things", "_law_left", "_law_found", "_law_spare"] ["_law_cup_here", "_law_things"] (defScope sLawMixed) := ⟨rfl, rfl, rfl, by decide +kernel, rfl, by decide +kernel, by decide +kernel⟩
  refine cal_by z.d_law_mixed z.g_law_mixed S (fun _ _ _ _ _ _ us hl => match us, hl with | [_, _], _ => rfl) (fun vs H Q E h => ?_) (fun cdv A outer s H vs Q E hr h => ?_)
  · obtain ⟨c, a, xs, rfl, _⟩ := h
    rfl
  · obtain ⟨c, a, xs, rfl, hc, hac, ha, hl, q⟩ := h
    refine ⟨_, pss_cons (ps_par (i := 2) (j := 3) (by rfl) S.nd rfl rfl (by decide) rfl rfl (pa_cons (pe_callTy call_list_of (by rfl) z.b_list boot_list (pa_cons (pv 1) pa_nil)) (pa_cons (pe_lst pa_nil) pa_nil)) (by rfl))
    (pss_cons (ps_for PassesOwn.never rfl (pi_range1 (by rfl) z.b_range (pa_cons (pe_callB call_len_seq (by rfl) z.b_len boot_len (pa_cons (pv 1) pa_nil)) pa_nil)) (pg_name (i := 4) S.nd rfl (Or.inl rfl))
      (pss_one (ps_expr (pe_bm PySem.F.plainAttrs_list PySem.F.slot_list_append PySem.F.type_list_append mt_append (pv 3) (pa_cons (pe_bm PySem.F.plainAttrs_list PySem.F.slot_list_pop PySem.F.type_list_pop mt_popAt (pv 2) (pa_cons (pe_f (c_law_sip z) hr (by decide) rfl (pa_cons (pv 0) (pa_cons (pe_callB call_len_seq (by rfl) z.b_len boot_len (pa_cons (pv 2) pa_nil)) pa_nil))) pa_nil)) pa_nil)))))
    (pss_one (ps_ret (pv 3)))), ?_⟩
    have hcn : ∀ y, H y = none → y ≠ c := fun y hy e => by
      obtain ⟨g, m, t, hc⟩ := hc
      rw [e, hc] at hy
      cases hy
    refine ⟨_, rfl, a, _, rfl, .inl (SqL.of ha), fun L hL => ⟨by decide, fun F hF => ⟨_, _, rfl, ?_⟩⟩⟩
    have eL := Same.new (o := HO.lst xs) hL
    have eF := Same.new (o := HO.lst []) hF
    have hF0 : H F = none := eL.free hF
    have hLF : L ≠ F := ne_of_none upd_same hF
    have hLc := hcn L hL
    have hFc := hcn F hF0
    refine ⟨_, rfl, a, _, rfl, .inl (SqL.of (eF _ _ (eL _ _ ha))), _, rfl, by omega, by omega, ?_⟩
    rw [Int.toNat_natCast]
    refine for_it walk_range (fun i σ H2 => Sips c H H2 ∧ (∃ ls fs : List V, H2 L = some (.lst ls) ∧ H2 F = some (.lst fs) ∧ (fs ++ ls).Perm xs ∧ ls.length + i = xs.length) ∧ ∃ u, σ = [some (.ref c), some (.ref a), some (.ref L), some (.ref F), u])
      ⟨Sips.of hc (eL.trans eF), ⟨xs, [], eF _ _ upd_same, upd_same, List.Perm.refl _, rfl⟩, none, rfl⟩ (fun i σ H2 _ p => trivial) (fun i x σ H2 H3 hi p hy => ?_) (fun σ H2 p => ?_)
    · obtain ⟨hs, ⟨ls, fs, h1, h2, h3, h4⟩, u, rfl⟩ := p
      obtain ⟨rfl, rfl⟩ := hy
      have hfl := h3.length_eq
      rw [List.length_append] at hfl
      refine ⟨_, rfl, .inl ⟨rfl, _, SqL.of h2⟩, _, rfl, .inl ⟨rfl, _, SqL.of h1⟩, _, rfl, _, rfl, L, ls, rfl, .inl (SqL.of h1), c, ls.length, rfl, hs.cup, by omega, by omega, fun r H' hrl hs' => ?_⟩
      have h1' := hs'.k1 _ _ hLc h1
      have h2' := hs'.k1 _ _ hFc h2
      have hk : seqIndex? (r : Int) ls.length = some r := (ixN_seq (ixN_nat hrl)).1
      refine ⟨L, ls, (r : Int), r, ls[r], rfl, rfl, h1', by omega, by omega, hk, List.getElem?_eq_getElem hrl, ?_⟩
      have h2'' : upd H' L (.lst (ls.eraseIdx r)) F = some (.lst fs) := (upd_ne hLF.symm).trans h2'
      refine ⟨F, fs, _, rfl, rfl, h2'', by show _ < 2 ^ 24; omega, ?_⟩
      refine ⟨((hs.trans hs').newL hL hLc).newL hF0 hFc, ⟨ls.eraseIdx r, fs ++ [ls[r]], (upd_ne hLF).trans upd_same, upd_same, ?_, by rw [List.length_eraseIdx, if_pos hrl]; omega⟩, _, rfl⟩
      rw [List.append_assoc]
      exact ((erase_perm ls r hrl).append_left fs).trans h3
    · obtain ⟨hs, ⟨ls, fs, h1, h2, h3, h4⟩, u, rfl⟩ := p
      have : ls = [] := List.length_eq_zero_iff.mp (by omega)
      rw [this, List.append_nil] at h3
      exact ⟨_, rfl, q F fs H2 h3 hs hF0 hFc h2⟩
def spLawTurn : Sp := fun vs H Q _ => ∃ (c : Addr) (n : Nat), vs = [.ref c, .int n] ∧ CupAt H c ∧ 1 ≤ n ∧ n ≤ 100 ∧ ∀ v t H', Prm n t → Sips c H H' → Im H' v (eT t) → Q v H'
theorem c_law_turn (z : Z K mg) : Cal P w0 K mg base 3 "_law_turn" spLawTurn := by
  have S : FnScope ["_law_cup_here", "_law_n", "_law_way", "_law_found", "_law_some", "_law_k"] ["_law_cup_here", "_law_n"] (defScope sLawTurn) := ⟨rfl, rfl, rfl, by decide +kernel, rfl, by decide +kernel, by decide +kernel⟩
  refine cal_by z.d_law_turn z.g_law_turn S (fun _ _ _ _ _ _ us hl => match us, hl with | [_, _], _ => rfl) (fun vs H Q E h => ?_) (fun cdv A outer s H vs Q E hr h => ?_)
  · obtain ⟨c, n, rfl, _⟩ := h
    rfl
  · obtain ⟨c, n, rfl, hc, n1, n2, q⟩ := h
    refine ⟨_, pss_cons (ps_par (i := 2) (j := 3) (by rfl) S.nd rfl rfl (by decide) rfl rfl (pa_cons (pe_f (c_law_sip z) hr (by decide) rfl (pa_cons (pv 0) (pa_cons pe_int pa_nil))) (pa_cons (pe_listRg rfl (by rfl) z.b_list (prg_1 (by rfl) z.b_range (pv 1))) pa_nil)) (by rfl))
    (pss_cons (ps_if (pt_cmpR op_lt (pv 2) pe_int (nomark _))
      (pss_one (ps_ret (pe_callTy call_tuple_of (by rfl) z.b_tuple boot_tuple (pa_cons (pe_f (c_law_mixed z) hr (by decide) rfl (pa_cons (pv 0) (pa_cons (pv 3) pa_nil))) pa_nil))))
      pss_nil)
    (pss_cons (ps_set (i := 4) S.nd rfl (Or.inl rfl) (pe_slice sl_list (pe_f (c_law_mixed z) hr (by decide) rfl (pa_cons (pv 0) (pa_cons (pv 3) pa_nil))) po_none (po_some (pe_ifExp (pt_cmpR op_eq (pv 2) pe_int (nomark _)) pe_int (pe_op op_add pe_int (pe_f (c_law_sip z) hr (by decide) rfl (pa_cons (pv 0) (pa_cons (pv 1) pa_nil))))))))
    (pss_cons (ps_if (pt_cmpR op_lt (pv 2) pe_int (nomark _))
      (pss_one (ps_for PassesOwn.never rfl (pi_range1 (by rfl) z.b_range (pa_cons (pe_callB call_len_seq (by rfl) z.b_len boot_len (pa_cons (pv 4) pa_nil)) pa_nil)) (pg_name (i := 5) S.nd rfl (Or.inl rfl))
        (pss_one (ps_asg (pe_ix ix_list (pv 4) (pe_op op_sub (pv 5) pe_int) (fun _ _ => rfl)) (pg_sub (pv 3) (pe_ix ix_list (pv 4) (pv 5) (fun _ _ => rfl)) set_list)))))
      pss_nil)
    (pss_one (ps_ret (pe_callTy call_tuple_of (by rfl) z.b_tuple boot_tuple (pa_cons (pv 3) pa_nil))))))), ?_⟩
    have hcn : ∀ y, H y = none → y ≠ c := fun y hy e => by
      obtain ⟨g, m, t, hc⟩ := hc
      rw [e, hc] at hy
      cases hy
    refine ⟨_, rfl, c, 5, rfl, hc, by decide, by decide, fun way H1 hw s1 => ⟨_, rfl, n, rfl, rgOk_nat (by omega), fun F hF => ?_⟩⟩
    rw [rgV_nat]
    refine ⟨_, _, rfl, ?_⟩
    have hFc : F ≠ c := fun e => by
      obtain ⟨g, m, t, h⟩ := s1.cup
      rw [e, h] at hF
      cases hF
    have hF0 : H F = none := s1.k1.free hFc hF
    have s2 : Sips c H (upd H1 F (.lst (vN (List.range n)))) := s1.trans (Sips.of s1.cup (Same.new hF))
    have f2 : upd H1 F (.lst (vN (List.range n))) F = some (.lst (vN (List.range n))) := upd_same
    generalize upd H1 F (.lst (vN (List.range n))) = H2 at s2 f2
    have hvl : (vN (List.range n)).length = n := by rw [vN_len, List.length_range]
    -- a perm of the ints is a turn
    have hperm : ∀ ys : List V, ys.Perm (vN (List.range n)) → ∃ t, ys = vN t ∧ Prm n t := fun ys hp => by
      obtain ⟨t, ht, e⟩ := ims_perm (H := H2) (f := fun k : Nat => PyData.int (k : Int)) hp (ims_nats (List.range n))
      exact ⟨t, e.nats, ht⟩
    refine ⟨_, rfl, _, _, rfl, rfl, _, rfl, ite2 (fun hw2 => ?_) (fun hw2 => ?_)⟩
    · refine ⟨_, rfl, _, rfl, c, F, _, rfl, s2.cup, hFc, f2, by omega, fun G ys H3 hp s3 hG hGc hG3 => ?_⟩
      obtain ⟨t, rfl, ht⟩ := hperm ys hp
      refine ⟨G, _, rfl, .inl ⟨SqL.of hG3, fun T hT => ?_⟩⟩
      exact q _ t _ ht ((s2.trans s3).trans (Sips.of s3.cup (Same.new hT))) (im_t upd_same)
    · refine ⟨_, rfl, _, rfl, c, F, _, rfl, s2.cup, hFc, f2, by omega, fun G ys H3 hp s3 hG hGc hG3 => ?_⟩
      obtain ⟨t, rfl, ht⟩ := hperm ys hp
      have f3 := s3.k1 _ _ hFc f2
      have htn := ht.tn
      have hcut : ∀ (i : Int) (u : Nat), i = u → 1 ≤ u → ∃ sm : Trn, cutV (vN t) none (some i) = vN sm ∧ sm.Nodup ∧ (∀ x ∈ sm, x < n) ∧ 0 < sm.length ∧ sm.length ≤ n := fun i u e h1 => by
        refine ⟨t.take u, by rw [e, cut_take, vN_take], (List.take_sublist u t).nodup ht.nd, fun x m => htn.2 x (List.mem_of_mem_take m), ?_, ?_⟩
        · rw [List.length_take, htn.1]; omega
        · rw [List.length_take, htn.1]; omega
      refine ⟨_, rfl, rfl, _, rfl, ite2 (fun hw3 => ?_) (fun hw3 => ?_)⟩
      refine ⟨2, rfl, G, _, rfl, SqL.of hG3, fun D hD => ?_⟩
      obtain ⟨sm, m1, m2, m3, m4, m5⟩ := hcut 2 2 rfl (by decide)
      rw [m1]
      have hDF : D ≠ F := fun e => by rw [e, f3] at hD; cases hD
      have s5 : Sips c H (upd H3 D (.lst (vN sm))) := (s2.trans s3).trans (Sips.of s3.cup (Same.new hD))
      have f5 : upd H3 D (.lst (vN sm)) F = some (.lst (vN (List.range n))) := Same.new hD _ _ f3
      have d5 : upd H3 D (.lst (vN sm)) D = some (.lst (vN sm)) := upd_same
      generalize upd H3 D (.lst (vN sm)) = H5 at s5 f5 d5
      rotate_left
      refine ⟨_, rfl, _, rfl, c, n, rfl, s3.cup, by omega, by omega, fun r H4 hrn s4 => ?_⟩
      have hG4 := s4.k1 _ _ hGc hG3
      have f4 := s4.k1 _ _ hFc f3
      refine ⟨_, _, rfl, rfl, 1 + (r : Int), rfl, G, _, rfl, SqL.of hG4, fun D hD => ?_⟩
      obtain ⟨sm, m1, m2, m3, m4, m5⟩ := hcut (1 + (r : Int)) (1 + r) (by omega) (by omega)
      rw [m1]
      have hDF : D ≠ F := fun e => by rw [e, f4] at hD; cases hD
      have s5 : Sips c H (upd H4 D (.lst (vN sm))) := ((s2.trans s3).trans s4).trans (Sips.of s4.cup (Same.new hD))
      have f5 : upd H4 D (.lst (vN sm)) F = some (.lst (vN (List.range n))) := Same.new hD _ _ f4
      have d5 : upd H4 D (.lst (vN sm)) D = some (.lst (vN sm)) := upd_same
      generalize upd H4 D (.lst (vN sm)) = H5 at s5 f5 d5
      all_goals
        refine ⟨_, rfl, _, _, rfl, rfl, _, rfl, ite2 (fun hw4 => ?_) (fun hw4 => ?_)⟩
        · have hsl : (vN sm).length = sm.length := vN_len sm
          refine ⟨_, rfl, D, _, rfl, .inl (SqL.of d5), _, rfl, by omega, by omega, ?_⟩
          rw [vN_len, Int.toNat_natCast]
          refine for_it walk_range (fun i σ H6 => (∀ y o, y ≠ F → H5 y = some o → H6 y = some o) ∧ H6 F = some (.lst (vN (cycTo n sm i))) ∧ ∃ w5, σ = [some (.ref c), some (.int n), some (.int way), some (.ref F), some (.ref D), w5]) ⟨fun y o _ h => h, f5, none, rfl⟩ (fun i σ H6 _ p => trivial) (fun i x σ H6 H7 hi p hy => ?_) (fun σ H6 p => ?_)
          · obtain ⟨g1, g2, w5, rfl⟩ := p
            obtain ⟨rfl, rfl⟩ := hy
            show gName 5 (V.int (0 + (i : Int))) _ _ _
            rw [Int.zero_add]
            have gD := g1 _ _ hDF d5
            have hat : atI (vN sm) ((i : Int) - 1) = some (.int (prv sm i : Nat)) := by
              unfold prv
              by_cases h0 : i = 0
              · rw [if_pos h0, h0]
                unfold atI ixN
                rw [vN_len, if_neg (by decide), if_pos (by omega)]
                show (vN sm)[((((0 : Nat) : Int) - 1) + (sm.length : Int)).toNat]? = _
                rw [show ((((0 : Nat) : Int) - 1) + (sm.length : Int)).toNat = sm.length - 1 by omega, vN_get, gt_some (by omega)]
                rfl
              · rw [if_neg h0, show ((i : Int) - 1) = ((i - 1 : Nat) : Int) by omega]
                exact atI_nat (by rw [vN_get, gt_some (by omega)]; rfl)
            refine ⟨_, rfl, _, rfl, _, _, rfl, rfl, D, _, _, V.int (prv sm i : Nat), rfl, rfl, SqL.of gD, hat, _, rfl, _, rfl, _, rfl, D, _, _, V.int (gt sm i : Nat), rfl, rfl, SqL.of gD, atI_nat (by rw [vN_get, gt_some hi]; rfl), F, _, _, gt sm i, rfl, rfl, g2, ixN_nat (by rw [vN_len, cycTo_len]; exact m3 _ (gt_mem hi)), ?_⟩
            refine ⟨fun y o hy e => (upd_ne hy).trans (g1 y o hy e), ?_, _, rfl⟩
            rw [upd_same, cycTo, vN, vN, List.map_set]
          · obtain ⟨g1, g2, w5, rfl⟩ := p
            refine ⟨_, rfl, F, _, rfl, .inl ⟨SqL.of g2, fun T hT => ?_⟩⟩
            have s6 : Sips c H H6 := ⟨fun y o hy e => g1 y o (fun z => by rw [z, hF0] at e; cases e) (s5.k1 y o hy e), by
              obtain ⟨g, m, t, h⟩ := s5.cup
              exact ⟨g, m, t, g1 _ _ hFc.symm h⟩⟩
            exact q _ _ _ (cycTo_prm m2 m3) (s6.trans (Sips.of s6.cup (Same.new hT))) (im_t upd_same)
        · refine ⟨_, rfl, F, _, rfl, .inl ⟨SqL.of f5, fun T hT => ?_⟩⟩
          exact q _ _ _ (prm_range n) (s5.trans (Sips.of s5.cup (Same.new hT))) (im_t upd_same)
end
end Sb
namespace Sb
open PySem PySem.Spec PyProof.Rows L2
def drawnNames : List Str := ["a", "b", "c", "ti", "tied", "zzzzzzzz", "r", "ab"]
instance (x : Str) : Decidable (NameOk x) := by unfold NameOk; infer_instance
theorem names_ok : ∀ x ∈ drawnNames, NameOk x ∧ x ≠ ("tie" : Str) ∧ x ≠ ("q" : Str) := by decide +kernel
theorem names_nd : drawnNames.Nodup := by decide +kernel
theorem q_ok : NameOk ("q" : Str) ∧ ("q" : Str) ≠ ("tie" : Str) := by decide +kernel
def drawnSigns : List Str := ["ab", "ab-", "aab", "abcde", "abcdefghijklmnopqrstuvwxyz-"]
theorem signs_ok : ∀ s ∈ drawnSigns, 0 < s.cps.toList.length ∧ s.cps.toList.length < 1000 ∧ ∀ c ∈ s.cps.toList, c ∈ ("abcdefghijklmnopqrstuvwxyz" : Str).cps.toList ∨ c = 45 := by decide +kernel
def sg (c : Nat) : V := .str ⟨#[c]⟩
theorem join_sg_len : ∀ l : List Nat, ((l.map fun c => (⟨#[c]⟩ : Str)).map (·.length)).sum = l.length
  | [] => rfl
  | c :: l => by rw [List.map_cons, List.map_cons, List.sum_cons, join_sg_len l, List.length_cons, Nat.add_comm]; rfl
section
variable {P : Program} {w0 : World} {K : PySem.W.Frag} {mg : Str → Option Value} {base : Heap}
theorem CupAt.fresh {H : Hp} {c y : Addr} (hc : CupAt H c) (hy : H y = none) : y ≠ c := fun e => by
  obtain ⟨g, m, t, hc⟩ := hc
  rw [e, hc] at hy
  cases hy
def spLawButtons : Sp := fun vs H Q _ => ∃ (c : Addr) (n top : Nat), vs = [.ref c, .int n, .int top] ∧ CupAt H c ∧ 1 ≤ n ∧ n ≤ 100 ∧ top ≤ 7 ∧ ∀ v bs H', bs.length ≤ top → (bs.map (·.1)).Nodup → (∀ b ∈ bs, b.1 ∈ drawnNames ∧ Prm n b.2) → Sips c H H' → Im H' v (eBs bs) → Q v H'
theorem c_law_buttons (z : Z K mg) : Cal P w0 K mg base 4 "_law_buttons" spLawButtons := by
  have S : FnScope ["_law_cup_here", "_law_n", "_law_top", "_law_names", "_law_k"] ["_law_cup_here", "_law_n", "_law_top"] (defScope sLawButtons) := ⟨rfl, rfl, rfl, by decide +kernel, rfl, by decide +kernel, by decide +kernel⟩
  refine cal_by z.d_law_buttons z.g_law_buttons S (fun _ _ _ _ _ _ us hl => match us, hl with | [_, _, _], _ => rfl) (fun vs H Q E h => ?_) (fun cdv A outer s H vs Q E hr h => ?_)
  · obtain ⟨c, n, top, rfl, _⟩ := h
    rfl
  · obtain ⟨c, n, top, rfl, hc, n1, n2, ht, q⟩ := h
    refine ⟨_, pss_cons (ps_set (i := 3) S.nd rfl (Or.inr rfl) (pe_f (c_law_mixed z) hr (by decide) rfl (pa_cons (pv 0) (pa_cons (pe_lst (pa_cons pe_str (pa_cons pe_str (pa_cons pe_str (pa_cons pe_str (pa_cons pe_str (pa_cons pe_str (pa_cons pe_str (pa_cons pe_str pa_nil))))))))) pa_nil))))
    (pss_one (ps_ret (pe_callTy call_tuple_of (by rfl) z.b_tuple boot_tuple (pa_cons (pe_lc (own := [("_law_k", 4)]) (g := gName 4) rfl S.nd (pi_range1 (by rfl) z.b_range (pa_cons (pe_f (c_law_sip z) hr (by decide) rfl (pa_cons (pv 0) (pa_cons (pe_op op_add (pv 2) pe_int) pa_nil))) pa_nil)) (blkOk_by (own := [("_law_k", 4)]) (N := ["_law_cup_here", "_law_n", "_law_top", "_law_names", "_law_k"]) (sc := defScope sLawButtons) (by decide +kernel)) (fun _ _ _ _ _ => (pg_name (i := 4) S.nd rfl (Or.inl rfl))) (fun _ _ _ _ _ => pts_nil) (fun _ _ _ _ _ => (pe_tup (pa_cons (pe_ix (r := rIxL K) ix_list (pv 3) (pv 4) (fun _ _ => rfl)) (pa_cons (pe_f (c_law_turn z) hr (by decide) rfl (pa_cons (pv 0) (pa_cons (pv 1) pa_nil))) pa_nil))))) pa_nil)))), ?_⟩
    refine ⟨_, rfl, by show 8 ≤ 2 ^ 24; decide, fun L hL => ?_⟩
    have hLc := hc.fresh hL
    have eL := Same.new (o := HO.lst (drawnNames.map V.str)) hL
    refine ⟨c, L, drawnNames.map V.str, rfl, hc.on eL, hLc, upd_same, by decide, fun G ys H1 hp s1 hG hGc hG1 => ?_⟩
    obtain ⟨ns, hns, e⟩ := ims_perm (H := H1) (f := PyData.str) hp (ims_strs drawnNames)
    have hys := e.strs
    subst hys
    have hnl : ns.length = 8 := hns.length_eq
    have s01 : Sips c H H1 := (Sips.of hc eL).trans s1
    refine ⟨_, rfl, _, rfl, _, _, rfl, rfl, c, top + 1, rfl, s01.cup, by omega, by omega, fun r H2 hrt s2 => ⟨_, rfl, by omega, by omega, ?_⟩⟩
    rw [Int.toNat_natCast]
    have hG2 := s2.k1 _ _ hGc hG1
    refine fun D hD => lc_it walk_range (fun i H3 => Sips c H2 H3 ∧ ∃ (xs : List V) (bs : List Btn), H3 D = some (.lst xs) ∧ Ims H3 xs (bs.map eB) ∧ bs.length = i ∧ bs.map (·.1) = ns.take i ∧ ∀ b ∈ bs, Prm n b.2) ⟨Sips.of s2.cup (Same.new hD), [], [], upd_same, .nil, rfl, rfl, fun _ m => by cases m⟩ (fun i H3 _ p => trivial) (fun i x H3 H4 hi p hy => ?_) (fun H3 p => ?_)
    · obtain ⟨s3, xs, bs, g1, g2, g3, g4, g5⟩ := p
      obtain ⟨rfl, rfl⟩ := hy
      show gName 4 (V.int (0 + (i : Int))) _ _ _
      rw [Int.zero_add]
      have hDc := s2.cup.fresh hD
      have hni : ns[i]? = some ns[i] := List.getElem?_eq_getElem (by omega)
      refine ⟨rfl, _, rfl, _, rfl, G, _, _, V.str ns[i], rfl, rfl, SqL.of (s3.k1 _ _ hGc hG2), atI_nat (by rw [List.getElem?_map, hni]; rfl), _, rfl, _, rfl, c, n, rfl, s3.cup, n1, n2, fun v t H4 ht s4 hv => ⟨by show 2 ≤ 2 ^ 24; decide, fun T hT => ?_⟩⟩
      have tk4 := s4.tk s3.cup
      have g1' := Same.new (o := HO.tup [V.str ns[i], v]) hT _ _ (s4.k1 _ _ hDc g1)
      refine ⟨xs, g1', by rw [g2.mlen]; show _ < 2 ^ 24; omega, ?_⟩
      have tkT := TK.new (o := HO.tup [V.str ns[i], v]) hT
      have tkD := TK.put (o := .lst (xs ++ [V.ref T])) g1' (fun _ z => by cases z)
      refine ⟨((s3.trans s4).trans (Sips.of s4.cup (Same.new hT))).newL hD hDc, xs ++ [V.ref T], bs ++ [(ns[i], t)], upd_same, ?_, by rw [List.length_append, g3]; rfl, ?_, fun b m => ?_⟩
      · exact Ims.snocM (((g2.by tk4).by tkT).by tkD) (im_b (tkD _ _ upd_same) ((hv.by tkT).by tkD))
      · rw [List.map_append, g4, take_some hni]
        rfl
      · rcases List.mem_append.mp m with m | m
        · exact g5 b m
        · rw [List.mem_singleton.mp m]; exact ht
    · obtain ⟨s3, xs, bs, g1, g2, g3, g4, g5⟩ := p
      refine ⟨D, _, rfl, .inl ⟨SqL.of g1, fun T hT => ?_⟩⟩
      refine q _ bs _ (by omega) (by rw [g4]; exact (List.take_sublist r ns).nodup (hns.nodup_iff.mpr names_nd)) (fun b m => ⟨?_, g5 b m⟩) (((s01.trans s2).trans s3).trans (Sips.of s3.cup (Same.new hT))) (.tup upd_same (g2.on (Same.new hT)))
      have : b.1 ∈ bs.map (·.1) := List.mem_map.mpr ⟨b, m, rfl⟩
      rw [g4] at this
      exact hns.mem_iff.mp (List.mem_of_mem_take this)
def spLawStanding : Sp := fun vs H Q _ => ∃ (c : Addr) (n : Nat), vs = [.ref c, .int n] ∧ CupAt H c ∧ n ≤ 1000 ∧ ∀ l H', StOk n l → Sips c H H' → Q (.str (SX.S l)) H'
theorem c_law_standing (z : Z K mg) : Cal P w0 K mg base 3 "_law_standing" spLawStanding := by
  have S : FnScope ["_law_cup_here", "_law_n", "_law_signs", "_law_place"] ["_law_cup_here", "_law_n"] (defScope sLawStanding) := ⟨rfl, rfl, rfl, by decide +kernel, rfl, by decide +kernel, by decide +kernel⟩
  refine cal_by z.d_law_standing z.g_law_standing S (fun _ _ _ _ _ _ us hl => match us, hl with | [_, _], _ => rfl) (fun vs H Q E h => ?_) (fun cdv A outer s H vs Q E hr h => ?_)
  · obtain ⟨c, n, rfl, _⟩ := h
    rfl
  · obtain ⟨c, n, rfl, hc, n1, q⟩ := h
    refine ⟨_, pss_cons (ps_set (i := 2) S.nd rfl (Or.inr rfl) (pe_f (c_law_one z) hr (by decide) rfl (pa_cons (pv 0) (pa_cons (pe_lst (pa_cons pe_str (pa_cons pe_str (pa_cons pe_str (pa_cons pe_str (pa_cons pe_str pa_nil)))))) pa_nil))))
    (pss_one (ps_ret (pe_join pe_str (pe_lc (own := [("_law_place", 3)]) (g := gName 3) rfl S.nd (pi_range1 (by rfl) z.b_range (pa_cons (pv 1) pa_nil)) (blkOk_by (own := [("_law_place", 3)]) (N := ["_law_cup_here", "_law_n", "_law_signs", "_law_place"]) (sc := defScope sLawStanding) (by decide +kernel)) (fun _ _ _ _ _ => (pg_name (i := 3) S.nd rfl (Or.inl rfl))) (fun _ _ _ _ _ => pts_nil) (fun _ _ _ _ _ => (pe_f (c_law_one z) hr (by decide) rfl (pa_cons (pv 0) (pa_cons (pv 2) pa_nil)))))))), ?_⟩
    refine ⟨_, rfl, by show 5 ≤ 2 ^ 24; decide, fun L hL => ?_⟩
    have hLc := hc.fresh hL
    have eL := Same.new (o := HO.lst (drawnSigns.map V.str)) hL
    refine ⟨c, .ref L, rfl, hc.on eL, .inl ⟨L, drawnSigns.map V.str, rfl, hLc, upd_same, by decide, by decide, fun y H1 hy s1 => ?_⟩⟩
    obtain ⟨sn, hsn, rfl⟩ := List.mem_map.mp hy
    obtain ⟨g1, g2, g3⟩ := signs_ok sn hsn
    have s01 : Sips c H H1 := (Sips.of hc eL).trans s1
    refine ⟨⟨_, rfl⟩, _, rfl, _, rfl, by omega, by omega, ?_⟩
    rw [Int.toNat_natCast]
    refine fun D hD => lc_it walk_range (fun i H3 => Sips c H1 H3 ∧ ∃ l : List Nat, H3 D = some (.lst (l.map sg)) ∧ l.length = i ∧ ∀ x ∈ l, x ∈ sn.cps.toList) ⟨Sips.of s1.cup (Same.new hD), [], upd_same, rfl, fun _ m => by cases m⟩ (fun i H3 _ p => trivial) (fun i x H3 H4 hi p hy => ?_) (fun H3 p => ?_)
    · obtain ⟨s3, l, h1, h2, h3⟩ := p
      obtain ⟨rfl, rfl⟩ := hy
      have hDc := s1.cup.fresh hD
      refine ⟨rfl, _, rfl, _, rfl, c, .str sn, rfl, s3.cup, .inr ⟨sn.cps.toList, congrArg V.str (SX.S_tl sn).symm, g1, g2, fun x H4 hx s4 => ?_⟩⟩
      have h1' := s4.k1 _ _ hDc h1
      refine ⟨l.map sg, h1', by rw [List.length_map]; show _ < 2 ^ 24; omega, ((s3.trans s4)).newL hD hDc, l ++ [x], ?_, by rw [List.length_append, h2]; rfl, fun y m => ?_⟩
      · rw [upd_same, List.map_append]; rfl
      · rcases List.mem_append.mp m with m | m
        · exact h3 y m
        · rw [List.mem_singleton.mp m]; exact hx
    · obtain ⟨s3, l, h1, h2, h3⟩ := p
      have e : l.map sg = (l.map fun c => (⟨#[c]⟩ : Str)).map V.str := by rw [List.map_map]; rfl
      rw [e] at h1
      refine ⟨_, D, l.map fun c => (⟨#[c]⟩ : Str), rfl, rfl, .inl (SqL.of h1), ?_, ?_⟩
      · rw [join_sg_len, List.length_map]
        show l.length + l.length * 0 ≤ _
        omega
      · rw [join_ones]
        exact q l H3 ⟨h2, fun x m => g3 x (h3 x m)⟩ (s01.trans s3)
def spLawBent : Sp := fun vs H Q _ => ∃ (c : Addr) (n : Nat) (l : List Nat), vs = [.ref c, .str (SX.S l)] ∧ CupAt H c ∧ StOk n l ∧ 1 ≤ n ∧ n ≤ 100 ∧ ∀ l' H', StOk n l' → Sips c H H' → Q (.str (SX.S l')) H'
theorem c_law_bent (z : Z K mg) : Cal P w0 K mg base 2 "_law_bent" spLawBent := by
  have S : FnScope ["_law_cup_here", "_law_standing_here", "_law_signs", "_law_one_here", "_law_two", "_law_first", "_law_last"] ["_law_cup_here", "_law_standing_here"] (defScope sLawBent) := ⟨rfl, rfl, rfl, by decide +kernel, rfl, by decide +kernel, by decide +kernel⟩
  refine cal_by z.d_law_bent z.g_law_bent S (fun _ _ _ _ _ _ us hl => match us, hl with | [_, _], _ => rfl) (fun vs H Q E h => ?_) (fun cdv A outer s H vs Q E hr h => ?_)
  · obtain ⟨c, n, l, rfl, _⟩ := h
    rfl
  · obtain ⟨c, n, l, rfl, hc, ⟨l1, l2⟩, n1, n2, q⟩ := h
    refine ⟨_, pss_cons (ps_set (i := 2) S.nd rfl (Or.inl rfl) (pe_callTy (cr_listS rfl) (by rfl) z.b_list boot_list (pa_cons (pv 1) pa_nil)))
    (pss_cons (ps_par (i := 3) (j := 4) (by rfl) S.nd rfl rfl (by decide) rfl rfl (pa_cons (pe_f (c_law_sip z) hr (by decide) rfl (pa_cons (pv 0) (pa_cons (pe_callB call_len_seq (by rfl) z.b_len boot_len (pa_cons (pv 2) pa_nil)) pa_nil))) (pa_cons (pe_f (c_law_sip z) hr (by decide) rfl (pa_cons (pv 0) (pa_cons (pe_callB call_len_seq (by rfl) z.b_len boot_len (pa_cons (pv 2) pa_nil)) pa_nil))) pa_nil)) (by rfl))
    (pss_cons (ps_par (i := 5) (j := 6) (by rfl) S.nd rfl rfl (by decide) rfl rfl (pa_cons (pe_ix ix_list (pv 2) (pv 3) (fun _ _ => rfl)) (pa_cons (pe_ix ix_list (pv 2) (pv 4) (fun _ _ => rfl)) pa_nil)) (by rfl))
    (pss_cons (ps_asg (pv 6) (pg_sub (pv 2) (pv 3) set_list))
    (pss_cons (ps_asg (pv 5) (pg_sub (pv 2) (pv 4) set_list))
    (pss_one (ps_ret (pe_join pe_str (pv 2)))))))), ?_⟩
    have hcps : (SX.S l).cps.size = l.length := by simp
    have hsg : signs (SX.S l) = l.map sg := by
      unfold signs sg
      simp
    refine ⟨_, rfl, SX.S l, rfl, by rw [hcps]; show _ ≤ 2 ^ 24; omega, fun L hL => ?_⟩
    rw [hsg]
    have hLc := hc.fresh hL
    have s1 := Sips.of hc (Same.new (o := HO.lst (l.map sg)) hL)
    have h1 : upd H L (.lst (l.map sg)) L = some (.lst (l.map sg)) := upd_same
    generalize upd H L (.lst (l.map sg)) = H1 at s1 h1
    have hll : (l.map sg).length = n := by rw [List.length_map, l1]
    refine ⟨_, rfl, _, rfl, L, _, rfl, .inl (SqL.of h1), c, n, by rw [hll]; rfl, s1.cup, by omega, by omega, fun i H2 hi s2 => ?_⟩
    have h2 := s2.k1 _ _ hLc h1
    refine ⟨_, rfl, _, rfl, L, _, rfl, .inl (SqL.of h2), c, n, by rw [hll]; rfl, s2.cup, by omega, by omega, fun j H3 hj s3 => ⟨_, _, rfl, ?_⟩⟩
    have h3 := s3.k1 _ _ hLc h2
    have hli : l[i]? = some (gt l i) := gt_some (by omega)
    have hlj : l[j]? = some (gt l j) := gt_some (by omega)
    refine ⟨_, rfl, _, rfl, L, _, _, sg (gt l i), rfl, rfl, SqL.of h3, atI_nat (by rw [List.getElem?_map, hli]; rfl), _, rfl, _, rfl, L, _, _, sg (gt l j), rfl, rfl, SqL.of h3, atI_nat (by rw [List.getElem?_map, hlj]; rfl), _, _, rfl, ?_⟩
    refine ⟨_, rfl, _, rfl, _, rfl, L, _, _, i, rfl, rfl, h3, ixN_nat (by omega), ?_⟩
    have hset : ∀ (m : List Nat) (k x : Nat), (m.map sg).set k (sg x) = (m.set k x).map sg := fun m k x => by rw [List.map_set]
    rw [hset]
    have s13 : Sips c H H3 := (s1.trans s2).trans s3
    refine ⟨_, rfl, _, rfl, _, rfl, L, _, _, j, rfl, rfl, upd_same, ixN_nat (by rw [List.length_map, List.length_set]; omega), ?_⟩
    rw [hset]
    have hfin : upd (upd H3 L (.lst ((l.set i (gt l j)).map sg))) L (.lst (((l.set i (gt l j)).set j (gt l i)).map sg)) L = some (.lst (((l.set i (gt l j)).set j (gt l i)).map sg)) := upd_same
    have sfin : Sips c H (upd (upd H3 L (.lst ((l.set i (gt l j)).map sg))) L (.lst (((l.set i (gt l j)).set j (gt l i)).map sg))) := (s13.newL hL hLc).newL hL hLc
    generalize upd (upd H3 L (.lst ((l.set i (gt l j)).map sg))) L (.lst (((l.set i (gt l j)).set j (gt l i)).map sg)) = H5 at hfin sfin
    generalize hl' : (l.set i (gt l j)).set j (gt l i) = l' at hfin
    have e : l'.map sg = (l'.map fun c => (⟨#[c]⟩ : Str)).map V.str := by rw [List.map_map]; rfl
    rw [e] at hfin
    refine ⟨⟨_, rfl⟩, _, rfl, _, L, l'.map fun c => (⟨#[c]⟩ : Str), rfl, rfl, .inl (SqL.of hfin), ?_, ?_⟩
    · rw [join_sg_len, List.length_map, ← hl']
      rw [List.length_set, List.length_set]
      show l.length + l.length * 0 ≤ _
      omega
    · rw [join_ones]
      refine q l' H5 ⟨?_, fun x m => ?_⟩ sfin
      · rw [← hl', List.length_set, List.length_set, l1]
      · rw [← hl'] at m
        refine l2 x ?_
        rcases List.mem_or_eq_of_mem_set m with m | e
        · rcases List.mem_or_eq_of_mem_set m with m | e
          · exact m
          · rw [e]; exact gt_mem (by omega)
        · rw [e]; exact gt_mem (by omega)
end
end Sb
namespace Sb
open PySem PySem.Spec PyProof.Rows L2
/-- the marks of a standing -/
structure Marked (n : Nat) (bs : List Btn) (l : Sd) (m : Int × Str × Int) : Prop where
  count : ∃ f, Paths (mvs bs) l f ∧ m.1 = (f.length : Int)
  least : ∃ ys, Sorted (mvs bs) l (m.2.1 :: ys)
  keep : ∃ f, Paths (mvs bs) l f ∧ m.2.2 = ((ordM n bs : Nat) : Int).fdiv (f.length : Int)
theorem sorted_same {mv : List Mv} {l y : Sd} {xs ys : List Str} (h1 : Sorted mv l xs) (h2 : Sorted mv y ys) (hp : ∀ f g, Paths mv l f → Paths mv y g → (keysF f).Perm (keysF g)) : xs = ys := by
  obtain ⟨f, hf, p1, u1⟩ := h1
  obtain ⟨g, hg, p2, u2⟩ := h2
  exact List.Perm.eq_of_pairwise (le := fun a b => ltS b a = false) (fun a b _ _ h1 h2 => ltS_anti h1 h2) u1 u2 (p1.trans (((hp f g hf hg).map SX.S).trans p2.symm))
theorem marked_same {n : Nat} {bs : List Btn} {l y : Sd} {m m' : Int × Str × Int} (hm : MvOk n (mvs bs)) (hl : l.length = n) (r : Rch (mvs bs) l y) (h1 : Marked n bs l m) (h2 : Marked n bs y m') : m = m' := by
  have hp : ∀ f g, Paths (mvs bs) l f → Paths (mvs bs) y g → (keysF f).Perm (keysF g) := fun f g hf hg => paths_same hm hl r hf hg
  have hlen : ∀ f g, Paths (mvs bs) l f → Paths (mvs bs) y g → f.length = g.length := fun f g hf hg => by
    have := (hp f g hf hg).length_eq
    unfold keysF at this
    rwa [List.length_map, List.length_map] at this
  obtain ⟨f1, hf1, c1⟩ := h1.count
  obtain ⟨f2, hf2, c2⟩ := h2.count
  obtain ⟨f3, hf3, k1⟩ := h1.keep
  obtain ⟨f4, hf4, k2⟩ := h2.keep
  obtain ⟨y1, s1⟩ := h1.least
  obtain ⟨y2, s2⟩ := h2.least
  have e1 : m.1 = m'.1 := by rw [c1, c2, hlen f1 f2 hf1 hf2]
  have e2 : m.2.1 = m'.2.1 := (List.cons.inj (sorted_same s1 s2 hp)).1
  have e3 : m.2.2 = m'.2.2 := by rw [k1, k2, hlen f3 f4 hf3 hf4]
  exact Prod.ext e1 (Prod.ext e2 e3)
theorem sorted_head {mv : List Mv} {n : Nat} {l : Sd} {x : Str} {ys : List Str} (hm : MvOk n mv) (hl : StOk n l) (h : Sorted mv l (x :: ys)) : ∃ b, x = SX.S b ∧ Rch mv l b ∧ PyData.strOk x = true := by
  obtain ⟨f, hf, p, _⟩ := h
  obtain ⟨b, hb, rfl⟩ := List.mem_map.mp (p.mem_iff.mp (List.mem_cons_self ..))
  have r := (hf.mem b).mp hb
  exact ⟨b, rfl, r, strOk_S (r.st hm hl)⟩
def eMk (m : Int × Str × Int) : List PyData := [.int m.1, .str m.2.1, .int m.2.2]
def vMk (m : Int × Str × Int) : List V := [.int m.1, .str m.2.1, .int m.2.2]
theorem ims_mk {H : Hp} (m : Int × Str × Int) : Ims H (vMk m) (eMk m) := .cons (.int _) (.cons (.str _) (.cons (.int _) .nil))
theorem eq_mk (m : Int × Str × Int) : PyData.eqv (.list (eMk m)) (.list (eMk m)) = true := by
  simp [eMk, PyData.eqv, PyData.eqvAll]
theorem shaped_mk {m : Int × Str × Int} (h : PyData.strOk m.2.1 = true) : SeqAt.shaped (.list (eMk m)) = true :=
  shaped_by (k := 1) (by simp [eMk, PyData.canLay0, PyData.canLayAll0, h]) (Nat.le_refl _) (by decide)
section
variable {P : Program} {w0 : World} {K : PySem.W.Frag} {mg : Str → Option Value} {base : Heap}
def spMarks (K : PySem.W.Frag) : Sp := fun vs H Q _ => ∃ (v : V) (n : Nat) (bs : List Btn) (l : Sd), vs = [v, .str (SX.S l)] ∧ Few K H v n bs ∧ StOk n l ∧ ∀ a m H', Same H H' → H a = none → Marked n bs l m → H' a = some (.lst (vMk m)) → Q (.ref a) H'
theorem c_law_marks (z : Z K mg) : Cal P w0 K mg base 10 "_law_marks" (spMarks K) := by
  have S : FnScope ["_law_board", "_law_standing_here"] ["_law_board", "_law_standing_here"] (defScope sLawMarks) := ⟨rfl, rfl, rfl, by decide +kernel, rfl, by decide +kernel, by decide +kernel⟩
  refine cal_by z.d_law_marks z.g_law_marks S (fun _ _ _ _ _ _ us hl => match us, hl with | [_, _], _ => rfl) (fun vs H Q E h => ?_) (fun cdv A outer s H vs Q E hr h => ?_)
  · obtain ⟨v, n, bs, l, rfl, _⟩ := h
    rfl
  · obtain ⟨v, n, bs, l, rfl, hf, hl, q⟩ := h
    refine ⟨_, pss_one (ps_ret (pe_lst (pa_cons (pe_f (c_count_reached z) hr (by decide) rfl (pa_cons (pv 0) (pa_cons (pv 1) pa_nil))) (pa_cons (pe_f (c_least z) hr (by decide) rfl (pa_cons (pv 0) (pa_cons (pv 1) pa_nil))) (pa_cons (pe_f (c_keepers z) hr (by decide) rfl (pa_cons (pv 0) (pa_cons (pv 1) pa_nil))) pa_nil))))), ?_⟩
    refine ⟨_, rfl, _, rfl, v, n, bs, l, rfl, hf, hl, fun f H1 e1 hp => ?_⟩
    refine ⟨_, rfl, _, rfl, v, n, bs, l, rfl, hf.on e1, hl, fun x ys H2 e2 hs => ?_⟩
    have e12 := e1.trans e2
    refine ⟨_, rfl, _, rfl, v, n, bs, l, rfl, hf.on e12, hl, fun g H3 e3 hg => ⟨by show 3 ≤ 2 ^ 24; decide, fun a ha => ?_⟩⟩
    have e13 := e12.trans e3
    exact q a (f.length, x, _) _ (e13.trans (Same.new ha)) (e13.free ha) ⟨⟨f, hp, rfl⟩, ⟨ys, hs⟩, ⟨g, hg, rfl⟩⟩ upd_same
theorem way_row {n : Nat} {bs : List Btn} (hb : BtnsOk n bs) (h5 : n ≤ 5) {l y : Sd} {r : Row} (hl : l.length = n) (hw : Way (mvs bs) l r y) (hlen : r.length ≤ 120) : RowOk bs r := by
  obtain ⟨_, h2, _, h4⟩ := hw.led (hb.bts h5) hb.2.2.2.2 hl
  refine ⟨by omega, fun p m => ⟨h2 p m, ?_, ?_, ?_⟩⟩ <;> rcases h4 p m with e | e <;> rw [e] <;> decide
theorem back_row_ok {bs : List Btn} {r : Row} (h : RowOk bs r) : RowOk bs (backRow r) := by
  refine ⟨by unfold backRow; rw [List.length_map, List.length_reverse]; exact h.1, fun p m => ?_⟩
  unfold backRow at m
  obtain ⟨q, hq, rfl⟩ := List.mem_map.mp m
  obtain ⟨h1, h2, h3, h4⟩ := h.2 q (List.mem_reverse.mp hq)
  exact ⟨h1, by show -(10 ^ 30) ≤ -q.2; omega, by show -q.2 ≤ 10 ^ 30; omega, by show -q.2 ≠ 0; omega⟩
theorem shN_ne {bs : List Btn} {r : Row} (h : ∀ p ∈ r, p.2 ≠ 0) : ∀ k, ∀ p ∈ shN bs k r, p.2 ≠ 0
  | 0 => h
  | k + 1 => fun p m => of_decide_eq_true (List.mem_filter.mp m).2
theorem short_ok {n : Nat} {bs : List Btn} (hb : Bts n bs) {r : Row} (h : RowOk bs r) (hL : lenR r ≤ 1000) (k : Nat) : RowOk bs (shN bs k r) := by
  have hk : Known bs r := fun p m => (h.2 p m).1
  refine ⟨Nat.le_trans (shN_len bs r k) h.1, fun p m => ⟨shN_known hk k p m, ?_, ?_, shN_ne (fun p m => (h.2 p m).2.2.2) k p m⟩⟩
  · have := shN_abs hb hk k m
    unfold absI at this
    have h10 : (1000 : Int) ≤ 10 ^ 30 := by decide
    split at this <;> omega
  · have := shN_abs hb hk k m
    unfold absI at this
    have h10 : (1000 : Int) ≤ 10 ^ 30 := by decide
    split at this <;> omega
def spRowRight (K : PySem.W.Frag) : Sp := fun vs H Q _ => ∃ (v : V) (n : Nat) (bs : List Btn) (l y : Sd), vs = [v, .str (SX.S l), .str (SX.S y), .int (dist (mvs bs) l y : Nat)] ∧ Few K H v n bs ∧ StOk n l ∧ StOk n y ∧ Rch (mvs bs) l y ∧ ∀ H', Same H H' → Q (.bl true) H'
theorem c_law_row_right (z : Z K mg) : Cal P w0 K mg base 9 "_law_row_right" (spRowRight K) := by
  have S : FnScope ["_law_board", "_law_first", "_law_here", "_law_far", "_law_row", "_law_short"] ["_law_board", "_law_first", "_law_here", "_law_far"] (defScope sLawRowRight) := ⟨rfl, rfl, rfl, by decide +kernel, rfl, by decide +kernel, by decide +kernel⟩
  refine cal_by z.d_law_row_right z.g_law_row_right S (fun _ _ _ _ _ _ us hl => match us, hl with | [_, _, _, _], _ => rfl) (fun vs H Q E h => ?_) (fun cdv A outer s H vs Q E hr h => ?_)
  · obtain ⟨v, n, bs, l, y, rfl, _⟩ := h
    rfl
  · obtain ⟨v, n, bs, l, y, rfl, hf, hl, hy, hrc, q⟩ := h
    refine ⟨_, pss_cons (ps_set (i := 4) S.nd rfl (Or.inl rfl) (pe_f (c_row_between z) hr (by decide) rfl (pa_cons (pv 0) (pa_cons (pv 1) (pa_cons (pv 2) pa_nil)))))
    (pss_cons (ps_if (PW.pt (pw_or (pt_cmpR op_ne (pe_f (c_length z) hr (by decide) rfl (pa_cons (pv 0) (pa_cons (pv 4) pa_nil))) (pv 3) (nomark _)) (pw_or (pt_cmpR op_ne (pe_f (c_on z) hr (by decide) rfl (pa_cons (pv 0) (pa_cons (pv 4) (pa_cons (pv 1) pa_nil)))) (pv 2) (nomark _)) (pw_or1 (pt_cmpR op_ne (pe_f (c_on z) hr (by decide) rfl (pa_cons (pv 0) (pa_cons (pe_f (c_row_back z) hr (by decide) rfl (pa_cons (pv 0) (pa_cons (pv 4) pa_nil))) (pa_cons (pv 2) pa_nil)))) (pv 1) (nomark _))))))
      (pss_one (ps_ret pe_bl))
      pss_nil)
    (pss_cons (ps_set (i := 5) S.nd rfl (Or.inl rfl) (pe_f (c_shortened z) hr (by decide) rfl (pa_cons (pv 0) (pa_cons (pv 4) pa_nil))))
    (pss_cons (ps_if (PW.pt (pw_or (pt_not (pt_val (pe_f (c_same z) hr (by decide) rfl (pa_cons (pv 0) (pa_cons (pv 4) (pa_cons (pv 5) pa_nil)))))) (pw_or1 (pt_cmpR op_gt (pe_f (c_length z) hr (by decide) rfl (pa_cons (pv 0) (pa_cons (pv 5) pa_nil))) (pv 3) (nomark _)))))
      (pss_one (ps_ret pe_bl))
      pss_nil)
    (pss_one (ps_ret (pe_cmpR op_eq (pe_f (c_turned z) hr (by decide) rfl (pa_cons (pv 1) (pa_cons (pe_f (c_pressed z) hr (by decide) rfl (pa_cons (pv 0) (pa_cons (pv 5) pa_nil))) pa_nil))) (pv 2) (nomark _))))))), ?_⟩
    have hb := hf.2.1
    have h5 := hf.2.2
    have hbt := hb.bts h5
    refine ⟨_, rfl, _, rfl, _, rfl, v, n, bs, l, y, rfl, hf, hl, hy, fun hn => absurd hrc hn, fun a r H1 e1 _ hw hd h120 hx => ?_⟩
    obtain ⟨w1, w2, w3, w4⟩ := hw.led hbt hb.2.2.2.2 hl.1
    have hrow := way_row hb h5 hl.1 hw h120
    have hA1 : Asked K H1 v (.ref a) n bs r := ⟨hf.1.on e1, hb, hx, hrow⟩
    have htf := turnFor_tf (n := n) (bs := bs) r
    have hp := tf_prm hbt w2
    have hLe : lenR r = (dist (mvs bs) l y : Nat) := by rw [w3, hd]
    -- the length
    refine ⟨_, rfl, _, rfl, v, .ref a, n, bs, r, rfl, hA1, fun H2 e2 => ⟨_, rfl, rfl, _, rfl, ?_⟩⟩
    rw [hLe, decide_eq_true rfl]
    refine iteF ?_
    -- pressed from the first one
    refine ⟨_, rfl, _, rfl, _, rfl, v, .ref a, n, bs, r, l, rfl, hA1.on e2, hl, by rw [htf]; exact hp, fun H3 e3 => ⟨_, rfl, rfl, _, rfl, ?_⟩⟩
    rw [htf, ← w1, decide_eq_true rfl]
    refine iteF ?_
    -- the row back
    have e23 := e2.trans e3
    refine ⟨_, rfl, _, rfl, _, rfl, v, .ref a, n, bs, r, rfl, hA1.on e23, fun x H4 e4 hx4 => ?_⟩
    have hback := back_row_ok hrow
    obtain ⟨tb1, tb2⟩ := tf_back hbt w2
    have e24 := e23.trans e4
    have hpb := tf_prm hbt tb2
    refine ⟨_, rfl, v, x, n, bs, backRow r, y, rfl, ⟨hA1.1.on e24, hb, hx4, hback⟩, hy, by rw [turnFor_tf]; exact hpb, fun H5 e5 => ⟨_, rfl, rfl, _, rfl, ?_⟩⟩
    have hback2 : led y (turnFor n bs (backRow r)) = l := by
      rw [turnFor_tf, w1, led_aft hp hpb hl.1, tb1, led_id hl.1]
    rw [hback2, decide_eq_true rfl]
    refine iteF ?_
    have e25 := e24.trans e5
    -- the shorter row
    refine ⟨_, rfl, _, rfl, v, .ref a, n, bs, r, rfl, hA1.1.on e25, hb, hA1.2.2.1.on e25, hrow, fun sx H6 k e6 hsx => ?_⟩
    have hsh := short_ok hbt hrow (by rw [w3]; omega) k
    have e26 := e25.trans e6
    have hA6 : Asked K H6 v sx n bs (shN bs k r) := ⟨hA1.1.on e26, hb, hsx, hsh⟩
    have htfs : turnFor n bs (shN bs k r) = tf n bs r := by rw [turnFor_tf, tf_shN hbt w2 k]
    refine ⟨_, rfl, _, rfl, _, rfl, v, .ref a, sx, n, bs, r, _, rfl, hA1.on e26, hA6, fun H7 e7 => ⟨_, rfl, ?_⟩⟩
    rw [htf, htfs, decide_eq_true rfl]
    refine iteF ?_
    refine ⟨_, rfl, _, rfl, v, sx, n, bs, _, rfl, hA6.on e7, fun H8 e8 => ⟨_, rfl, _, _, rfl, rfl, _, rfl, ?_⟩⟩
    have hle := lenR_shN hbt w2 k
    rw [decide_eq_false (by omega)]
    refine iteF ?_
    have e78 := e7.trans e8
    -- and where it leads
    refine ⟨_, rfl, _, rfl, _, rfl, v, sx, n, bs, _, rfl, hA6.on e78, fun px H9 e9 hpx => ?_⟩
    refine ⟨px, _, l, rfl, hpx, by rw [hl.1]; exact hb.1, by rw [hl.1]; omega, by rw [hl.1]; exact hl, by rw [hl.1, htfs]; exact hp, fun H10 e10 => ⟨_, rfl, rfl, ?_⟩⟩
    rw [htfs, ← w1, decide_eq_true rfl]
    exact q H10 ((((e1.trans e26).trans e78).trans e9).trans e10)
theorem Bd.sips {H H' : Hp} {c : Addr} {v : V} {n : Nat} {bs : List Btn} (h : Bd K H v n bs) (hc : CupAt H c) (s : Sips c H H') : Bd K H' v n bs := by
  obtain ⟨a, dx, T, E, rfl, h1, h2⟩ := h
  obtain ⟨g, m, t, hc'⟩ := hc
  exact ⟨a, dx, T, E, rfl, s.k1 _ _ (ne_of h1 hc' (by intro z; cases z)) h1, h2.by (s.tk ⟨g, m, t, hc'⟩)⟩
theorem Few.sips {H H' : Hp} {c : Addr} {v : V} {n : Nat} {bs : List Btn} (h : Few K H v n bs) (hc : CupAt H c) (s : Sips c H H') : Few K H' v n bs := ⟨h.1.sips hc s, h.2⟩
def spStep (K : PySem.W.Frag) : Sp := fun vs H Q _ => ∃ (c : Addr) (v : V) (n : Nat) (bs : List Btn) (y : Sd), vs = [.ref c, v, .str (SX.S y)] ∧ CupAt H c ∧ Few K H v n bs ∧ bs ≠ [] ∧ StOk n y ∧ ∀ m H', m ∈ mvs bs → Sips c H H' → Q (.str (SX.S (led y m.2))) H'
theorem c_law_step (z : Z K mg) : Cal P w0 K mg base 8 "_law_step" (spStep K) := by
  have S : FnScope ["_law_cup_here", "_law_board", "_law_here", "_law_name"] ["_law_cup_here", "_law_board", "_law_here"] (defScope sLawStep) := ⟨rfl, rfl, rfl, by decide +kernel, rfl, by decide +kernel, by decide +kernel⟩
  refine cal_by z.d_law_step z.g_law_step S (fun _ _ _ _ _ _ us hl => match us, hl with | [_, _, _], _ => rfl) (fun vs H Q E h => ?_) (fun cdv A outer s H vs Q E hr h => ?_)
  · obtain ⟨c, v, n, bs, y, rfl, _⟩ := h
    rfl
  · obtain ⟨c, v, n, bs, y, rfl, hc, hf, hne, hy, q⟩ := h
    refine ⟨_, pss_cons (ps_set (i := 3) S.nd rfl (Or.inl rfl) (pe_f (c_law_one z) hr (by decide) rfl (pa_cons (pv 0) (pa_cons (pe_callTy call_list_of (by rfl) z.b_list boot_list (pa_cons (pe_get (c_names z) hr (by decide) (pv 1)) pa_nil)) pa_nil))))
    (pss_one (ps_ret (pe_f (c_on z) hr (by decide) rfl (pa_cons (pv 1) (pa_cons (pe_tup (pa_cons (pe_tup (pa_cons (pv 3) (pa_cons (pe_f (c_law_one z) hr (by decide) rfl (pa_cons (pv 0) (pa_cons (pe_lst (pa_cons pe_int (pa_cons (pe_un un_neg pe_int) pa_nil))) pa_nil))) pa_nil))) pa_nil)) (pa_cons (pv 2) pa_nil)))))), ?_⟩
    have hb := hf.2.1
    have h5 := hf.2.2
    have hbt := hb.bts h5
    have hbd := hf.1
    obtain ⟨a, dx, T, E1, rfl, ha, hT⟩ := hbd
    have hbl := hb.2.2.1
    refine ⟨_, rfl, _, rfl, a, dx, _, rfl, ha, _, n, bs, rfl, hf.1, hbl, fun r H1 e1 hr1 => ?_⟩
    obtain ⟨d, xs, rfl, hd, hxs⟩ := hr1.tupE
    rw [hxs.strs] at hd
    refine ⟨d, _, rfl, .inr (SqT.of hd), fun L hL => ?_⟩
    have e2 := e1.trans (Same.new (o := HO.lst ((bs.map (·.1)).map V.str)) hL)
    have hc2 := hc.on e2
    have hLc : L ≠ c := (hc.on e1).fresh hL
    have hlen : ((bs.map (·.1)).map V.str).length = bs.length := by rw [List.length_map, List.length_map]
    have hpos := List.length_pos_iff.mpr hne
    refine ⟨c, .ref L, rfl, hc2, .inl ⟨L, (bs.map (·.1)).map V.str, rfl, hLc, upd_same, by omega, by omega, fun x H3 hx s3 => ?_⟩⟩
    obtain ⟨nm, hnm, rfl⟩ := List.mem_map.mp hx
    have s03 : Sips c H H3 := (Sips.of hc e2).trans s3
    have hf3 := hf.sips hc s03
    refine ⟨_, rfl, _, rfl, _, rfl, _, rfl, by show 2 ≤ 2 ^ 24; decide, fun M hM => ?_⟩
    have hMc := s03.cup.fresh hM
    have e4 := Same.new (o := HO.lst [V.int 1, V.int (-1)]) hM
    refine ⟨c, .ref M, rfl, s03.cup.on e4, .inl ⟨M, [V.int 1, V.int (-1)], rfl, hMc, upd_same, by decide, by decide, fun k H5 hk s5 => ?_⟩⟩
    have s05 : Sips c H H5 := (s03.trans (Sips.of s03.cup e4)).trans s5
    have hf5 := hf.sips hc s05
    obtain ⟨ki, rfl, hki⟩ : ∃ i : Int, k = .int i ∧ (i = 1 ∨ i = -1) := by
      simp only [List.mem_cons, List.not_mem_nil, or_false] at hk
      rcases hk with e | e
      · exact ⟨1, e, .inl rfl⟩
      · exact ⟨-1, e, .inr rfl⟩
    refine ⟨by show 2 ≤ 2 ^ 24; decide, fun T1 hT1 => ⟨by show 1 ≤ 2 ^ 24; decide, fun T2 hT2 => ⟨_, rfl, ?_⟩⟩⟩
    have e6 := (Same.new (o := HO.tup [V.str nm, V.int ki]) hT1).trans (Same.new (o := HO.tup [V.ref T1]) hT2)
    have hT1' : upd (upd H5 T1 (.tup [V.str nm, V.int ki])) T2 (.tup [V.ref T1]) T1 = some (.tup [V.str nm, V.int ki]) := Same.new hT2 _ _ upd_same
    have hrow : RowOk bs [(nm, ki)] := ⟨by show 1 ≤ 2000; decide, fun p m => by
      rw [List.mem_singleton.mp m]
      have k1 : -(10 ^ 30) ≤ ki := by rcases hki with e | e <;> rw [e] <;> decide
      have k2 : ki ≤ 10 ^ 30 := by rcases hki with e | e <;> rw [e] <;> decide
      have k3 : ki ≠ 0 := by rcases hki with e | e <;> rw [e] <;> decide
      exact ⟨hnm, k1, k2, k3⟩⟩
    -- the press is one of the single ones
    obtain ⟨m, hmm, hmt⟩ : ∃ m ∈ mvs bs, m.2 = turnFor n bs [(nm, ki)] := by
      obtain ⟨_, t2⟩ := tOf_some hnm
      have R := rings_right hbt.lo hbt.hi (hbt.t hnm)
      have h1 : turnFor n bs [(nm, ki)] = pT bs (nm, ki) := by rw [turnFor_tf]; exact tf_one hbt (p := (nm, ki)) hnm
      rw [h1]
      rcases hki with e | e
      · refine ⟨((nm, 1), tOf bs nm), List.mem_flatMap.mpr ⟨_, t2, List.mem_cons_self ..⟩, ?_⟩
        rw [e]
        exact (rai_one R (hbt.t hnm).tn).symm
      · refine ⟨((nm, -1), bck (tOf bs nm)), List.mem_flatMap.mpr ⟨_, t2, List.mem_cons_of_mem _ (List.mem_singleton.mpr rfl)⟩, ?_⟩
        rw [e]
        exact (rai_neg R (hbt.t hnm)).symm
    refine ⟨.ref a, .ref T2, n, bs, [(nm, ki)], y, rfl, ⟨hf5.1.on e6, hb, .tup upd_same (.cons (im_p hT1') .nil), hrow⟩, hy, ?_, fun H7 e7 => ?_⟩
    · rw [← hmt]; exact (mvs_ok hbt).prm m hmm
    · rw [← hmt]
      exact q m H7 hmm (s05.trans (Sips.of s05.cup (e6.trans e7)))
def spWithin (K : PySem.W.Frag) : Sp := fun vs H Q _ => ∃ (v : V) (n : Nat) (bs : List Btn) (l y : Sd) (a : Addr) (ls : List Sd), vs = [v, .str (SX.S l), .str (SX.S y), .ref a] ∧ Few K H v n bs ∧ StOk n l ∧ StOk n y ∧ Rch (mvs bs) l y ∧ TxAt H a ls ∧ (∀ x ∈ ls, Rch (mvs bs) l x) ∧ ∀ H', Same H H' → Q (.bl true) H'
theorem c_law_is_within (z : Z K mg) : Cal P w0 K mg base 7 "_law_is_within" (spWithin K) := by
  have S : FnScope ["_law_board", "_law_first", "_law_here", "_law_met", "_law_far", "_law_other"] ["_law_board", "_law_first", "_law_here", "_law_met"] (defScope sLawIsWithin) := ⟨rfl, rfl, rfl, by decide +kernel, rfl, by decide +kernel, by decide +kernel⟩
  refine cal_by z.d_law_is_within z.g_law_is_within S (fun _ _ _ _ _ _ us hl => match us, hl with | [_, _, _, _], _ => rfl) (fun vs H Q E h => ?_) (fun cdv A outer s H vs Q E hr h => ?_)
  · obtain ⟨v, n, bs, l, y, a, ls, rfl, _⟩ := h
    rfl
  · obtain ⟨v, n, bs, l, y, a, ls, rfl, hf, hl, hy, hrc, ha, hls, q⟩ := h
    refine ⟨_, pss_cons (ps_set (i := 4) S.nd rfl (Or.inl rfl) (pe_f (c_presses_between z) hr (by decide) rfl (pa_cons (pv 0) (pa_cons (pv 1) (pa_cons (pv 2) pa_nil)))))
    (pss_cons (ps_for PassesOwn.never rfl (pi_list (pv 3)) (pg_name (i := 5) S.nd rfl (Or.inl rfl))
      (pss_one (ps_if (pt_cmpR op_gt (pv 4) (pe_op op_add (pe_f (c_presses_between z) hr (by decide) rfl (pa_cons (pv 0) (pa_cons (pv 1) (pa_cons (pv 5) pa_nil)))) (pe_f (c_presses_between z) hr (by decide) rfl (pa_cons (pv 0) (pa_cons (pv 5) (pa_cons (pv 2) pa_nil))))) (nomark _))
        (pss_one (ps_ret pe_bl))
        pss_nil)))
    (pss_one (ps_ret (pe_cmpR op_eq (pe_f (c_presses_between z) hr (by decide) rfl (pa_cons (pv 0) (pa_cons (pv 2) (pa_cons (pv 1) pa_nil)))) (pv 4) (nomark _))))), ?_⟩
    have hm := mvs_ok (hf.2.1.bts hf.2.2)
    refine ⟨_, rfl, _, rfl, _, rfl, v, n, bs, l, y, rfl, hf, hl, hy, hrc, fun H1 e1 => ?_⟩
    refine ⟨_, rfl, a, rfl, ⟨_, SqL.of (e1 _ _ ha)⟩, for_it (walk_list (xs := ls.map fun l => V.str (SX.S l))) (fun i σ H2 => Same H H2 ∧ ∃ u, σ = [some v, some (.str (SX.S l)), some (.str (SX.S y)), some (.ref a), some (.int (dist (mvs bs) l y : Nat)), u]) ⟨e1, none, rfl⟩ (fun i σ H2 _ p => SqL.of (p.1 _ _ ha)) (fun i x σ H2 H3 hi p hy' => ?_) (fun σ H2 p => ?_)⟩
    · obtain ⟨e2, u, rfl⟩ := p
      obtain ⟨rfl, hc⟩ := hy'
      rw [List.length_map] at hi
      rw [List.getElem?_map, List.getElem?_eq_getElem hi] at hc
      have hxm : ls[i] ∈ ls := List.getElem_mem _
      generalize ls[i] = x at hc hxm
      cases hc
      have hr1 := hls x hxm
      have hx := hr1.st hm hl
      have hr2 : Rch (mvs bs) x y := (hr1.symm hm hl.1).trans hrc
      refine ⟨_, rfl, _, rfl, _, rfl, _, rfl, v, n, bs, l, x, rfl, hf.on e2, hl, hx, hr1, fun H4 e4 => ?_⟩
      refine ⟨_, rfl, _, rfl, _, rfl, v, n, bs, x, y, rfl, hf.on (e2.trans e4), hx, hy, hr2, fun H5 e5 => ⟨_, _, rfl, rfl, _, _, rfl, rfl, _, rfl, ?_⟩⟩
      have htri := dist_tri hr1 hr2
      rw [decide_eq_false (by omega)]
      exact iteF ⟨(e2.trans e4).trans e5, _, rfl⟩
    · obtain ⟨e2, u, rfl⟩ := p
      refine ⟨_, rfl, _, rfl, _, rfl, v, n, bs, y, l, rfl, hf.on e2, hy, hl, hrc.symm hm hl.1, fun H3 e3 => ⟨_, rfl, rfl, ?_⟩⟩
      rw [dist_symm hm hl.1 hrc, decide_eq_true rfl]
      exact q H3 (e2.trans e3)
end
end Sb
namespace Sb
open PySem PySem.Spec PyProof.Rows L2
theorem BtnsOk.perm {n : Nat} {bs bs' : List Btn} (h : BtnsOk n bs) (p : bs'.Perm bs) : BtnsOk n bs' :=
  ⟨h.1, h.2.1, by rw [p.length_eq]; exact h.2.2.1, fun b m => h.2.2.2.1 b (p.mem_iff.mp m), (p.map _).nodup_iff.mpr h.2.2.2.2⟩
theorem drawn_ok {n : Nat} {bs : List Btn} {t : Trn} (n1 : 1 ≤ n) (n5 : n ≤ 24) (hl : bs.length ≤ 2) (hn : (bs.map (·.1)).Nodup) (hb : ∀ b ∈ bs, b.1 ∈ drawnNames ∧ Prm n b.2) (ht : Prm n t) : BtnsOk n (bs ++ [(("q" : Str), t)]) := by
  refine ⟨n1, n5, by rw [List.length_append]; show bs.length + 1 ≤ 8; omega, fun b m => ?_, ?_⟩
  · rcases List.mem_append.mp m with m | m
    · obtain ⟨h1, h2⟩ := hb b m
      obtain ⟨k1, k2, _⟩ := names_ok _ h1
      exact ⟨k1, k2, h2⟩
    · rw [List.mem_singleton.mp m]
      exact ⟨q_ok.1, q_ok.2, ht⟩
  · rw [List.map_append]
    refine List.nodup_append.mpr ⟨hn, List.pairwise_singleton .., fun a ha b hb' e => ?_⟩
    obtain ⟨x, hx, rfl⟩ := List.mem_map.mp ha
    rw [show b = ("q" : Str) from List.mem_singleton.mp hb'] at e
    exact (names_ok _ (hb x hx).1).2.2 e
section
variable {P : Program} {w0 : World} {K : PySem.W.Frag} {mg : Str → Option Value} {base : Heap}
def spRight : Sp := fun vs H Q _ => ∃ c : Addr, vs = [.ref c] ∧ CupAt H c ∧ ∀ H', Sips c H H' → Q (.bl true) H'
theorem c_law_right (z : Z K mg) : Cal P w0 K mg base 11 "_law_right" spRight := by
  have S : FnScope ["_law_cup_here", "_law_n", "_law_board", "_law_first", "_law_marks_here", "_law_here", "_law_met", "_law_last", "_law_many", "_law_far", "_law_bent_here", "_law_is_led"] ["_law_cup_here"] (defScope sLawRight) := ⟨rfl, rfl, rfl, by decide +kernel, rfl, by decide +kernel, by decide +kernel⟩
  refine cal_by z.d_law_right z.g_law_right S (fun _ _ _ _ _ _ us hl => match us, hl with | [_], _ => rfl) (fun vs H Q E h => ?_) (fun cdv A outer s H vs Q E hr h => ?_)
  · obtain ⟨c, rfl, _⟩ := h
    rfl
  · obtain ⟨c, rfl, hc, q⟩ := h
    refine ⟨_, pss_cons (ps_set (i := 1) S.nd rfl (Or.inl rfl) (pe_f (c_law_one z) hr (by decide) rfl (pa_cons (pv 0) (pa_cons (pe_lst (pa_cons pe_int (pa_cons pe_int (pa_cons pe_int (pa_cons pe_int (pa_cons pe_int (pa_cons pe_int (pa_cons pe_int (pa_cons pe_int (pa_cons pe_int (pa_cons pe_int pa_nil))))))))))) pa_nil))))
    (pss_cons (ps_set (i := 2) S.nd rfl (Or.inl rfl) (pe_new (k_Board z) hr (by decide) rfl (pa_cons (pv 1) (pa_cons (pe_op op_catA (pe_f (c_law_buttons z) hr (by decide) rfl (pa_cons (pv 0) (pa_cons (pv 1) (pa_cons pe_int pa_nil)))) (pe_tup (pa_cons (pe_tup (pa_cons pe_str (pa_cons (pe_f (c_law_turn z) hr (by decide) rfl (pa_cons (pv 0) (pa_cons (pv 1) pa_nil))) pa_nil))) pa_nil))) (pa_cons (pe_tup pa_nil) pa_nil)))))
    (pss_cons (ps_set (i := 3) S.nd rfl (Or.inl rfl) (pe_f (c_law_standing z) hr (by decide) rfl (pa_cons (pv 0) (pa_cons (pv 1) pa_nil))))
    (pss_cons (ps_par3 (i := 4) (j := 5) (l := 6) (by rfl) S.nd rfl rfl rfl (by decide) (by decide) (by decide) rfl rfl rfl (pa_cons (pe_f (c_law_marks z) hr (by decide) rfl (pa_cons (pv 2) (pa_cons (pv 3) pa_nil))) (pa_cons (pv 3) (pa_cons (pe_lst (pa_cons (pv 3) pa_nil)) pa_nil))) (by rfl))
    (pss_cons (ps_set (i := 7) S.nd rfl (Or.inl rfl) (pe_f (c_presses_between z) hr (by decide) rfl (pa_cons (pv 2) (pa_cons (pv 3) (pa_cons (pe_ix ix_tup (pe_f (c_farthest_standings z) hr (by decide) rfl (pa_cons (pv 2) (pa_cons (pv 3) pa_nil))) pe_int (fun _ _ => rfl)) pa_nil)))))
    (pss_cons (ps_for PassesOwn.never rfl (pi_range2 (by rfl) z.b_range (pa_cons pe_int (pa_cons pe_int pa_nil))) (pg_name (i := 8) S.nd rfl (Or.inl rfl))
      (pss_cons (ps_set (i := 5) S.nd rfl (Or.inl rfl) (pe_f (c_law_step z) hr (by decide) rfl (pa_cons (pv 0) (pa_cons (pv 2) (pa_cons (pv 5) pa_nil)))))
      (pss_cons (ps_set (i := 9) S.nd rfl (Or.inl rfl) (pe_f (c_presses_between z) hr (by decide) rfl (pa_cons (pv 2) (pa_cons (pv 3) (pa_cons (pv 5) pa_nil)))))
      (pss_cons (ps_if (PW.pt (pw_or (pt_cmpR op_gt (pv 9) (pv 8) (nomark _)) (pw_or (pt_cmpR op_gt (pv 9) (pv 7) (nomark _)) (pw_or (pt_cmpR (op_neD hr.units) (pe_f (c_law_marks z) hr (by decide) rfl (pa_cons (pv 2) (pa_cons (pv 5) pa_nil))) (pv 4) (nomark _)) (pw_or1 (pt_not (pt_val (pe_f (c_goes z) hr (by decide) rfl (pa_cons (pv 2) (pa_cons (pv 3) (pa_cons (pv 5) pa_nil)))))))))))
        (pss_one (ps_ret pe_bl))
        pss_nil)
      (pss_cons (ps_if (PW.pt (pw_or (pt_not (pt_val (pe_f (c_law_row_right z) hr (by decide) rfl (pa_cons (pv 2) (pa_cons (pv 3) (pa_cons (pv 5) (pa_cons (pv 9) pa_nil))))))) (pw_or1 (pt_not (pt_val (pe_f (c_law_is_within z) hr (by decide) rfl (pa_cons (pv 2) (pa_cons (pv 3) (pa_cons (pv 5) (pa_cons (pe_slice sl_list (pv 6) (po_some (pe_un un_neg pe_int)) po_none) pa_nil))))))))))
        (pss_one (ps_ret pe_bl))
        pss_nil)
      (pss_one (ps_expr (pe_bm PySem.F.plainAttrs_list PySem.F.slot_list_append PySem.F.type_list_append mt_append (pv 6) (pa_cons (pv 5) pa_nil)))))))))
    (pss_cons (ps_set (i := 10) S.nd rfl (Or.inl rfl) (pe_f (c_law_bent z) hr (by decide) rfl (pa_cons (pv 0) (pa_cons (pv 5) pa_nil))))
    (pss_cons (ps_set (i := 11) S.nd rfl (Or.inl rfl) (pe_f (c_goes z) hr (by decide) rfl (pa_cons (pv 2) (pa_cons (pv 5) (pa_cons (pv 10) pa_nil)))))
    (pss_one (ps_ret (pe_and (pe_cmpR op_eq (pv 11) (pe_cmpR op_eq (pe_f (c_least z) hr (by decide) rfl (pa_cons (pv 2) (pa_cons (pv 10) pa_nil))) (pe_ix ix_list (pv 4) pe_int (fun _ _ => rfl)) (nomark _)) (nomark _)) (pe_one (pe_cmpR op_eq (pe_cmpR op_notN (pe_f (c_row_between z) hr (by decide) rfl (pa_cons (pv 2) (pa_cons (pv 3) (pa_cons (pv 10) pa_nil)))) pe_non (nomark _)) (pv 11) (nomark _))))))))))))), ?_⟩
    -- how many places
    refine ⟨_, rfl, by show 10 ≤ 2 ^ 24; decide, fun L hL => ?_⟩
    have hLc := hc.fresh hL
    have eL := Same.new (o := HO.lst (([2, 3, 3, 4, 4, 4, 4, 4, 4, 5] : List Nat).map fun k : Nat => V.int (k : Int))) hL
    refine ⟨c, .ref L, rfl, hc.on eL, .inl ⟨L, ([2, 3, 3, 4, 4, 4, 4, 4, 4, 5] : List Nat).map fun k : Nat => V.int (k : Int), rfl, hLc, upd_same, by decide, by decide, fun yn H1 hyn s1 => ?_⟩⟩
    obtain ⟨n, hn, rfl⟩ := List.mem_map.mp hyn
    have hn25 : 2 ≤ n ∧ n ≤ 5 := by
      have : ∀ k ∈ ([2, 3, 3, 4, 4, 4, 4, 4, 4, 5] : List Nat), 2 ≤ k ∧ k ≤ 5 := by decide
      exact this n hn
    obtain ⟨n2, n5⟩ := hn25
    have s01 : Sips c H H1 := (Sips.of hc eL).trans s1
    -- the buttons
    refine ⟨_, rfl, _, rfl, _, rfl, c, n, 2, rfl, s01.cup, by omega, by omega, by decide, fun vb bs H2 b1 b2 b3 s2 hvb => ?_⟩
    refine ⟨_, rfl, _, rfl, c, n, rfl, s2.cup, by omega, by omega, fun vt t H3 ht s3 hvt => ⟨by show 2 ≤ 2 ^ 24; decide, fun T1 hT1 => ⟨by show 1 ≤ 2 ^ 24; decide, fun T2 hT2 => ?_⟩⟩⟩
    have e4 := (Same.new (o := HO.tup [V.str "q", vt]) hT1).trans (Same.new (o := HO.tup [V.ref T1]) hT2)
    have hT1' : upd (upd H3 T1 (.tup [V.str "q", vt])) T2 (.tup [V.ref T1]) T1 = some (.tup [V.str "q", vt]) := Same.new hT2 _ _ upd_same
    have hT2' : upd (upd H3 T1 (.tup [V.str "q", vt])) T2 (.tup [V.ref T1]) T2 = some (.tup [V.ref T1]) := upd_same
    have s03 : Sips c H H3 := (s01.trans s2).trans s3
    have hvb3 := (hvb.by (s3.tk s2.cup)).on e4
    have hvt3 := hvt.on e4
    have s04 : Sips c H (upd (upd H3 T1 (.tup [V.str "q", vt])) T2 (.tup [V.ref T1])) := s03.trans (Sips.of s03.cup e4)
    generalize upd (upd H3 T1 (.tup [V.str "q", vt])) T2 (.tup [V.ref T1]) = H4 at hT1' hT2' hvb3 hvt3 s04
    have hone : Ims H4 [V.ref T1] ([(("q" : Str), t)].map eB) := .cons (im_b hT1' hvt3) .nil
    have hcat : ∀ (R : VK), (∀ vc Hc, Same H4 Hc → Im Hc vc (eBs (bs ++ [(("q" : Str), t)])) → R vc Hc) → rCatA K vb (.ref T2) H4 R := fun R hR => by
      obtain ⟨a, xs, rfl, ha, hxs⟩ := hvb3.tupE
      have hxl := hxs.mlen
      refine ⟨a, T2, xs, [.ref T1], rfl, rfl, SqT.of ha, SqT.of hT2', by show xs.length + 1 ≤ 2 ^ 24; omega, fun e => ?_, (fun _ e => by cases e), fun _ _ p hp => ?_⟩
      · have : bs = [] := by
          rw [e] at hxl
          exact List.length_eq_zero_iff.mp hxl.symm
        subst this
        exact hR _ _ (Same.refl _) (.tup hT2' hone)
      · refine hR _ _ (Same.new hp) (.tup upd_same ?_)
        rw [List.map_append]
        exact (hxs.append hone).on (Same.new hp)
    refine hcat _ fun vc Hc ec hvc => ?_
    have s0c : Sips c H Hc := s04.trans (Sips.of s04.cup ec)
    refine ⟨by decide, fun E1 hE1 => ?_⟩
    have eE := Same.new (o := HO.tup []) hE1
    intro x dx nx ndx nex
    have hok := drawn_ok (by omega : 1 ≤ n) (by omega) b1 b2 b3 ht
    have eN : Same (upd Hc E1 (.tup [])) (upd (upd (upd Hc E1 (.tup [])) dx (.own x)) x (.ins (gA K "Board") dx [])) := Same.mut (Same.new ndx) nx
    refine ⟨x, dx, vc, .ref E1, n, _, rfl, upd_same, (hvc.on eE).on eN, .tup (eN _ _ upd_same) .nil, hok, fun H6 bs' hperm hkeep hBd => ⟨rfl, ?_⟩⟩
    have eB : Same Hc H6 := fun b o h => hkeep b o (fun e => by rw [e] at h; rw [eE _ _ h] at nx; cases nx) (eN _ _ (eE _ _ h))
    have s06 : Sips c H H6 := s0c.trans (Sips.of s0c.cup eB)
    have hok' := hok.perm hperm
    have hne : bs' ≠ [] := fun e => by
      have := hperm.length_eq
      rw [e, List.length_append] at this
      have : 0 = bs.length + 1 := this
      omega
    have hf6 : Few K H6 (.ref x) n bs' := ⟨hBd, hok', n5⟩
    have hm := mvs_ok (hok'.bts n5)
    -- the first standing
    refine ⟨_, rfl, _, rfl, c, n, rfl, s06.cup, by omega, fun l H7 hl s7 => ?_⟩
    have s07 := s06.trans s7
    have hf7 := hf6.sips s06.cup s7
    -- its marks
    refine ⟨_, rfl, _, rfl, .ref x, n, bs', l, rfl, hf7, hl, fun aM m H8 e8 hMn hMk hM => ⟨_, rfl, _, rfl, by show 1 ≤ 2 ^ 24; decide, fun A hA => ⟨_, _, _, rfl, ?_⟩⟩⟩
    have e9 := e8.trans (Same.new (o := HO.lst [V.str (SX.S l)]) hA)
    have hM9 := Same.new (o := HO.lst [V.str (SX.S l)]) hA _ _ hM
    have hA9 : upd H8 A (.lst [V.str (SX.S l)]) A = some (.lst [V.str (SX.S l)]) := upd_same
    have hMc : aM ≠ c := s07.cup.fresh hMn
    have hA7 : H7 A = none := e8.free hA
    have hAc : A ≠ c := s07.cup.fresh hA7
    have hMA : aM ≠ A := ne_of_none hM hA
    generalize upd H8 A (.lst [V.str (SX.S l)]) = H9 at e9 hM9 hA9
    have hf9 := hf7.on e9
    -- the farthest
    refine ⟨_, rfl, _, rfl, _, rfl, _, rfl, .ref x, n, bs', l, rfl, hf9, hl, fun fx b ys H10 e10 hrb hmax hfx => ?_⟩
    obtain ⟨fa, fxs, rfl, hfa, hfxs⟩ := hfx.tupE
    rw [hfxs.strs] at hfa
    have hstb := hrb.st hm hl
    refine ⟨fa, _, _, V.str (SX.S b), rfl, rfl, SqT.of hfa, atI_nat (j := 0) rfl, .ref x, n, bs', l, b, rfl, hf9.on e10, hl, hstb, hrb, fun H11 e11 => ?_⟩
    have e711 := (e9.trans e10).trans e11
    have hfirst := hMk
    have hstrOk : PyData.strOk m.2.1 = true := by
      obtain ⟨ys, hs⟩ := hMk.least
      exact (sorted_head hm hl hs).choose_spec.2.2
    have hA0 : H A = none := by
      have := s07.k1.free hAc hA7
      exact this
    -- the walk
    refine ⟨1, 5, rfl, by decide, for_it (walk_range (lo := 1)) (fun i σ H12 => ∃ (y : Sd) (ls : List Sd) (u8 u9 : Option V), Wk (mvs bs') i l y ∧ TxAt H12 A ls ∧ (∀ w ∈ ls, Rch (mvs bs') l w) ∧ ls.length ≤ i + 1 ∧ H12 aM = some (.lst (vMk m)) ∧ Sips c H H12 ∧ Few K H12 (.ref x) n bs' ∧
        σ = [some (.ref c), some (.int n), some (.ref x), some (.str (SX.S l)), some (.ref aM), some (.str (SX.S y)), some (.ref A), some (.int (dist (mvs bs') l b : Nat)), u8, u9, none, none])
      ⟨l, [l], none, none, rfl, e11 _ _ (e10 _ _ hA9), (fun w hw => by rw [List.mem_singleton.mp hw]; exact ⟨0, rfl⟩), Nat.le_refl _, e11 _ _ (e10 _ _ hM9), s07.trans (Sips.of s07.cup e711), hf7.on e711, rfl⟩ (fun i σ H12 _ p => trivial) (fun i yv σ H12 H13 hi p hy => ?_) (fun σ H12 p => ?_)⟩
    · obtain ⟨y, ls, u8, u9, hwk, hls, hlr, hll, hM12, s12, hf12, rfl⟩ := p
      obtain ⟨rfl, rfl⟩ := hy
      have hi4 : i < 4 := hi
      have hry : Rch (mvs bs') l y := ⟨i, hwk⟩
      have hy := hry.st hm hl
      -- a step
      refine ⟨_, rfl, _, rfl, _, rfl, c, .ref x, n, bs', y, rfl, s12.cup, hf12, hne, hy, fun mo H14 hmo s14 => ?_⟩
      have hwk' : Wk (mvs bs') (i + 1) l (led y mo.2) := ⟨y, hwk, mo, hmo, rfl⟩
      generalize led y mo.2 = y' at hwk'
      have hry' : Rch (mvs bs') l y' := ⟨i + 1, hwk'⟩
      have hy' := hry'.st hm hl
      have hf14 := hf12.sips s12.cup s14
      have hM14 := s14.k1 _ _ hMc hM12
      have hls14 : TxAt H14 A ls := s14.k1 _ _ hAc hls
      have s014 := s12.trans s14
      -- how far
      refine ⟨_, rfl, _, rfl, _, rfl, .ref x, n, bs', l, y', rfl, hf14, hl, hy', hry', fun H15 e15 => ?_⟩
      have hdle := dist_le hwk'
      have hdmax := hmax y' hry'
      refine ⟨_, rfl, _, rfl, _, _, rfl, rfl, _, rfl, ?_⟩
      rw [decide_eq_false (by show ¬ ((dist (mvs bs') l y' : Nat) : Int) > 1 + (i : Int); omega)]
      refine iteF ⟨_, rfl, _, rfl, _, _, rfl, rfl, _, rfl, ?_⟩
      rw [decide_eq_false (by show ¬ ((dist (mvs bs') l y' : Nat) : Int) > ((dist (mvs bs') l b : Nat) : Int); omega)]
      refine iteF ?_
      -- the marks are the same
      refine ⟨_, rfl, _, rfl, .ref x, n, bs', y', rfl, hf14.on e15, hy', fun aM2 m2 H16 e16 _ hMk2 hM2 => ?_⟩
      have e1416 := e15.trans e16
      have hmm := marked_same hm hl.1 hry' hMk hMk2
      subst hmm
      refine ⟨_, rfl, .list (eMk m), .list (eMk m), .lst (SqL.of hM2) (Ims.dp _ _ (ims_mk m)), .lst (SqL.of (e1416 _ _ hM14)) (Ims.dp _ _ (ims_mk m)), shaped_mk hstrOk, shaped_mk hstrOk, _, rfl, ?_⟩
      rw [eq_mk]
      refine iteF ?_
      refine ⟨_, rfl, _, rfl, _, rfl, .ref x, n, bs', l, y', rfl, hf14.on e1416, hl, hy', fun bg H17 e17 hbg => ⟨_, rfl, ?_⟩⟩
      rw [hbg.mpr hry']
      refine iteF ?_
      have e1417 := e1416.trans e17
      -- the row, the triangle
      refine ⟨_, rfl, _, rfl, _, rfl, _, rfl, .ref x, n, bs', l, y', rfl, hf14.on e1417, hl, hy', hry', fun H18 e18 => ⟨_, rfl, iteF ?_⟩⟩
      have e1418 := e1417.trans e18
      refine ⟨_, rfl, _, rfl, _, rfl, _, rfl, _, rfl, -2, rfl, A, _, rfl, SqL.of (e1418 _ _ hls14), fun p hp => ?_⟩
      have e1419 := e1418.trans (Same.new (o := HO.lst (cutV (ls.map fun l => V.str (SX.S l)) (some (-2)) none)) hp)
      obtain ⟨ls2, hls2, hsub⟩ : ∃ ls2 : List Sd, cutV (ls.map fun l => V.str (SX.S l)) (some (-2)) none = (ls2.map fun l => V.str (SX.S l)) ∧ ∀ w ∈ ls2, w ∈ ls := by
        unfold cutV
        rw [← List.map_drop, ← List.map_take]
        exact ⟨_, rfl, fun w hw => List.mem_of_mem_drop (List.mem_of_mem_take hw)⟩
      refine ⟨.ref x, n, bs', l, y', p, ls2, rfl, hf14.on e1419, hl, hy', hry', ?_, fun w hw => hlr w (hsub w hw), fun H20 e20 => ⟨_, rfl, iteF ?_⟩⟩
      · show upd H18 p _ p = _
        rw [upd_same, hls2]
      have e1420 := e1419.trans e20
      have hls20 := e1420 _ _ hls14
      refine ⟨_, rfl, .inl ⟨rfl, _, SqL.of hls20⟩, _, rfl, A, _, _, rfl, rfl, hls20, by rw [List.length_map]; show _ < 2 ^ 24; omega, ?_⟩
      have s020 : Sips c H H20 := s014.trans (Sips.of s014.cup e1420)
      have hbd20 := (hf14.on e1420)
      refine ⟨y', ls ++ [y'], _, _, hwk', ?_, fun w hw => ?_, by rw [List.length_append]; show _ + 1 ≤ _; omega, (upd_ne hMA).trans (e1420 _ _ hM14), s020.newL hA0 hAc, ⟨?_, hok', n5⟩, rfl⟩
      · show upd H20 A _ A = _
        rw [upd_same, List.map_append]
        rfl
      · rcases List.mem_append.mp hw with hw | hw
        · exact hlr w hw
        · rw [List.mem_singleton.mp hw]; exact hry'
      · obtain ⟨a, dx', T, E', e1, e2, e3'⟩ := hbd20.1
        exact ⟨a, dx', T, E', e1, (upd_ne (ne_of e2 hls20 (by intro z; cases z))).trans e2, e3'.by (TK.put hls20 (fun _ z => by cases z))⟩
    · obtain ⟨y, ls, u8, u9, hwk, hls, hlr, hll, hM12, s12, hf12, rfl⟩ := p
      have hry : Rch (mvs bs') l y := ⟨_, hwk⟩
      have hy := hry.st hm hl
      -- one thing exchanged
      refine ⟨_, rfl, _, rfl, c, n, y, rfl, s12.cup, hy, by omega, by omega, fun y2 H13 hy2 s13 => ?_⟩
      have s013 := s12.trans s13
      have hf13 := hf12.sips s12.cup s13
      have hM13 := s13.k1 _ _ hMc hM12
      refine ⟨_, rfl, _, rfl, _, rfl, .ref x, n, bs', y, y2, rfl, hf13, hy, hy2, fun bl H14 e14 hbl => ?_⟩
      have hiff : Rch (mvs bs') l y2 ↔ Rch (mvs bs') y y2 := ⟨fun h => (hry.symm hm hl.1).trans h, fun h => hry.trans h⟩
      refine ⟨_, rfl, _, rfl, _, rfl, .ref x, n, bs', y2, rfl, hf13.on e14, hy2, fun xl ys2 H15 e15 hs2 => ?_⟩
      have e1315 := e14.trans e15
      have hM15 := e1315 _ _ hM13
      obtain ⟨ys1, hs1⟩ := hMk.least
      have hxm : (xl = m.2.1) ↔ Rch (mvs bs') y y2 := by
        constructor
        · intro e
          obtain ⟨d1, q1, q2, _⟩ := sorted_head hm hl hs1
          obtain ⟨d2, q3, q4, _⟩ := sorted_head hm hy2 hs2
          have : d2 = d1 := kL_inj _ _ (congrArg kS (by rw [← q3, ← q1, e]))
          subst this
          exact hiff.mp (q2.trans (q4.symm hm hy2.1))
        · intro h
          have := sorted_same hs1 hs2 fun f g hf hg => paths_same hm hl.1 (hiff.mpr h) hf hg
          exact (List.cons.inj this).1.symm
      refine ⟨_, rfl, aM, _, _, V.str m.2.1, rfl, rfl, SqL.of hM15, atI_nat (j := 1) rfl, rfl, rfl, ?_⟩
      have hb1 : bl = decide (V.str xl = V.str m.2.1) := by
        rw [Bool.eq_iff_iff, hbl, decide_eq_true_eq, ← hxm]
        exact ⟨fun e => by rw [e], fun e => V.str.inj e⟩
      rw [← hb1, decide_eq_true rfl]
      refine ⟨true, rfl, iteT ?_⟩
      have hq : ∀ H16, Same H13 H16 → Q (.bl true) H16 := fun H16 e => q H16 (s013.trans (Sips.of s013.cup e))
      refine ⟨_, rfl, _, rfl, _, rfl, .ref x, n, bs', l, y2, rfl, hf13.on e1315, hl, hy2, fun hnr H16 e16 => ?_, fun a r H16 e16 hrr _ _ _ _ => ?_⟩
      · have hb0 : bl = false := by
          cases bl with
          | false => rfl
          | true => exact absurd (hiff.mpr (hbl.mp rfl)) hnr
        refine ⟨rfl, _, rfl, rfl, ?_⟩
        rw [hb0]
        exact hq _ (e1315.trans e16)
      · have hb0 : bl = true := hbl.mpr (hiff.mp hrr)
        refine ⟨rfl, _, rfl, rfl, ?_⟩
        rw [hb0]
        exact hq _ (e1315.trans e16)
def spLaw (K : PySem.W.Frag) : Sp := fun vs H Q _ => ∃ (a : Addr) (ns : List Int), vs = [.ref a] ∧ SqL K H a (ns.map V.int) ∧ (∀ H', Same H H' → SqL K H' a (ns.map V.int)) ∧ ns.length ≤ 1000 ∧ ∀ H', Q (.bl true) H'
theorem fn_law (z : Z K mg) {f : Addr} {fd : FuncData} (F : Fun K "law" "law" sLaw f fd) : FnOk P w0 K mg base CX0 12 f fd ["_law_script"] (spLaw K) ∧ Binds K fd ["_law_script"] [] := by
  have S : FnScope ["_law_script", "_law_k"] ["_law_script"] (defScope sLaw) := ⟨rfl, rfl, rfl, by decide +kernel, rfl, by decide +kernel, by decide +kernel⟩
  refine fn_by F S (fun _ _ _ _ _ _ us hl => match us, hl with | [_], _ => rfl) (fun vs H Q E h => ?_) (fun cdv A outer s H vs Q E hr h => ?_)
  · obtain ⟨a, ns, rfl, _⟩ := h
    rfl
  · obtain ⟨a, ns, rfl, ha, hstay, hl, q⟩ := h
    refine ⟨_, pss_one (ps_ret (pe_callB (cr_all rfl) (by rfl) z.b_all (by decide +kernel) (pa_cons (pe_lc (own := [("_law_k", 1)]) (g := gName 1) rfl S.nd (pi_range1 (by rfl) z.b_range (pa_cons (pe_callB (call_max2 rfl) (by rfl) z.b_max boot_max (pa_cons pe_int (pa_cons (pe_callB (call_min2 rfl) (by rfl) z.b_min boot_min (pa_cons (pe_callB call_len_seq (by rfl) z.b_len boot_len (pa_cons (pv 0) pa_nil)) (pa_cons pe_int pa_nil))) pa_nil))) pa_nil)) (blkOk_by (own := [("_law_k", 1)]) (N := ["_law_script", "_law_k"]) (sc := defScope sLaw) (by decide +kernel)) (fun _ _ _ _ _ => (pg_name (i := 1) S.nd rfl (Or.inl rfl))) (fun _ _ _ _ _ => pts_nil) (fun _ _ _ _ _ => (pe_f (c_law_right z) hr (by decide) rfl (pa_cons (pe_f (c_law_cup z) hr (by decide) rfl (pa_cons (pv 0) (pa_cons (pv 1) pa_nil))) pa_nil)))) pa_nil))), ?_⟩
    have hnl : (ns.map V.int).length = ns.length := List.length_map ..
    refine ⟨_, rfl, a, _, rfl, .inl ha, _, _, rfl, _, _, rfl, _, rfl, ?_, ?_, ?_⟩
    · split <;> split <;> omega
    · split <;> split <;> omega
    generalize hj : (if (if (2 : Int) < ((ns.map V.int).length : Int) then (2 : Int) else ((ns.map V.int).length : Int)) > 1 then (if (2 : Int) < ((ns.map V.int).length : Int) then (2 : Int) else ((ns.map V.int).length : Int)) else 1) = j
    have hj2 : j.toNat ≤ 2 := by
      rw [← hj]
      split <;> split <;> omega
    refine fun D hD => lc_data walk_range (List.replicate j.toNat (.bool true)) List.length_replicate (by show _ ≤ 2 ^ 24; omega) hD (fun _ _ => trivial) yfn_same (fun i y H1 H2 Nx hi e e2 hy q => ?_) (fun H1 xs e h5 h6 => ?_)
    · obtain ⟨rfl, rfl⟩ := hy
      show gName 1 (V.int (0 + (i : Int))) _ _ _
      rw [Int.zero_add]
      refine ⟨rfl, _, rfl, _, rfl, a, ns, i, rfl, hstay _ e, hl, fun c H3 e3 hcn hcup => ⟨c, rfl, hcup, fun H4 s4 => ?_⟩⟩
      exact q _ H4 _ (Sips.same hcn e3 s4) (by simp [hi]) (.bl true)
    · rw [ims_rep h6] at h5
      refine ⟨D, _, rfl, SqL.of h5, ?_⟩
      rw [all_rep]
      exact q _
end
end Sb
set_option maxHeartbeats 0
namespace Sb
open PySem PySem.Spec PyProof.Rows L2
theorem facts {P : Program} {w : World} {K : PySem.W.Frag} {h : Heap} {mg : Str → Option Value} {f : Addr} (X : K.In h) (G : h.Ns mainGlobals mg) (hfa : mg ("law" : Str) = some (.ref f)) (c : SaysS fa fn moreB K) :
    ∃ fd : FuncData, (∀ (s : Shared) (v : Value), BindsTo s fd ⟨[v], []⟩ [("_law_script", v)]) ∧ ∀ base : Heap, K.In base → base.Ns mainGlobals mg → FnOk P w K mg base CX0 12 f fd ["_law_script"] (spLaw K) := by
  have z : Z K mg := ⟨c, h, X, G⟩
  obtain ⟨fd, F⟩ := c.1.def_ 77 (d := dLaw) rfl
  have e := hfa.symm.trans z.g_law
  cases e
  have b := FunD.bindsA (ps := ["_law_script"]) F fun _ _ _ _ _ _ us hl => match us, hl with | [_], _ => rfl
  exact ⟨fd, fun s v => b s [v] rfl, fun base _ _ => (fn_law z (He5.fun_of F)).1⟩
theorem sqL_on {K : PySem.W.Frag} {H H' : Hp} {a : Addr} {xs : List V} (h : SqL K H a xs) (e : Same H H') : SqL K H' a xs :=
  h.elim (fun h => .inl (h.elim (fun h => .inl (e _ _ h)) fun ⟨o, h⟩ => .inr ⟨o, e _ _ h⟩)) .inr
end Sb
open PySem PySem.W PySem.Calls PyProof.Rows
theorem PySem.Challenge.cw_seatbuttons_k48_whole_walks_of_standings_holds : PySem.Challenge.rw_seatbuttons_k48_whole_walks_of_standings.Holds := by
  w_on; o_law
  refine HandSHeadRun.head_any (r := Sb.R) (q := view Sb.R.prog [117]) (H := Sb.hk) (ob := Sb.ob) (M := 20000) (loose := Sb.loose) (d := HandSHeadRun.topDef Sb.R.prog 117) (kwd := []) Sb.ob_eq
    (by kernel_rfl) (fun s => by kernel_rfl) Sb.run (by kernel_rfl) (by kernel_rfl) (by kernel_rfl) (by rfl) (by first | assumption | decide +kernel) (by decide +kernel) ⟨rfl, rfl, rfl, rfl, rfl, by decide +kernel⟩ ?hw ?hc
  case hw => w_witness2
  case hc =>
    refine L2.walk_ofE (l := PySem.Challenge.rw_seatbuttons_k48_whole_walks_of_standings) (n := 63) (k := 12) (x := "_law_script") (CX := L2.CX0) rfl (by decide) (by kernel_rfl) ⟨rfl, by decide, by decide⟩ ?F (fun _ _ _ _ z => z)
    intro w mg fa h Y G hmg0
    obtain ⟨K, KX, c⟩ := Y
    have hmg : mg ("law" : PySem.Str) = some (.ref fa) := by
      have e : (HandSHeadRun.topDef Sb.R.prog 117).name = ("law" : PySem.Str) := by kernel_rfl
      rw [← e]
      exact hmg0
    obtain ⟨fd, hb, hF⟩ := Sb.facts (P := Sb.R.prog) (w := w) KX G hmg c
    exact ⟨K, fd, Sb.spLaw K, KX, hb, fun H a ns hl _ hS => ⟨a, ns, rfl, hS, fun H' e => Sb.sqL_on hS e, Nat.le_trans hl (by decide), fun _ => rfl⟩, hF⟩
