import PyProof.Rows.All
import Wide.All
import OpenK.AllK
import Wide.FinOn
import KE.KStateDown
import Lean
import HandS.Base
import HandS.Call
import HandS.List
import HandS.Dict
import HandS.Ends
import HandS.More
import HandS.Exc
import HandS.Words
import HandS.WordsExc
import HandS.Defaults
import HandS.HeadHook1
import HandS.HeadHook2
import HandS.HeadHook3
import HandS.HeadHook4
import HandS.Head0
import HandS.Head1
import HandS.Head2
import HandS.HeadEnd
import HandS.ForMost
import HandS.Walk
import HandS.TupAny
import HandS.TupMul
import HandS.IsInst
import HandS.RaiseMore
import HandS.Conv
import KE.DataAny
import KE.SortData
import HandS.DictComp
import PySem.Challenge.RW_mintlaw_k81_whole_sessions_tell_historie
/-! ## K0 -/
set_option Elab.async false
set_option linter.all false
set_option maxRecDepth 100000
set_option maxHeartbeats 4000000
/-! The text by places; the facts of the top that the walk leans on (printed by gen/head.py). -/
namespace K81
open PySem PySem.Spec PyProof.Rows L2
def top (i : Nat) : Stmt := PySem.Challenge.pw_mintlaw_k81_whole_sessions_tell_historie.main.body.getD i (.Pass ⟨0, 0, 0, 0⟩)
abbrev sIsNumber : Stmt := top 7
abbrev sIsName : Stmt := top 8
abbrev sMoveIndex : Stmt := top 9
abbrev sPlus : Stmt := top 16
abbrev sLess : Stmt := top 17
abbrev sGreater : Stmt := top 19
abbrev sCovers : Stmt := top 20
abbrev sFitsRange : Stmt := top 31
abbrev sSentStock : Stmt := top 32
abbrev sFlow : Stmt := top 33
abbrev sIsPossible : Stmt := top 34
abbrev sCarry : Stmt := top 35
abbrev sShown : Stmt := top 36
abbrev sCarryOut : Stmt := top 37
abbrev sLogsOf : Stmt := top 38
abbrev sMerged : Stmt := top 39
abbrev sIsRecall : Stmt := top 41
abbrev sWayOf : Stmt := top 42
abbrev sStrike : Stmt := top 43
abbrev sKeptNumbers : Stmt := top 44
abbrev sLacks : Stmt := top 45
abbrev sLeastRefunds : Stmt := top 46
abbrev sRefunds : Stmt := top 47
abbrev sPrintItems : Stmt := top 50
abbrev sWritten : Stmt := top 51
abbrev sPrintStock : Stmt := top 52
abbrev sNumberOf : Stmt := top 53
abbrev sReadItems : Stmt := top 54
abbrev sEntriesOf : Stmt := top 55
abbrev sReadStock : Stmt := top 59
abbrev sCut : Stmt := top 66
abbrev sCheckNames : Stmt := top 67
abbrev sNumberIn : Stmt := top 68
abbrev sLMix : Stmt := top 71
abbrev sLNumbers : Stmt := top 72
abbrev sLDraws : Stmt := top 73
abbrev sLTake : Stmt := top 74
abbrev sLNamed : Stmt := top 75
abbrev sLStock : Stmt := top 76
abbrev sLBook : Stmt := top 77
abbrev sLEvent : Stmt := top 78
abbrev sLFlow : Stmt := top 79
abbrev sLDone : Stmt := top 80
abbrev sLHistory : Stmt := top 81
abbrev sLLine : Stmt := top 84
abbrev sLSeen : Stmt := top 85
abbrev sLEntered : Stmt := top 86
abbrev sLaw : Stmt := top 87
abbrev mInit : Stmt := inClass (top 69) 0
abbrev mBook : Stmt := inClass (top 69) 1
abbrev mHistory : Stmt := inClass (top 69) 2
abbrev mEnter : Stmt := inClass (top 69) 3
abbrev mAnswer : Stmt := inClass (top 69) 4
abbrev mWayLines : Stmt := inClass (top 69) 5
abbrev mStockOf : Stmt := inClass (top 69) 6
abbrev mMade : Stmt := inClass (top 69) 8
abbrev mSent : Stmt := inClass (top 69) 9
abbrev mLanded : Stmt := inClass (top 69) 10
abbrev mOtherEvent : Stmt := inClass (top 69) 11
abbrev mEvent : Stmt := inClass (top 69) 12
abbrev mHolding : Stmt := inClass (top 69) 13
abbrev mRecall : Stmt := inClass (top 69) 14
abbrev FnP (K : PySem.W.Frag) (x q : Str) (st : Stmt) (f : Addr) : Prop := ∃ fd, FunD K x q (defArgs st) (defBody st) (defScope st) [] [] f fd
abbrev cS (K : PySem.W.Frag) : Addr := He.ga K "Session"
structure Tx (K : PySem.W.Frag) (mg : Str → Option Value) : Prop where
  gIsNumber : mg "is_number" = some (.ref (He.ga K "is_number"))
  fIsNumber : FnP K "is_number" "is_number" sIsNumber (He.ga K "is_number")
  gIsName : mg "is_name" = some (.ref (He.ga K "is_name"))
  fIsName : FnP K "is_name" "is_name" sIsName (He.ga K "is_name")
  gMoveIndex : mg "move_index" = some (.ref (He.ga K "move_index"))
  fMoveIndex : FnP K "move_index" "move_index" sMoveIndex (He.ga K "move_index")
  gPlus : mg "plus" = some (.ref (He.ga K "plus"))
  fPlus : FnP K "plus" "plus" sPlus (He.ga K "plus")
  gLess : mg "less" = some (.ref (He.ga K "less"))
  fLess : FnP K "less" "less" sLess (He.ga K "less")
  gGreater : mg "greater" = some (.ref (He.ga K "greater"))
  fGreater : FnP K "greater" "greater" sGreater (He.ga K "greater")
  gCovers : mg "covers" = some (.ref (He.ga K "covers"))
  fCovers : FnP K "covers" "covers" sCovers (He.ga K "covers")
  gFitsRange : mg "fits_range" = some (.ref (He.ga K "fits_range"))
  fFitsRange : FnP K "fits_range" "fits_range" sFitsRange (He.ga K "fits_range")
  gSentStock : mg "sent_stock" = some (.ref (He.ga K "sent_stock"))
  fSentStock : FnP K "sent_stock" "sent_stock" sSentStock (He.ga K "sent_stock")
  gFlow : mg "flow" = some (.ref (He.ga K "flow"))
  fFlow : FnP K "flow" "flow" sFlow (He.ga K "flow")
  gIsPossible : mg "is_possible" = some (.ref (He.ga K "is_possible"))
  fIsPossible : FnP K "is_possible" "is_possible" sIsPossible (He.ga K "is_possible")
  gCarry : mg "carry" = some (.ref (He.ga K "carry"))
  fCarry : FnP K "carry" "carry" sCarry (He.ga K "carry")
  gShown : mg "shown" = some (.ref (He.ga K "shown"))
  fShown : FnP K "shown" "shown" sShown (He.ga K "shown")
  gCarryOut : mg "carry_out" = some (.ref (He.ga K "carry_out"))
  fCarryOut : FnP K "carry_out" "carry_out" sCarryOut (He.ga K "carry_out")
  gLogsOf : mg "logs_of" = some (.ref (He.ga K "logs_of"))
  fLogsOf : FnP K "logs_of" "logs_of" sLogsOf (He.ga K "logs_of")
  gMerged : mg "merged" = some (.ref (He.ga K "merged"))
  fMerged : FnP K "merged" "merged" sMerged (He.ga K "merged")
  gIsRecall : mg "is_recall" = some (.ref (He.ga K "is_recall"))
  fIsRecall : FnP K "is_recall" "is_recall" sIsRecall (He.ga K "is_recall")
  gWayOf : mg "way_of" = some (.ref (He.ga K "way_of"))
  fWayOf : FnP K "way_of" "way_of" sWayOf (He.ga K "way_of")
  gStrike : mg "strike" = some (.ref (He.ga K "strike"))
  fStrike : FnP K "strike" "strike" sStrike (He.ga K "strike")
  gKeptNumbers : mg "kept_numbers" = some (.ref (He.ga K "kept_numbers"))
  fKeptNumbers : FnP K "kept_numbers" "kept_numbers" sKeptNumbers (He.ga K "kept_numbers")
  gLacks : mg "lacks" = some (.ref (He.ga K "lacks"))
  fLacks : FnP K "lacks" "lacks" sLacks (He.ga K "lacks")
  gLeastRefunds : mg "least_refunds" = some (.ref (He.ga K "least_refunds"))
  fLeastRefunds : FnP K "least_refunds" "least_refunds" sLeastRefunds (He.ga K "least_refunds")
  gRefunds : mg "refunds" = some (.ref (He.ga K "refunds"))
  fRefunds : FnP K "refunds" "refunds" sRefunds (He.ga K "refunds")
  gPrintItems : mg "print_items" = some (.ref (He.ga K "print_items"))
  fPrintItems : FnP K "print_items" "print_items" sPrintItems (He.ga K "print_items")
  gWritten : mg "written" = some (.ref (He.ga K "written"))
  fWritten : FnP K "written" "written" sWritten (He.ga K "written")
  gPrintStock : mg "print_stock" = some (.ref (He.ga K "print_stock"))
  fPrintStock : FnP K "print_stock" "print_stock" sPrintStock (He.ga K "print_stock")
  gNumberOf : mg "number_of" = some (.ref (He.ga K "number_of"))
  fNumberOf : FnP K "number_of" "number_of" sNumberOf (He.ga K "number_of")
  gReadItems : mg "read_items" = some (.ref (He.ga K "read_items"))
  fReadItems : FnP K "read_items" "read_items" sReadItems (He.ga K "read_items")
  gEntriesOf : mg "entries_of" = some (.ref (He.ga K "entries_of"))
  fEntriesOf : FnP K "entries_of" "entries_of" sEntriesOf (He.ga K "entries_of")
  gReadStock : mg "read_stock" = some (.ref (He.ga K "read_stock"))
  fReadStock : FnP K "read_stock" "read_stock" sReadStock (He.ga K "read_stock")
  gCut : mg "cut" = some (.ref (He.ga K "cut"))
  fCut : FnP K "cut" "cut" sCut (He.ga K "cut")
  gCheckNames : mg "check_names" = some (.ref (He.ga K "check_names"))
  fCheckNames : FnP K "check_names" "check_names" sCheckNames (He.ga K "check_names")
  gNumberIn : mg "number_in" = some (.ref (He.ga K "number_in"))
  fNumberIn : FnP K "number_in" "number_in" sNumberIn (He.ga K "number_in")
  gLMix : mg "_law_mix" = some (.ref (He.ga K "_law_mix"))
  fLMix : FnP K "_law_mix" "_law_mix" sLMix (He.ga K "_law_mix")
  gLNumbers : mg "_law_numbers" = some (.ref (He.ga K "_law_numbers"))
  fLNumbers : FnP K "_law_numbers" "_law_numbers" sLNumbers (He.ga K "_law_numbers")
  gLDraws : mg "_law_draws" = some (.ref (He.ga K "_law_draws"))
  fLDraws : FnP K "_law_draws" "_law_draws" sLDraws (He.ga K "_law_draws")
  gLTake : mg "_law_take" = some (.ref (He.ga K "_law_take"))
  fLTake : FnP K "_law_take" "_law_take" sLTake (He.ga K "_law_take")
  gLNamed : mg "_law_named" = some (.ref (He.ga K "_law_named"))
  fLNamed : FnP K "_law_named" "_law_named" sLNamed (He.ga K "_law_named")
  gLStock : mg "_law_stock" = some (.ref (He.ga K "_law_stock"))
  fLStock : FnP K "_law_stock" "_law_stock" sLStock (He.ga K "_law_stock")
  gLBook : mg "_law_book" = some (.ref (He.ga K "_law_book"))
  fLBook : FnP K "_law_book" "_law_book" sLBook (He.ga K "_law_book")
  gLEvent : mg "_law_event" = some (.ref (He.ga K "_law_event"))
  fLEvent : FnP K "_law_event" "_law_event" sLEvent (He.ga K "_law_event")
  gLFlow : mg "_law_flow" = some (.ref (He.ga K "_law_flow"))
  fLFlow : FnP K "_law_flow" "_law_flow" sLFlow (He.ga K "_law_flow")
  gLDone : mg "_law_done" = some (.ref (He.ga K "_law_done"))
  fLDone : FnP K "_law_done" "_law_done" sLDone (He.ga K "_law_done")
  gLHistory : mg "_law_history" = some (.ref (He.ga K "_law_history"))
  fLHistory : FnP K "_law_history" "_law_history" sLHistory (He.ga K "_law_history")
  gLLine : mg "_law_line" = some (.ref (He.ga K "_law_line"))
  fLLine : FnP K "_law_line" "_law_line" sLLine (He.ga K "_law_line")
  gLSeen : mg "_law_seen" = some (.ref (He.ga K "_law_seen"))
  fLSeen : FnP K "_law_seen" "_law_seen" sLSeen (He.ga K "_law_seen")
  gLEntered : mg "_law_entered" = some (.ref (He.ga K "_law_entered"))
  fLEntered : FnP K "_law_entered" "_law_entered" sLEntered (He.ga K "_law_entered")
  gLaw : mg "law" = some (.ref (He.ga K "law"))
  fLaw : FnP K "law" "law" sLaw (He.ga K "law")
  fMInit : FnP K "__init__" "Session.__init__" mInit (He.ma K (cS K) "__init__")
  fMBook : FnP K "book" "Session.book" mBook (He.ma K (cS K) "book")
  mBook : Meth K (cS K) "book" (He.ma K (cS K) "book")
  fMHistory : FnP K "history" "Session.history" mHistory (He.ma K (cS K) "history")
  mHistory : Meth K (cS K) "history" (He.ma K (cS K) "history")
  fMEnter : FnP K "enter" "Session.enter" mEnter (He.ma K (cS K) "enter")
  mEnter : Meth K (cS K) "enter" (He.ma K (cS K) "enter")
  fMAnswer : FnP K "answer" "Session.answer" mAnswer (He.ma K (cS K) "answer")
  mAnswer : Meth K (cS K) "answer" (He.ma K (cS K) "answer")
  fMWayLines : FnP K "way_lines" "Session.way_lines" mWayLines (He.ma K (cS K) "way_lines")
  mWayLines : Meth K (cS K) "way_lines" (He.ma K (cS K) "way_lines")
  fMStockOf : FnP K "stock_of" "Session.stock_of" mStockOf (He.ma K (cS K) "stock_of")
  mStockOf : Meth K (cS K) "stock_of" (He.ma K (cS K) "stock_of")
  fMMade : FnP K "made" "Session.made" mMade (He.ma K (cS K) "made")
  mMade : Meth K (cS K) "made" (He.ma K (cS K) "made")
  fMSent : FnP K "sent" "Session.sent" mSent (He.ma K (cS K) "sent")
  mSent : Meth K (cS K) "sent" (He.ma K (cS K) "sent")
  fMLanded : FnP K "landed" "Session.landed" mLanded (He.ma K (cS K) "landed")
  mLanded : Meth K (cS K) "landed" (He.ma K (cS K) "landed")
  fMOtherEvent : FnP K "other_event" "Session.other_event" mOtherEvent (He.ma K (cS K) "other_event")
  mOtherEvent : Meth K (cS K) "other_event" (He.ma K (cS K) "other_event")
  fMEvent : FnP K "event" "Session.event" mEvent (He.ma K (cS K) "event")
  mEvent : Meth K (cS K) "event" (He.ma K (cS K) "event")
  fMHolding : FnP K "holding" "Session.holding" mHolding (He.ma K (cS K) "holding")
  mHolding : Meth K (cS K) "holding" (He.ma K (cS K) "holding")
  fMRecall : FnP K "recall" "Session.recall" mRecall (He.ma K (cS K) "recall")
  mRecall : Meth K (cS K) "recall" (He.ma K (cS K) "recall")
  gSession : mg "Session" = some (.ref (cS K))
  mkS : Mk K (cS K) (He.ma K (cS K) "__init__")
  cl : Cls K (cS K)
  n_kept : NoAttr K (cS K) "kept"
  n_events : NoAttr K (cS K) "events"
  n_held : NoAttr K (cS K) "held"
  n_way : NoAttr K (cS K) "way"
  n_tickets : NoAttr K (cS K) "tickets"
  b_len : mg "len" = none
  b_range : mg "range" = none
  b_tuple : mg "tuple" = none
  b_sorted : mg "sorted" = none
  b_isinstance : mg "isinstance" = none
  b_all : mg "all" = none
  b_any : mg "any" = none
  b_str : mg "str" = none
  b_int : mg "int" = none
  b_max : mg "max" = none
  b_min : mg "min" = none
  b_abs : mg "abs" = none
  b_bool : mg "bool" = none
  b_list : mg "list" = none
  c_MAX_EVENTS : ∃ t, mg "MAX_EVENTS" = some (.int 200 t)
  c_MOST : ∃ t, mg "MOST" = some (.int (10 ^ 30) t)
  c_SMALL : ∃ t, mg "SMALL" = some (.str "abcdefghijklmnopqrstuvwxyz" t)
  c_DIGITS : ∃ t, mg "DIGITS" = some (.str "0123456789" t)
  gWrong : mg "Wrong" = some (.ref (He.ga K "Wrong"))
  kWrong : PySem.W.keepIn K (.ref (He.ga K "Wrong")) = true
  gBadText : mg "BadText" = some (.ref (He.ga K "BadText"))
  kBadText : PySem.W.keepIn K (.ref (He.ga K "BadText")) = true
  gRES : mg "RESERVED" = some (.ref (He.ga K "RESERVED"))
  sRES : ∀ H : Hp, SqT K H (He.ga K "RESERVED") [.str "kinds", .str "nothing", .str "endless", .str "x"]
/-! the facts that are looked at behind the top -/
def fa0 : List He.Fa := [.glo "is_number", .glo "is_name", .glo "move_index", .glo "plus", .glo "less", .glo "greater", .glo "covers", .glo "fits_range", .glo "sent_stock", .glo "flow", .glo "is_possible", .glo "carry", .glo "shown", .glo "carry_out", .glo "logs_of", .glo "merged", .glo "is_recall", .glo "way_of", .glo "strike", .glo "kept_numbers", .glo "lacks", .glo "least_refunds", .glo "refunds", .glo "print_items", .glo "written", .glo "print_stock", .glo "number_of", .glo "read_items", .glo "entries_of", .glo "read_stock"]
def fa1 : List He.Fa := [.glo "cut", .glo "check_names", .glo "number_in", .glo "_law_mix", .glo "_law_numbers", .glo "_law_draws", .glo "_law_take", .glo "_law_named", .glo "_law_stock", .glo "_law_book", .glo "_law_event", .glo "_law_flow", .glo "_law_done", .glo "_law_history", .glo "_law_line", .glo "_law_seen", .glo "_law_entered", .glo "law", .meth "Session" "book", .meth "Session" "history", .meth "Session" "enter", .meth "Session" "answer", .meth "Session" "way_lines", .meth "Session" "stock_of", .meth "Session" "made", .meth "Session" "sent", .meth "Session" "landed", .meth "Session" "other_event", .meth "Session" "event", .meth "Session" "holding"]
def fa2 : List He.Fa := [.meth "Session" "recall", .glo "Session", .mkr "Session", .cls "Session", .noat "Session" "kept", .noat "Session" "events", .noat "Session" "held", .noat "Session" "way", .noat "Session" "tickets", .free "len", .free "range", .free "tuple", .free "sorted", .free "isinstance", .free "all", .free "any", .free "str", .free "int", .free "max", .free "min", .free "abs", .free "bool", .free "list", .int "MAX_EVENTS" 200, .int "MOST" (10 ^ 30), .str "SMALL" "abcdefghijklmnopqrstuvwxyz", .str "DIGITS" "0123456789", .glo "Wrong", .keep "Wrong", .glo "BadText"]
def fa3 : List He.Fa := [.keep "BadText", .glo "RESERVED"]
def fa : List He.Fa := fa0 ++ fa1 ++ fa2 ++ fa3
def dIsNumber : He.DefD := ⟨("is_number", none), "is_number", "is_number", defArgs sIsNumber, defBody sIsNumber, defScope sIsNumber, [], []⟩
def dIsName : He.DefD := ⟨("is_name", none), "is_name", "is_name", defArgs sIsName, defBody sIsName, defScope sIsName, [], []⟩
def dMoveIndex : He.DefD := ⟨("move_index", none), "move_index", "move_index", defArgs sMoveIndex, defBody sMoveIndex, defScope sMoveIndex, [], []⟩
def dPlus : He.DefD := ⟨("plus", none), "plus", "plus", defArgs sPlus, defBody sPlus, defScope sPlus, [], []⟩
def dLess : He.DefD := ⟨("less", none), "less", "less", defArgs sLess, defBody sLess, defScope sLess, [], []⟩
def dGreater : He.DefD := ⟨("greater", none), "greater", "greater", defArgs sGreater, defBody sGreater, defScope sGreater, [], []⟩
def dCovers : He.DefD := ⟨("covers", none), "covers", "covers", defArgs sCovers, defBody sCovers, defScope sCovers, [], []⟩
def dFitsRange : He.DefD := ⟨("fits_range", none), "fits_range", "fits_range", defArgs sFitsRange, defBody sFitsRange, defScope sFitsRange, [], []⟩
def dSentStock : He.DefD := ⟨("sent_stock", none), "sent_stock", "sent_stock", defArgs sSentStock, defBody sSentStock, defScope sSentStock, [], []⟩
def dFlow : He.DefD := ⟨("flow", none), "flow", "flow", defArgs sFlow, defBody sFlow, defScope sFlow, [], []⟩
def dIsPossible : He.DefD := ⟨("is_possible", none), "is_possible", "is_possible", defArgs sIsPossible, defBody sIsPossible, defScope sIsPossible, [], []⟩
def dCarry : He.DefD := ⟨("carry", none), "carry", "carry", defArgs sCarry, defBody sCarry, defScope sCarry, [], []⟩
def dShown : He.DefD := ⟨("shown", none), "shown", "shown", defArgs sShown, defBody sShown, defScope sShown, [], []⟩
def dCarryOut : He.DefD := ⟨("carry_out", none), "carry_out", "carry_out", defArgs sCarryOut, defBody sCarryOut, defScope sCarryOut, [], []⟩
def dLogsOf : He.DefD := ⟨("logs_of", none), "logs_of", "logs_of", defArgs sLogsOf, defBody sLogsOf, defScope sLogsOf, [], []⟩
def dMerged : He.DefD := ⟨("merged", none), "merged", "merged", defArgs sMerged, defBody sMerged, defScope sMerged, [], []⟩
def dIsRecall : He.DefD := ⟨("is_recall", none), "is_recall", "is_recall", defArgs sIsRecall, defBody sIsRecall, defScope sIsRecall, [], []⟩
def dWayOf : He.DefD := ⟨("way_of", none), "way_of", "way_of", defArgs sWayOf, defBody sWayOf, defScope sWayOf, [], []⟩
def dStrike : He.DefD := ⟨("strike", none), "strike", "strike", defArgs sStrike, defBody sStrike, defScope sStrike, [], []⟩
def dKeptNumbers : He.DefD := ⟨("kept_numbers", none), "kept_numbers", "kept_numbers", defArgs sKeptNumbers, defBody sKeptNumbers, defScope sKeptNumbers, [], []⟩
def dLacks : He.DefD := ⟨("lacks", none), "lacks", "lacks", defArgs sLacks, defBody sLacks, defScope sLacks, [], []⟩
def dLeastRefunds : He.DefD := ⟨("least_refunds", none), "least_refunds", "least_refunds", defArgs sLeastRefunds, defBody sLeastRefunds, defScope sLeastRefunds, [], []⟩
def dRefunds : He.DefD := ⟨("refunds", none), "refunds", "refunds", defArgs sRefunds, defBody sRefunds, defScope sRefunds, [], []⟩
def dPrintItems : He.DefD := ⟨("print_items", none), "print_items", "print_items", defArgs sPrintItems, defBody sPrintItems, defScope sPrintItems, [], []⟩
def dWritten : He.DefD := ⟨("written", none), "written", "written", defArgs sWritten, defBody sWritten, defScope sWritten, [], []⟩
def dPrintStock : He.DefD := ⟨("print_stock", none), "print_stock", "print_stock", defArgs sPrintStock, defBody sPrintStock, defScope sPrintStock, [], []⟩
def dNumberOf : He.DefD := ⟨("number_of", none), "number_of", "number_of", defArgs sNumberOf, defBody sNumberOf, defScope sNumberOf, [], []⟩
def dReadItems : He.DefD := ⟨("read_items", none), "read_items", "read_items", defArgs sReadItems, defBody sReadItems, defScope sReadItems, [], []⟩
def dEntriesOf : He.DefD := ⟨("entries_of", none), "entries_of", "entries_of", defArgs sEntriesOf, defBody sEntriesOf, defScope sEntriesOf, [], []⟩
def dReadStock : He.DefD := ⟨("read_stock", none), "read_stock", "read_stock", defArgs sReadStock, defBody sReadStock, defScope sReadStock, [], []⟩
def dCut : He.DefD := ⟨("cut", none), "cut", "cut", defArgs sCut, defBody sCut, defScope sCut, [], []⟩
def dCheckNames : He.DefD := ⟨("check_names", none), "check_names", "check_names", defArgs sCheckNames, defBody sCheckNames, defScope sCheckNames, [], []⟩
def dNumberIn : He.DefD := ⟨("number_in", none), "number_in", "number_in", defArgs sNumberIn, defBody sNumberIn, defScope sNumberIn, [], []⟩
def dLMix : He.DefD := ⟨("_law_mix", none), "_law_mix", "_law_mix", defArgs sLMix, defBody sLMix, defScope sLMix, [], []⟩
def dLNumbers : He.DefD := ⟨("_law_numbers", none), "_law_numbers", "_law_numbers", defArgs sLNumbers, defBody sLNumbers, defScope sLNumbers, [], []⟩
def dLDraws : He.DefD := ⟨("_law_draws", none), "_law_draws", "_law_draws", defArgs sLDraws, defBody sLDraws, defScope sLDraws, [], []⟩
def dLTake : He.DefD := ⟨("_law_take", none), "_law_take", "_law_take", defArgs sLTake, defBody sLTake, defScope sLTake, [], []⟩
def dLNamed : He.DefD := ⟨("_law_named", none), "_law_named", "_law_named", defArgs sLNamed, defBody sLNamed, defScope sLNamed, [], []⟩
def dLStock : He.DefD := ⟨("_law_stock", none), "_law_stock", "_law_stock", defArgs sLStock, defBody sLStock, defScope sLStock, [], []⟩
def dLBook : He.DefD := ⟨("_law_book", none), "_law_book", "_law_book", defArgs sLBook, defBody sLBook, defScope sLBook, [], []⟩
def dLEvent : He.DefD := ⟨("_law_event", none), "_law_event", "_law_event", defArgs sLEvent, defBody sLEvent, defScope sLEvent, [], []⟩
def dLFlow : He.DefD := ⟨("_law_flow", none), "_law_flow", "_law_flow", defArgs sLFlow, defBody sLFlow, defScope sLFlow, [], []⟩
def dLDone : He.DefD := ⟨("_law_done", none), "_law_done", "_law_done", defArgs sLDone, defBody sLDone, defScope sLDone, [], []⟩
def dLHistory : He.DefD := ⟨("_law_history", none), "_law_history", "_law_history", defArgs sLHistory, defBody sLHistory, defScope sLHistory, [], []⟩
def dLLine : He.DefD := ⟨("_law_line", none), "_law_line", "_law_line", defArgs sLLine, defBody sLLine, defScope sLLine, [], []⟩
def dLSeen : He.DefD := ⟨("_law_seen", none), "_law_seen", "_law_seen", defArgs sLSeen, defBody sLSeen, defScope sLSeen, [], []⟩
def dLEntered : He.DefD := ⟨("_law_entered", none), "_law_entered", "_law_entered", defArgs sLEntered, defBody sLEntered, defScope sLEntered, [], []⟩
def dLaw : He.DefD := ⟨("law", none), "law", "law", defArgs sLaw, defBody sLaw, defScope sLaw, [], []⟩
def dMInit : He.DefD := ⟨("Session", some "__init__"), "__init__", "Session.__init__", defArgs mInit, defBody mInit, defScope mInit, [], []⟩
def dMBook : He.DefD := ⟨("Session", some "book"), "book", "Session.book", defArgs mBook, defBody mBook, defScope mBook, [], []⟩
def dMHistory : He.DefD := ⟨("Session", some "history"), "history", "Session.history", defArgs mHistory, defBody mHistory, defScope mHistory, [], []⟩
def dMEnter : He.DefD := ⟨("Session", some "enter"), "enter", "Session.enter", defArgs mEnter, defBody mEnter, defScope mEnter, [], []⟩
def dMAnswer : He.DefD := ⟨("Session", some "answer"), "answer", "Session.answer", defArgs mAnswer, defBody mAnswer, defScope mAnswer, [], []⟩
def dMWayLines : He.DefD := ⟨("Session", some "way_lines"), "way_lines", "Session.way_lines", defArgs mWayLines, defBody mWayLines, defScope mWayLines, [], []⟩
def dMStockOf : He.DefD := ⟨("Session", some "stock_of"), "stock_of", "Session.stock_of", defArgs mStockOf, defBody mStockOf, defScope mStockOf, [], []⟩
def dMMade : He.DefD := ⟨("Session", some "made"), "made", "Session.made", defArgs mMade, defBody mMade, defScope mMade, [], []⟩
def dMSent : He.DefD := ⟨("Session", some "sent"), "sent", "Session.sent", defArgs mSent, defBody mSent, defScope mSent, [], []⟩
def dMLanded : He.DefD := ⟨("Session", some "landed"), "landed", "Session.landed", defArgs mLanded, defBody mLanded, defScope mLanded, [], []⟩
def dMOtherEvent : He.DefD := ⟨("Session", some "other_event"), "other_event", "Session.other_event", defArgs mOtherEvent, defBody mOtherEvent, defScope mOtherEvent, [], []⟩
def dMEvent : He.DefD := ⟨("Session", some "event"), "event", "Session.event", defArgs mEvent, defBody mEvent, defScope mEvent, [], []⟩
def dMHolding : He.DefD := ⟨("Session", some "holding"), "holding", "Session.holding", defArgs mHolding, defBody mHolding, defScope mHolding, [], []⟩
def dMRecall : He.DefD := ⟨("Session", some "recall"), "recall", "Session.recall", defArgs mRecall, defBody mRecall, defScope mRecall, [], []⟩
def fn0 : List He.DefD := [dIsNumber, dIsName, dMoveIndex, dPlus, dLess, dGreater, dCovers, dFitsRange, dSentStock, dFlow, dIsPossible, dCarry, dShown, dCarryOut, dLogsOf, dMerged, dIsRecall, dWayOf, dStrike, dKeptNumbers, dLacks, dLeastRefunds, dRefunds, dPrintItems, dWritten, dPrintStock, dNumberOf, dReadItems, dEntriesOf, dReadStock]
def fn1 : List He.DefD := [dCut, dCheckNames, dNumberIn, dLMix, dLNumbers, dLDraws, dLTake, dLNamed, dLStock, dLBook, dLEvent, dLFlow, dLDone, dLHistory, dLLine, dLSeen, dLEntered, dLaw, dMInit, dMBook, dMHistory, dMEnter, dMAnswer, dMWayLines, dMStockOf, dMMade, dMSent, dMLanded, dMOtherEvent, dMEvent]
def fn2 : List He.DefD := [dMHolding, dMRecall]
def fn : List He.DefD := fn0 ++ fn1 ++ fn2
def resv : List He.Dv := [.str "kinds", .str "nothing", .str "endless", .str "x"]
def exB (K : PySem.W.Frag) : Bool := He.tupB K "RESERVED" resv
theorem tx_of {K : PySem.W.Frag} {h : Heap} {mg : Str → Option Value} (X : K.In h) (G : h.Ns mainGlobals mg) (c : He.SaysD fa fn K) (r : exB K = true) : Tx K mg where
  fIsNumber := c.def_ 0 (d := dIsNumber) rfl
  fIsName := c.def_ 1 (d := dIsName) rfl
  fMoveIndex := c.def_ 2 (d := dMoveIndex) rfl
  fPlus := c.def_ 3 (d := dPlus) rfl
  fLess := c.def_ 4 (d := dLess) rfl
  fGreater := c.def_ 5 (d := dGreater) rfl
  fCovers := c.def_ 6 (d := dCovers) rfl
  fFitsRange := c.def_ 7 (d := dFitsRange) rfl
  fSentStock := c.def_ 8 (d := dSentStock) rfl
  fFlow := c.def_ 9 (d := dFlow) rfl
  fIsPossible := c.def_ 10 (d := dIsPossible) rfl
  fCarry := c.def_ 11 (d := dCarry) rfl
  fShown := c.def_ 12 (d := dShown) rfl
  fCarryOut := c.def_ 13 (d := dCarryOut) rfl
  fLogsOf := c.def_ 14 (d := dLogsOf) rfl
  fMerged := c.def_ 15 (d := dMerged) rfl
  fIsRecall := c.def_ 16 (d := dIsRecall) rfl
  fWayOf := c.def_ 17 (d := dWayOf) rfl
  fStrike := c.def_ 18 (d := dStrike) rfl
  fKeptNumbers := c.def_ 19 (d := dKeptNumbers) rfl
  fLacks := c.def_ 20 (d := dLacks) rfl
  fLeastRefunds := c.def_ 21 (d := dLeastRefunds) rfl
  fRefunds := c.def_ 22 (d := dRefunds) rfl
  fPrintItems := c.def_ 23 (d := dPrintItems) rfl
  fWritten := c.def_ 24 (d := dWritten) rfl
  fPrintStock := c.def_ 25 (d := dPrintStock) rfl
  fNumberOf := c.def_ 26 (d := dNumberOf) rfl
  fReadItems := c.def_ 27 (d := dReadItems) rfl
  fEntriesOf := c.def_ 28 (d := dEntriesOf) rfl
  fReadStock := c.def_ 29 (d := dReadStock) rfl
  fCut := c.def_ 30 (d := dCut) rfl
  fCheckNames := c.def_ 31 (d := dCheckNames) rfl
  fNumberIn := c.def_ 32 (d := dNumberIn) rfl
  fLMix := c.def_ 33 (d := dLMix) rfl
  fLNumbers := c.def_ 34 (d := dLNumbers) rfl
  fLDraws := c.def_ 35 (d := dLDraws) rfl
  fLTake := c.def_ 36 (d := dLTake) rfl
  fLNamed := c.def_ 37 (d := dLNamed) rfl
  fLStock := c.def_ 38 (d := dLStock) rfl
  fLBook := c.def_ 39 (d := dLBook) rfl
  fLEvent := c.def_ 40 (d := dLEvent) rfl
  fLFlow := c.def_ 41 (d := dLFlow) rfl
  fLDone := c.def_ 42 (d := dLDone) rfl
  fLHistory := c.def_ 43 (d := dLHistory) rfl
  fLLine := c.def_ 44 (d := dLLine) rfl
  fLSeen := c.def_ 45 (d := dLSeen) rfl
  fLEntered := c.def_ 46 (d := dLEntered) rfl
  fLaw := c.def_ 47 (d := dLaw) rfl
  fMInit := c.def_ 48 (d := dMInit) rfl
  fMBook := c.def_ 49 (d := dMBook) rfl
  fMHistory := c.def_ 50 (d := dMHistory) rfl
  fMEnter := c.def_ 51 (d := dMEnter) rfl
  fMAnswer := c.def_ 52 (d := dMAnswer) rfl
  fMWayLines := c.def_ 53 (d := dMWayLines) rfl
  fMStockOf := c.def_ 54 (d := dMStockOf) rfl
  fMMade := c.def_ 55 (d := dMMade) rfl
  fMSent := c.def_ 56 (d := dMSent) rfl
  fMLanded := c.def_ 57 (d := dMLanded) rfl
  fMOtherEvent := c.def_ 58 (d := dMOtherEvent) rfl
  fMEvent := c.def_ 59 (d := dMEvent) rfl
  fMHolding := c.def_ 60 (d := dMHolding) rfl
  fMRecall := c.def_ 61 (d := dMRecall) rfl
  gIsNumber := He.glo_ok X G (c.fact 0 (f := .glo "is_number") rfl)
  gIsName := He.glo_ok X G (c.fact 1 (f := .glo "is_name") rfl)
  gMoveIndex := He.glo_ok X G (c.fact 2 (f := .glo "move_index") rfl)
  gPlus := He.glo_ok X G (c.fact 3 (f := .glo "plus") rfl)
  gLess := He.glo_ok X G (c.fact 4 (f := .glo "less") rfl)
  gGreater := He.glo_ok X G (c.fact 5 (f := .glo "greater") rfl)
  gCovers := He.glo_ok X G (c.fact 6 (f := .glo "covers") rfl)
  gFitsRange := He.glo_ok X G (c.fact 7 (f := .glo "fits_range") rfl)
  gSentStock := He.glo_ok X G (c.fact 8 (f := .glo "sent_stock") rfl)
  gFlow := He.glo_ok X G (c.fact 9 (f := .glo "flow") rfl)
  gIsPossible := He.glo_ok X G (c.fact 10 (f := .glo "is_possible") rfl)
  gCarry := He.glo_ok X G (c.fact 11 (f := .glo "carry") rfl)
  gShown := He.glo_ok X G (c.fact 12 (f := .glo "shown") rfl)
  gCarryOut := He.glo_ok X G (c.fact 13 (f := .glo "carry_out") rfl)
  gLogsOf := He.glo_ok X G (c.fact 14 (f := .glo "logs_of") rfl)
  gMerged := He.glo_ok X G (c.fact 15 (f := .glo "merged") rfl)
  gIsRecall := He.glo_ok X G (c.fact 16 (f := .glo "is_recall") rfl)
  gWayOf := He.glo_ok X G (c.fact 17 (f := .glo "way_of") rfl)
  gStrike := He.glo_ok X G (c.fact 18 (f := .glo "strike") rfl)
  gKeptNumbers := He.glo_ok X G (c.fact 19 (f := .glo "kept_numbers") rfl)
  gLacks := He.glo_ok X G (c.fact 20 (f := .glo "lacks") rfl)
  gLeastRefunds := He.glo_ok X G (c.fact 21 (f := .glo "least_refunds") rfl)
  gRefunds := He.glo_ok X G (c.fact 22 (f := .glo "refunds") rfl)
  gPrintItems := He.glo_ok X G (c.fact 23 (f := .glo "print_items") rfl)
  gWritten := He.glo_ok X G (c.fact 24 (f := .glo "written") rfl)
  gPrintStock := He.glo_ok X G (c.fact 25 (f := .glo "print_stock") rfl)
  gNumberOf := He.glo_ok X G (c.fact 26 (f := .glo "number_of") rfl)
  gReadItems := He.glo_ok X G (c.fact 27 (f := .glo "read_items") rfl)
  gEntriesOf := He.glo_ok X G (c.fact 28 (f := .glo "entries_of") rfl)
  gReadStock := He.glo_ok X G (c.fact 29 (f := .glo "read_stock") rfl)
  gCut := He.glo_ok X G (c.fact 30 (f := .glo "cut") rfl)
  gCheckNames := He.glo_ok X G (c.fact 31 (f := .glo "check_names") rfl)
  gNumberIn := He.glo_ok X G (c.fact 32 (f := .glo "number_in") rfl)
  gLMix := He.glo_ok X G (c.fact 33 (f := .glo "_law_mix") rfl)
  gLNumbers := He.glo_ok X G (c.fact 34 (f := .glo "_law_numbers") rfl)
  gLDraws := He.glo_ok X G (c.fact 35 (f := .glo "_law_draws") rfl)
  gLTake := He.glo_ok X G (c.fact 36 (f := .glo "_law_take") rfl)
  gLNamed := He.glo_ok X G (c.fact 37 (f := .glo "_law_named") rfl)
  gLStock := He.glo_ok X G (c.fact 38 (f := .glo "_law_stock") rfl)
  gLBook := He.glo_ok X G (c.fact 39 (f := .glo "_law_book") rfl)
  gLEvent := He.glo_ok X G (c.fact 40 (f := .glo "_law_event") rfl)
  gLFlow := He.glo_ok X G (c.fact 41 (f := .glo "_law_flow") rfl)
  gLDone := He.glo_ok X G (c.fact 42 (f := .glo "_law_done") rfl)
  gLHistory := He.glo_ok X G (c.fact 43 (f := .glo "_law_history") rfl)
  gLLine := He.glo_ok X G (c.fact 44 (f := .glo "_law_line") rfl)
  gLSeen := He.glo_ok X G (c.fact 45 (f := .glo "_law_seen") rfl)
  gLEntered := He.glo_ok X G (c.fact 46 (f := .glo "_law_entered") rfl)
  gLaw := He.glo_ok X G (c.fact 47 (f := .glo "law") rfl)
  mBook := He.meth_ok (c.fact 48 (f := .meth "Session" "book") rfl)
  mHistory := He.meth_ok (c.fact 49 (f := .meth "Session" "history") rfl)
  mEnter := He.meth_ok (c.fact 50 (f := .meth "Session" "enter") rfl)
  mAnswer := He.meth_ok (c.fact 51 (f := .meth "Session" "answer") rfl)
  mWayLines := He.meth_ok (c.fact 52 (f := .meth "Session" "way_lines") rfl)
  mStockOf := He.meth_ok (c.fact 53 (f := .meth "Session" "stock_of") rfl)
  mMade := He.meth_ok (c.fact 54 (f := .meth "Session" "made") rfl)
  mSent := He.meth_ok (c.fact 55 (f := .meth "Session" "sent") rfl)
  mLanded := He.meth_ok (c.fact 56 (f := .meth "Session" "landed") rfl)
  mOtherEvent := He.meth_ok (c.fact 57 (f := .meth "Session" "other_event") rfl)
  mEvent := He.meth_ok (c.fact 58 (f := .meth "Session" "event") rfl)
  mHolding := He.meth_ok (c.fact 59 (f := .meth "Session" "holding") rfl)
  mRecall := He.meth_ok (c.fact 60 (f := .meth "Session" "recall") rfl)
  gSession := He.glo_ok X G (c.fact 61 (f := .glo "Session") rfl)
  mkS := He.mkr_ok (c.fact 62 (f := .mkr "Session") rfl)
  cl := He.cls_ok (c.fact 63 (f := .cls "Session") rfl)
  n_kept := He.noat_ok (c.fact 64 (f := .noat "Session" "kept") rfl)
  n_events := He.noat_ok (c.fact 65 (f := .noat "Session" "events") rfl)
  n_held := He.noat_ok (c.fact 66 (f := .noat "Session" "held") rfl)
  n_way := He.noat_ok (c.fact 67 (f := .noat "Session" "way") rfl)
  n_tickets := He.noat_ok (c.fact 68 (f := .noat "Session" "tickets") rfl)
  b_len := He.free_ok X G (c.fact 69 (f := .free "len") rfl)
  b_range := He.free_ok X G (c.fact 70 (f := .free "range") rfl)
  b_tuple := He.free_ok X G (c.fact 71 (f := .free "tuple") rfl)
  b_sorted := He.free_ok X G (c.fact 72 (f := .free "sorted") rfl)
  b_isinstance := He.free_ok X G (c.fact 73 (f := .free "isinstance") rfl)
  b_all := He.free_ok X G (c.fact 74 (f := .free "all") rfl)
  b_any := He.free_ok X G (c.fact 75 (f := .free "any") rfl)
  b_str := He.free_ok X G (c.fact 76 (f := .free "str") rfl)
  b_int := He.free_ok X G (c.fact 77 (f := .free "int") rfl)
  b_max := He.free_ok X G (c.fact 78 (f := .free "max") rfl)
  b_min := He.free_ok X G (c.fact 79 (f := .free "min") rfl)
  b_abs := He.free_ok X G (c.fact 80 (f := .free "abs") rfl)
  b_bool := He.free_ok X G (c.fact 81 (f := .free "bool") rfl)
  b_list := He.free_ok X G (c.fact 82 (f := .free "list") rfl)
  c_MAX_EVENTS := He.int_ok X G (c.fact 83 (f := .int "MAX_EVENTS" 200) rfl)
  c_MOST := He.int_ok X G (c.fact 84 (f := .int "MOST" (10 ^ 30)) rfl)
  c_SMALL := He.str_ok X G (c.fact 85 (f := .str "SMALL" "abcdefghijklmnopqrstuvwxyz") rfl)
  c_DIGITS := He.str_ok X G (c.fact 86 (f := .str "DIGITS" "0123456789") rfl)
  gWrong := He.glo_ok X G (c.fact 87 (f := .glo "Wrong") rfl)
  kWrong := He.keep_ok (c.fact 88 (f := .keep "Wrong") rfl)
  gBadText := He.glo_ok X G (c.fact 89 (f := .glo "BadText") rfl)
  kBadText := He.keep_ok (c.fact 90 (f := .keep "BadText") rfl)
  gRES := He.glo_ok X G (c.fact 91 (f := .glo "RESERVED") rfl)
  sRES := fun H => He.tupB_ok r H
end K81
/-! ## K1head -/
set_option Elab.async false
set_option linter.all false
set_option maxRecDepth 100000
set_option maxHeartbeats 0
namespace K81H
open PySem PySem.Spec PyProof.Rows L2 K81
def nm0 : List Str := ["SMALL", "DIGITS", "RESERVED", "MAX_MOVES", "MAX_ENTRY", "MAX_NESTED", "is_number", "is_name", "move_index", "MintError", "BadText", "NotPossible", "BadLogs", "plus", "less", "times", "greater", "covers", "can_do", "done"]
def nm1 : List Str := ["need_and_change", "need", "length", "end_of_run", "rounds", "stops_at", "MAX_EVENTS", "fits_range", "sent_stock", "flow", "is_possible", "carry", "shown", "carry_out", "logs_of", "merged", "is_recall", "way_of", "strike", "kept_numbers"]
def nm2 : List Str := ["lacks", "least_refunds", "refunds", "MOST", "print_items", "written", "print_stock", "number_of", "read_items", "entries_of", "range_of", "ranges_of", "read_move", "read_stock", "split_steps", "step_of", "steps_of", "read_run", "Wrong", "cut"]
def nm3 : List Str := ["check_names", "number_in", "Session", "_law_mix", "_law_numbers", "_law_draws", "_law_take", "_law_named", "_law_stock", "_law_book", "_law_event", "_law_flow", "_law_done", "_law_history", "_law_shown", "_law_way", "_law_line", "_law_seen", "_law_entered"]
def names : List Str := nm0 ++ nm1 ++ nm2 ++ nm3
abbrev R : PySem.W.OpenRow := PySem.W.OpenLaw.row PySem.Challenge.rw_mintlaw_k81_whole_sessions_tell_historie
/-! the objects that are looked at, by their places -/
def ad0 : List Addr := [3, 6, 4, 15, 22, 27, 34, 44, 66, 87, 99, 106, 111, 116, 121, 128, 135, 142, 149, 156, 161, 168, 175, 182, 189, 196, 203, 210, 217, 222, 227, 234, 239, 244, 249, 256, 261, 268, 275, 282]
def ad1 : List Addr := [287, 294, 299, 304, 311, 318, 323, 330, 337, 344, 351, 358, 365, 372, 391, 401, 406, 413, 543, 554, 561, 568, 575, 580, 585, 590, 595, 600, 605, 612, 617, 622, 629, 634, 641, 646, 0, 21, 26, 33]
def ad2 : List Addr := [43, 65, 86, 98, 105, 110, 115, 120, 127, 134, 141, 148, 155, 160, 167, 174, 181, 188, 195, 202, 209, 216, 221, 226, 233, 238, 243, 248, 255, 260, 267, 274, 281, 286, 293, 298, 303, 310, 317, 322]
def ad3 : List Addr := [329, 336, 343, 350, 357, 364, 371, 390, 400, 405, 412, 542, 553, 560, 567, 574, 579, 584, 589, 594, 599, 604, 611, 616, 621, 628, 633, 640, 645, 16, 17, 18, 19, 20, 23, 24, 25, 28, 29, 30]
def ad4 : List Addr := [31, 32, 42, 45, 63, 64, 84, 85, 97, 102, 103, 104, 107, 108, 109, 112, 113, 114, 117, 118, 119, 122, 123, 124, 125, 126, 129, 130, 131, 132, 133, 136, 137, 138, 139, 140, 143, 144, 145, 146]
def ad5 : List Addr := [147, 150, 151, 152, 153, 154, 157, 158, 159, 162, 163, 164, 165, 166, 169, 170, 171, 172, 173, 176, 177, 178, 179, 180, 183, 184, 185, 186, 187, 190, 191, 192, 193, 194, 197, 198, 199, 200, 201, 204]
def ad6 : List Addr := [205, 206, 207, 208, 211, 212, 213, 214, 215, 218, 219, 220, 223, 224, 225, 228, 229, 230, 231, 232, 235, 236, 237, 240, 241, 242, 245, 246, 247, 250, 251, 252, 253, 254, 257, 258, 259, 262, 263, 264]
def ad7 : List Addr := [265, 266, 269, 270, 271, 272, 273, 276, 277, 278, 279, 280, 283, 284, 285, 288, 289, 290, 291, 292, 295, 296, 297, 300, 301, 302, 305, 306, 307, 308, 309, 312, 313, 314, 315, 316, 319, 320, 321, 324]
def ad8 : List Addr := [325, 326, 327, 328, 331, 332, 333, 334, 335, 338, 339, 340, 341, 342, 345, 346, 347, 348, 349, 352, 353, 354, 355, 356, 359, 360, 361, 362, 363, 366, 367, 368, 369, 370, 388, 389, 392, 395, 396, 397]
def ad9 : List Addr := [398, 399, 402, 403, 404, 407, 408, 409, 410, 411, 427, 434, 441, 448, 455, 460, 467, 474, 481, 488, 495, 502, 509, 516, 521, 528, 535, 540, 541, 544, 545, 548, 549, 550, 551, 552, 555, 556, 557, 558]
def ad10 : List Addr := [559, 562, 563, 564, 565, 566, 569, 570, 571, 572, 573, 576, 577, 578, 581, 582, 583, 586, 587, 588, 591, 592, 593, 596, 597, 598, 601, 602, 603, 606, 607, 608, 609, 610, 613, 614, 615, 618, 619, 620]
def ad11 : List Addr := [623, 624, 625, 626, 627, 630, 631, 632, 635, 636, 637, 638, 639, 642, 643, 644, 62, 51, 83, 72, 387, 376, 426, 433, 440, 447, 454, 459, 466, 473, 480, 487, 494, 501, 508, 515, 520, 527, 534, 539]
def ads : List Addr := ad0 ++ ad1 ++ ad2 ++ ad3 ++ ad4 ++ ad5 ++ ad6 ++ ad7 ++ ad8 ++ ad9 ++ ad10 ++ ad11
def obsY (g : Addr → Option Obj) : He.AlX := (He.obsT fa fn [] (He.frT g ads), exB (He.frT g ads))
def hk : PySem.W.Hook where
  α := He.AlX
  obs := fun s => obsY s.heap.get?
  val := fun w => He.valX fn [] w
  says := fun w h => ∃ K : PySem.W.Frag, K.In h ∧ He.SaysX fa fn [] [] exB w h K
  of := fun _ _ e => ⟨_, He.frT_in, ⟨congrArg (fun z : He.AlX => z.1) e, congrArg (fun z : He.AlX => z.2) e, fun _ h => (nomatch h), fun _ h => (nomatch h), fun _ h => (nomatch h)⟩⟩
  keeps := fun _ _ _ ⟨K, hK, c⟩ k => ⟨K, PySem.W.Frag.In.keeps hK k, ⟨c.t, c.more, c.hd, c.out, fun p hp => k _ _ (c.empty p hp)⟩⟩
def ob (s : PySem.W.SharedT) : He.AlX := obsY (HandSHeadRun.getT s)
theorem ob_eq (s : PySem.W.SharedT) : ob s = hk.obs s.abs := by
  have e : HandSHeadRun.getT s = s.abs.heap.get? := funext (HandSHeadRun.getT_eq s)
  show obsY (HandSHeadRun.getT s) = obsY s.abs.heap.get?
  rw [e]
theorem run (w : World) : HandSHeadRun.RunEq R (PySem.W.view R.prog [87]) hk ob 30000 names w := by
  intro os
  kernel_rfl
end K81H
/-! ## K2end -/
set_option Elab.async false
set_option linter.all false
set_option maxRecDepth 100000
set_option maxHeartbeats 0
/-! What is left of the statement behind the top: the promise of `law` over the facts. -/
namespace K81H
section
open PySem PySem.Spec PyProof.Rows L2 K81
def spLaw (K : PySem.W.Frag) : Sp := fun vs H Q _ => ∃ (a : Addr) (ns : List Int), vs = [.ref a] ∧ SqL K H a (ns.map V.int) ∧ ns.length ≤ 63 ∧ ∀ H', Q (.bl true) H'
def LawFacts : Prop := ∀ (w : World) (K : PySem.W.Frag) (h : Heap) (mg : Str → Option Value) (f : Addr), K.In h → h.Ns mainGlobals mg → mg ("law" : Str) = some (.ref f) → He.SaysD fa fn K → exB K = true →
    ∃ fd : FuncData, (∀ (s : Shared) (v : Value), BindsTo s fd ⟨[v], []⟩ [("_law_script", v)]) ∧ ∀ base : Heap, K.In base → base.Ns mainGlobals mg → FnOk (PySem.Challenge.rw_mintlaw_k81_whole_sessions_tell_historie).prog w K mg base CX0 40 f fd ["_law_script"] (spLaw K)
end
section
open PySem PySem.W PySem.Calls PyProof.Rows
theorem ends (F : LawFacts) : PySem.Challenge.rw_mintlaw_k81_whole_sessions_tell_historie.Holds := by
  w_on; o_law
  refine HandSHeadRun.head_any (r := OpenLaw.row PySem.Challenge.rw_mintlaw_k81_whole_sessions_tell_historie) (q := view (OpenLaw.row PySem.Challenge.rw_mintlaw_k81_whole_sessions_tell_historie).prog [87]) (H := K81H.hk) (ob := K81H.ob) (M := 30000) (loose := K81H.names) (d := HandSHeadRun.topDef (OpenLaw.row PySem.Challenge.rw_mintlaw_k81_whole_sessions_tell_historie).prog 87) (kwd := []) K81H.ob_eq
    (by kernel_rfl) (fun s => by kernel_rfl) K81H.run (by kernel_rfl) (by kernel_rfl) (by kernel_rfl) (by rfl) (by first | assumption | decide +kernel) (by decide +kernel) ⟨rfl, rfl, rfl, rfl, rfl, by decide +kernel⟩ ?hw ?hc
  case hw => w_witness2
  case hc =>
    refine L2.walk_ofE (l := PySem.Challenge.rw_mintlaw_k81_whole_sessions_tell_historie) (n := 63) (k := 40) (x := "_law_script") (CX := L2.CX0) rfl (by decide) (by kernel_rfl) ⟨rfl, by decide, by decide⟩ ?F (fun _ _ _ _ z => z)
    intro w mg fa h Y G hmg0
    obtain ⟨K, KX, c⟩ := Y
    have hmg : mg ("law" : PySem.Str) = some (.ref fa) := by
      have e : (HandSHeadRun.topDef (OpenLaw.row PySem.Challenge.rw_mintlaw_k81_whole_sessions_tell_historie).prog 87).name = ("law" : PySem.Str) := by kernel_rfl
      rw [← e]
      exact hmg0
    obtain ⟨fd, hb, hF⟩ := F w K h mg fa KX G hmg c.t.d c.more
    exact ⟨K, fd, K81H.spLaw K, KX, hb, fun H a ns hl _ hS => ⟨a, ns, rfl, hS, hl, fun _ => rfl⟩, hF⟩
end
end K81H
/-! ## E1 -/
set_option Elab.async false
set_option linter.all false
set_option maxRecDepth 100000
set_option maxHeartbeats 4000000
/-! Readings without a heap: what a name holds (Sl), what a changing object holds (Ob), readings over these. -/
namespace K81
open PySem PySem.Spec PyProof.Rows L2

/-! ### data under a growing view -/
theorem rd_same {I I' : Hp} (s : Same I I') {a : Addr} {u : HO} (h : Rd I a u) : Rd I' a u := by
  rcases h with h | ⟨o, h⟩
  · exact .inl (s _ _ h)
  · exact .inr ⟨o, s _ _ h⟩
theorem sql_same {K : PySem.W.Frag} {I I' : Hp} (s : Same I I') {a : Addr} {xs : List V} (h : SqL K I a xs) : SqL K I' a xs := by
  rcases h with h | h
  · exact .inl (rd_same s h)
  · exact .inr h
theorem sqt_same {K : PySem.W.Frag} {I I' : Hp} (s : Same I I') {a : Addr} {xs : List V} (h : SqT K I a xs) : SqT K I' a xs := by
  rcases h with h | h
  · exact .inl (rd_same s h)
  · exact .inr h
/-! a value is the data d, its lists and tuples tracked -/
mutual
inductive At (K : PySem.W.Frag) (I : Hp) : V → PyData → Prop
  | non : At K I .non .none
  | bl (b : Bool) : At K I (.bl b) (.bool b)
  | int (i : Int) : At K I (.int i) (.int i)
  | str (x : Str) : At K I (.str x) (.str x)
  | lst {a : Addr} {xs : List V} {ds : List PyData} : I a = some (.lst xs) → AtAll K I xs ds → At K I (.ref a) (.list ds)
  | tup {a : Addr} {xs : List V} {ds : List PyData} : I a = some (.tup xs) → AtAll K I xs ds → At K I (.ref a) (.tuple ds)
inductive AtAll (K : PySem.W.Frag) (I : Hp) : List V → List PyData → Prop
  | nil : AtAll K I [] []
  | cons {v : V} {vs : List V} {d : PyData} {ds : List PyData} : At K I v d → AtAll K I vs ds → AtAll K I (v :: vs) (d :: ds)
end
mutual
theorem at_dp {K : PySem.W.Frag} {I : Hp} : ∀ {v : V} {d : PyData}, At K I v d → Dp K I v d
  | _, _, .non => .non
  | _, _, .bl b => .bl b
  | _, _, .int i => .int i
  | _, _, .str x => .str x
  | _, _, .lst h a => .lst (.inl (.inl h)) (ata_dp a)
  | _, _, .tup h a => .tup (.inl (.inl h)) (ata_dp a)
theorem ata_dp {K : PySem.W.Frag} {I : Hp} : ∀ {vs : List V} {ds : List PyData}, AtAll K I vs ds → DpAll K I vs ds
  | _, _, .nil => .nil
  | _, _, .cons h r => .cons (at_dp h) (ata_dp r)
end
mutual
theorem dp_same {K : PySem.W.Frag} {I I' : Hp} (s : Same I I') : ∀ {v : V} {d : PyData}, At K I v d → At K I' v d
  | _, _, .non => .non
  | _, _, .bl b => .bl b
  | _, _, .int i => .int i
  | _, _, .str x => .str x
  | _, _, .lst h a => .lst (s _ _ h) (dpa_same s a)
  | _, _, .tup h a => .tup (s _ _ h) (dpa_same s a)
theorem dpa_same {K : PySem.W.Frag} {I I' : Hp} (s : Same I I') : ∀ {vs : List V} {ds : List PyData}, AtAll K I vs ds → AtAll K I' vs ds
  | _, _, .nil => .nil
  | _, _, .cons h r => .cons (dp_same s h) (dpa_same s r)
end
section
variable {K : PySem.W.Frag} {I H : Hp} {v : V} {vs : List V} {ds es : List PyData} {d : PyData}
theorem dp_int {i : Int} (h : At K I v (.int i)) : v = .int i := by cases h; rfl
theorem dp_str {x : Str} (h : At K I v (.str x)) : v = .str x := by cases h; rfl
theorem dp_bl {b : Bool} (h : At K I v (.bool b)) : v = .bl b := by cases h; rfl
theorem dp_non (h : At K I v .none) : v = .non := by cases h; rfl
theorem dp_tup (h : At K I v (.tuple ds)) : ∃ a xs, v = .ref a ∧ I a = some (.tup xs) ∧ AtAll K I xs ds := by
  cases h with
  | tup h a => exact ⟨_, _, rfl, h, a⟩
theorem dp_lst (h : At K I v (.list ds)) : ∃ a xs, v = .ref a ∧ I a = some (.lst xs) ∧ AtAll K I xs ds := by
  cases h with
  | lst h a => exact ⟨_, _, rfl, h, a⟩
theorem dpa_len : ∀ {vs : List V} {ds : List PyData}, AtAll K I vs ds → vs.length = ds.length
  | _, _, .nil => rfl
  | _, _, .cons _ r => congrArg (· + 1) (dpa_len r)
theorem dpa_get : ∀ {vs : List V} {ds : List PyData} {i : Nat} {d : PyData}, AtAll K I vs ds → ds[i]? = some d → ∃ v, vs[i]? = some v ∧ At K I v d
  | _, _, _, _, .nil, e => by simp at e
  | _, _, 0, _, .cons h _, e => by simp at e; subst e; exact ⟨_, rfl, h⟩
  | _, _, i + 1, d, .cons _ r, e => by
    obtain ⟨v, h1, h2⟩ := dpa_get (i := i) (d := d) r (by simpa using e)
    exact ⟨v, by simpa using h1, h2⟩
theorem dpa_get' : ∀ {vs : List V} {ds : List PyData} {i : Nat} {v : V}, AtAll K I vs ds → vs[i]? = some v → ∃ d, ds[i]? = some d ∧ At K I v d
  | _, _, _, _, .nil, e => by simp at e
  | _, _, 0, _, .cons h _, e => by simp at e; subst e; exact ⟨_, rfl, h⟩
  | _, _, i + 1, d, .cons _ r, e => by
    obtain ⟨v, h1, h2⟩ := dpa_get' (i := i) (v := d) r (by simpa using e)
    exact ⟨v, by simpa using h1, h2⟩
theorem dpa_app : ∀ {vs ws : List V} {ds es : List PyData}, AtAll K I vs ds → AtAll K I ws es → AtAll K I (vs ++ ws) (ds ++ es)
  | _, _, _, _, .nil, s => s
  | _, _, _, _, .cons h r, s => .cons h (dpa_app r s)
theorem dpa_take : ∀ {vs : List V} {ds : List PyData} (n : Nat), AtAll K I vs ds → AtAll K I (vs.take n) (ds.take n)
  | _, _, 0, _ => .nil
  | _, _, _ + 1, .nil => .nil
  | _, _, n + 1, .cons h r => .cons h (dpa_take n r)
theorem dpa_drop : ∀ {vs : List V} {ds : List PyData} (n : Nat), AtAll K I vs ds → AtAll K I (vs.drop n) (ds.drop n)
  | _, _, 0, h => h
  | _, _, _ + 1, .nil => .nil
  | _, _, n + 1, .cons _ r => dpa_drop n r
theorem dpa_set : ∀ {vs : List V} {ds : List PyData} (i : Nat) {v : V} {d : PyData}, AtAll K I vs ds → At K I v d → AtAll K I (vs.set i v) (ds.set i d)
  | _, _, _, _, _, .nil, _ => .nil
  | _, _, 0, _, _, .cons _ r, h => .cons h r
  | _, _, i + 1, _, _, .cons g r, h => .cons g (dpa_set i r h)
theorem dpa_ints : ∀ {vs : List V} {ns : List Int}, AtAll K I vs (ns.map PyData.int) → vs = ns.map V.int
  | _, [], .nil => rfl
  | _, n :: ns, .cons h r => by
    have e := dpa_ints r
    have e2 := dp_int h
    subst e e2
    rfl
theorem ints_dpa : ∀ ns : List Int, AtAll K I (ns.map V.int) (ns.map PyData.int)
  | [] => .nil
  | n :: ns => .cons (.int n) (ints_dpa ns)
theorem dpa_strs : ∀ {vs : List V} {xs : List Str}, AtAll K I vs (xs.map PyData.str) → vs = xs.map V.str
  | _, [], .nil => rfl
  | _, n :: ns, .cons h r => by
    have e := dpa_strs r
    have e2 := dp_str h
    subst e e2
    rfl
theorem strs_dpa : ∀ xs : List Str, AtAll K I (xs.map V.str) (xs.map PyData.str)
  | [] => .nil
  | n :: ns => .cons (.str n) (strs_dpa ns)
theorem dpa_bls : ∀ {vs : List V} {xs : List Bool}, AtAll K I vs (xs.map PyData.bool) → vs = xs.map V.bl
  | _, [], .nil => rfl
  | _, n :: ns, .cons h r => by
    have e := dpa_bls r
    have e2 := dp_bl h
    subst e e2
    rfl
end

/-! ### slots and objects -/
inductive Sl where
  | any
  | dat (d : PyData)
  | scr (ns : List Int)
  | val (v : V)
def SlOk (K : PySem.W.Frag) (I : Hp) (o : Option V) : Sl → Prop
  | .any => True
  | .dat d => ∃ v, o = some v ∧ At K I v d
  | .scr ns => ∃ a, o = some (.ref a) ∧ SqL K I a (ns.map V.int)
  | .val v => o = some v
theorem sl_dat {K : PySem.W.Frag} {I : Hp} {v : V} {d : PyData} (h : At K I v d) : SlOk K I (some v) (.dat d) := ⟨v, rfl, h⟩
theorem sl_scr {K : PySem.W.Frag} {I : Hp} {a : Addr} {ns : List Int} (h : SqL K I a (ns.map V.int)) : SlOk K I (some (.ref a)) (.scr ns) := ⟨a, rfl, h⟩
theorem sl_val {K : PySem.W.Frag} {I : Hp} {v : V} : SlOk K I (some v) (.val v) := rfl
def Env (K : PySem.W.Frag) (I : Hp) : L2.St → List Sl → Prop
  | [], [] => True
  | o :: σ, s :: δ => SlOk K I o s ∧ Env K I σ δ
  | _, _ => False
inductive Ob where
  | ls (ds : List PyData)
  | dk (es : List (Key × PyData))
  | dt (es : List (List Key × PyData))
  | ins (C : Addr) (fs : List (Str × Sl))
  | tp (ss : List Sl)
abbrev Mu := List (Addr × Ob)
abbrev rt (μ : Mu) : List Addr := μ.map (·.1)
def vals (vs : List V) : L2.St := vs.map some
def ObOk (K : PySem.W.Frag) (I H : Hp) (a : Addr) : Ob → Prop
  | .ls ds => ∃ xs, H a = some (.lst xs) ∧ AtAll K I xs ds
  | .dk es => ∃ kvs, H a = some (.dK kvs) ∧ kvs.map (·.1) = es.map (·.1) ∧ AtAll K I (kvs.map (·.2)) (es.map (·.2))
  | .dt es => ∃ kvs, H a = some (.dT kvs) ∧ kvs.map (·.1) = es.map (·.1) ∧ AtAll K I (kvs.map (·.2)) (es.map (·.2))
  | .ins C fs => ∃ dx gs, H a = some (.ins C dx gs) ∧ gs.map (·.1) = fs.map (·.1) ∧ Env K I (vals (gs.map (·.2))) (fs.map (·.2))
  | .tp ss => ∃ vs, H a = some (.tup vs) ∧ Env K I (vals vs) ss
/-- of what may change nothing is known for good -/
def Fre (I : Hp) (a : Addr) : Ob → Prop
  | .tp _ => True
  | _ => I a = none
def Ob.isTp : Ob → Bool
  | .tp _ => true
  | _ => false
structure Owns (K : PySem.W.Frag) (I H : Hp) (μ : Mu) : Prop where
  nd : (rt μ).Nodup
  ok : ∀ p ∈ μ, Fre I p.1 p.2 ∧ ObOk K I H p.1 p.2
structure Go (S : List Addr) (I H : Hp) (S' : List Addr) (I' H' : Hp) : Prop where
  im : Same I I'
  sub : Same I' H'
  fresh : ∀ b o, I' b = some o → I b = some o ∨ H b = none ∨ (∃ xs, o = .tup xs) ∨ b ∈ S
  keep : ∀ b o, H b = some o → b ∉ S → H' b = some o
  there : ∀ b, H' b = none → H b = none
  rts : ∀ a ∈ S', a ∈ S ∨ H a = none

section
variable {K : PySem.W.Frag} {I I' H H' : Hp} {S S' S2 : List Addr} {a p : Addr} {o : HO} {σ : L2.St} {δ : List Sl} {μ μ' : Mu} {s : Sl}
theorem Go.refl (h : Same I H) : Go S I H S I H := ⟨Same.refl I, h, fun _ _ e => .inl e, fun _ _ e _ => e, fun _ e => e, fun _ h => .inl h⟩
theorem Go.trans {I2 H2 : Hp} (x : Go S I H S' I' H') (y : Go S' I' H' S2 I2 H2) : Go S I H S2 I2 H2 where
  im := x.im.trans y.im
  sub := y.sub
  fresh := fun b o e => by
    rcases y.fresh b o e with h | h | h | h
    · exact x.fresh b o h
    · exact .inr (.inl (x.there b h))
    · exact .inr (.inr (.inl h))
    · rcases x.rts b h with z | z
      · exact .inr (.inr (.inr z))
      · exact .inr (.inl z)
  keep := fun b o e n => y.keep b o (x.keep b o e n) fun m => by
    rcases x.rts b m with h | h
    · exact n h
    · rw [h] at e; cases e
  there := fun b e => x.there b (y.there b e)
  rts := fun a m => by
    rcases y.rts a m with h | h
    · exact x.rts a h
    · exact .inr (x.there a h)
/-- a new object that is never changed -/
theorem Go.new (h : Same I H) (hp : H p = none) : Go S I H S (upd I p o) (upd H p o) where
  im := fun b u e => by rw [upd_ne (ne_of_none (h b u e) hp)]; exact e
  sub := fun b u e => by
    by_cases q : b = p
    · subst q; rw [upd_same] at e ⊢; exact e
    · rw [upd_ne q] at e ⊢; exact h b u e
  fresh := fun b u e => by
    by_cases q : b = p
    · subst q; exact .inr (.inl hp)
    · rw [upd_ne q] at e; exact .inl e
  keep := fun b u e _ => by rw [upd_ne (ne_of_none e hp)]; exact e
  there := fun b e => by
    by_cases q : b = p
    · subst q; exact hp
    · rw [upd_ne q] at e; exact e
  rts := fun _ h => .inl h
/-- a new object that may be changed -/
theorem Go.own (h : Same I H) (hp : H p = none) : Go S I H (p :: S) I (upd H p o) where
  im := Same.refl I
  sub := fun b u e => by rw [upd_ne (ne_of_none (h b u e) hp)]; exact h b u e
  fresh := fun _ _ e => .inl e
  keep := fun b u e _ => by rw [upd_ne (ne_of_none e hp)]; exact e
  there := fun b e => by
    by_cases q : b = p
    · subst q; exact hp
    · rw [upd_ne q] at e; exact e
  rts := fun a m => by
    rcases List.mem_cons.mp m with e | m
    · subst e; exact .inr hp
    · exact .inl m
/-- an object of ours is changed -/
theorem Go.wr (h : Same I H) (ha : a ∈ S) (hi : I a = none) (hh : H a ≠ none) : Go S I H S I (upd H a o) where
  im := Same.refl I
  sub := fun b u e => by rw [upd_ne (ne_of_none e hi)]; exact h b u e
  fresh := fun _ _ e => .inl e
  keep := fun b u e n => by
    rw [upd_ne fun q => n (by rw [q]; exact ha)]; exact e
  there := fun b e => by
    by_cases q : b = a
    · subst q; rw [upd_same] at e; cases e
    · rw [upd_ne q] at e; exact e
  rts := fun _ h => .inl h
/-- the new roots may be fewer, in another order -/
theorem Go.sub_rts (x : Go S I H S' I' H') (h : ∀ a ∈ S2, a ∈ S') : Go S I H S2 I' H' := ⟨x.im, x.sub, x.fresh, x.keep, x.there, fun a m => x.rts a (h a m)⟩
/-- what may change may be more -/
theorem Go.more (x : Go S I H S' I' H') (T : List Addr) (h : ∀ a ∈ S, a ∈ T) (h2 : ∀ a ∈ S2, a ∈ S' ∨ a ∈ T) : Go T I H S2 I' H' :=
  ⟨x.im, x.sub, fun b o e => (x.fresh b o e).imp id (Or.imp id (Or.imp id (h b))), fun b o e n => x.keep b o e fun m => n (h b m), x.there, fun a m => by
    rcases h2 a m with q | q
    · rcases x.rts a q with z | z
      · exact .inl (h a z)
      · exact .inr z
    · exact .inl q⟩

theorem slok_same (s' : Same I I') {v : Option V} : ∀ {s : Sl}, SlOk K I v s → SlOk K I' v s
  | .any, _ => trivial
  | .dat _, ⟨v, e, h⟩ => ⟨v, e, dp_same s' h⟩
  | .scr _, ⟨a, e, h⟩ => ⟨a, e, sql_same s' h⟩
  | .val _, h => h
theorem env_same (s' : Same I I') : ∀ {σ : L2.St} {δ : List Sl}, Env K I σ δ → Env K I' σ δ
  | [], [], _ => trivial
  | _ :: _, _ :: _, ⟨h, r⟩ => ⟨slok_same s' h, env_same s' r⟩
  | [], _ :: _, h => h.elim
  | _ :: _, [], h => h.elim
theorem env_get : ∀ {σ : L2.St} {δ : List Sl} {i : Nat} {s : Sl}, Env K I σ δ → δ[i]? = some s → ∃ o, σ[i]? = some o ∧ SlOk K I o s
  | [], [], _, _, _, e => by simp at e
  | o :: _, _ :: _, 0, _, ⟨h, _⟩, e => by simp at e; subst e; exact ⟨o, rfl, h⟩
  | _ :: σ, _ :: δ, i + 1, s, ⟨_, r⟩, e => by
    obtain ⟨o, h1, h2⟩ := env_get (i := i) (s := s) r (by simpa using e)
    exact ⟨o, by simpa using h1, h2⟩
  | [], _ :: _, _, _, h, _ => h.elim
  | _ :: _, [], _, _, h, _ => h.elim
theorem env_set : ∀ {σ : L2.St} {δ : List Sl} (i : Nat) {v : Option V} {s : Sl}, Env K I σ δ → SlOk K I v s → Env K I (σ.set i v) (δ.set i s)
  | [], [], _, _, _, _, _ => trivial
  | _ :: _, _ :: _, 0, _, _, ⟨_, r⟩, h => ⟨h, r⟩
  | _ :: _, _ :: _, i + 1, _, _, ⟨g, r⟩, h => ⟨g, env_set i r h⟩
  | [], _ :: _, _, _, _, h, _ => h.elim
  | _ :: _, [], _, _, _, h, _ => h.elim
theorem env_len : ∀ {σ : L2.St} {δ : List Sl}, Env K I σ δ → σ.length = δ.length
  | [], [], _ => rfl
  | _ :: _, _ :: _, ⟨_, r⟩ => congrArg (· + 1) (env_len r)
  | [], _ :: _, h => h.elim
  | _ :: _, [], h => h.elim
def wipeS (δ : List Sl) : List Nat → List Sl
  | [] => δ
  | v :: vs => (wipeS δ vs).set v .any
theorem env_wipe (h : Env K I σ δ) : ∀ vs : List Nat, Env K I (wipe σ vs) (wipeS δ vs)
  | [] => h
  | v :: vs => env_set v (env_wipe h vs) (by exact trivial)
theorem env_app : ∀ {σ τ : L2.St} {δ ε : List Sl}, Env K I σ δ → Env K I τ ε → Env K I (σ ++ τ) (δ ++ ε)
  | [], _, [], _, _, h => h
  | _ :: _, _, _ :: _, _, ⟨g, r⟩, h => ⟨g, env_app r h⟩
  | [], _, _ :: _, _, h, _ => h.elim
  | _ :: _, _, [], _, h, _ => h.elim
theorem env_any : ∀ n : Nat, Env K I (List.replicate n none) (List.replicate n .any)
  | 0 => trivial
  | n + 1 => ⟨trivial, env_any n⟩
theorem env_dats : ∀ {vs : List V} {ds : List PyData}, AtAll K I vs ds → Env K I (vals vs) (ds.map Sl.dat)
  | _, _, .nil => trivial
  | _, _, .cons h r => ⟨⟨_, rfl, h⟩, env_dats r⟩
theorem dats_env : ∀ {vs : List V} {ds : List PyData}, Env K I (vals vs) (ds.map Sl.dat) → AtAll K I vs ds
  | [], [], _ => .nil
  | _ :: _, _ :: _, ⟨⟨_, e, h⟩, r⟩ => by cases e; exact .cons h (dats_env r)
  | [], _ :: _, h => h.elim
  | _ :: _, [], h => h.elim

theorem obok_there : ∀ {ob : Ob}, ObOk K I H a ob → H a ≠ none
  | .ls _, ⟨_, h, _⟩ => by rw [h]; exact fun z => nomatch z
  | .dk _, ⟨_, h, _⟩ => by rw [h]; exact fun z => nomatch z
  | .dt _, ⟨_, h, _⟩ => by rw [h]; exact fun z => nomatch z
  | .ins _ _, ⟨_, _, h, _⟩ => by rw [h]; exact fun z => nomatch z
  | .tp _, ⟨_, h, _⟩ => by rw [h]; exact fun z => nomatch z
theorem obok_same (s' : Same I I') (e : ∀ o, H a = some o → H' a = some o) : ∀ {ob : Ob}, ObOk K I H a ob → ObOk K I' H' a ob
  | .ls _, ⟨xs, h, r⟩ => ⟨xs, e _ h, dpa_same s' r⟩
  | .dk _, ⟨xs, h, k, r⟩ => ⟨xs, e _ h, k, dpa_same s' r⟩
  | .dt _, ⟨xs, h, k, r⟩ => ⟨xs, e _ h, k, dpa_same s' r⟩
  | .ins _ _, ⟨dx, gs, h, k, r⟩ => ⟨dx, gs, e _ h, k, env_same s' r⟩
  | .tp _, ⟨vs, h, r⟩ => ⟨vs, e _ h, env_same s' r⟩
theorem fre_of {ob : Ob} (h : I a = none) : Fre I a ob := by cases ob <;> first | trivial | exact h
theorem fre_none {ob : Ob} (h : Fre I a ob) (n : ob.isTp = false) : I a = none := by
  cases ob with
  | tp ss => cases n
  | _ => exact h
theorem obok_nt {ob : Ob} (n : ob.isTp = false) (h : ObOk K I H a ob) : ∃ u, H a = some u ∧ ∀ xs, u ≠ .tup xs := by
  cases ob with
  | tp ss => cases n
  | ls _ => obtain ⟨_, h, _⟩ := h; exact ⟨_, h, fun _ z => nomatch z⟩
  | dk _ => obtain ⟨_, h, _⟩ := h; exact ⟨_, h, fun _ z => nomatch z⟩
  | dt _ => obtain ⟨_, h, _⟩ := h; exact ⟨_, h, fun _ z => nomatch z⟩
  | ins _ _ => obtain ⟨_, _, h, _⟩ := h; exact ⟨_, h, fun _ z => nomatch z⟩
theorem none_stay {ob : Ob} (t : ob.isTp = false) (g : Go S I H S' I' H') (n : a ∉ S) (h : I a = none) (ho : ObOk K I H a ob) : I' a = none := by
  cases e : I' a with
  | none => rfl
  | some o =>
    rcases g.fresh a o e with q | q | ⟨xs, q⟩ | q
    · rw [h] at q; cases q
    · exact absurd q (obok_there ho)
    · obtain ⟨u, hu, nt⟩ := obok_nt t ho
      have h1 := g.sub _ _ e
      rw [g.keep a u hu n] at h1
      exact absurd (by rw [← q]; exact Option.some.inj h1) (nt xs)
    · exact absurd q n
theorem own_stay {ob : Ob} (g : Go S I H S' I' H') (n : a ∉ S) (h : Fre I a ob ∧ ObOk K I H a ob) : Fre I' a ob ∧ ObOk K I' H' a ob := by
  refine ⟨?_, obok_same g.im (fun o e => g.keep a o e n) h.2⟩
  cases t : ob.isTp with
  | true =>
    cases ob with
    | tp ss => trivial
    | _ => cases t
  | false => exact fre_of (none_stay t g n (fre_none h.1 t) h.2)
theorem owns_stay (g : Go [] I H S' I' H') (h : Owns K I H μ) : Owns K I' H' μ := ⟨h.nd, fun p hp => own_stay g (by simp) (h.ok p hp)⟩
theorem owns_new {ob : Ob} (g : Go S I H S' I' H') (h : Owns K I' H' μ) (n : p ∉ rt μ) (hI : I' p = none) (ho : ObOk K I' H' p ob) : Owns K I' H' ((p, ob) :: μ) :=
  ⟨List.nodup_cons.mpr ⟨n, h.nd⟩, fun q hq => by
    rcases List.mem_cons.mp hq with e | hq
    · subst e; exact ⟨fre_of hI, ho⟩
    · exact h.ok q hq⟩
theorem owns_root (h : Owns K I H μ) (hp : H p = none) : p ∉ rt μ := fun m => by
  obtain ⟨q, hq, e⟩ := List.mem_map.mp m
  have z := obok_there (h.ok q hq).2
  rw [e] at z
  exact z hp
/-- one object of ours put anew -/
theorem owns_set {j : Nat} {ob ob' : Ob} (h : Owns K I H μ) (hj : μ[j]? = some (a, ob)) (g : Go S I H S' I' H') (hS : ∀ b ∈ S, b = a) (hI : I' a = none) (ho : ObOk K I' H' a ob') : Owns K I' H' (μ.set j (a, ob')) := by
  have er : rt (μ.set j (a, ob')) = rt μ := by
    show (μ.set j (a, ob')).map (·.1) = μ.map (·.1)
    rw [List.map_set]
    refine List.ext_getElem? fun i => ?_
    by_cases e : j = i
    · subst e
      have hl := (List.getElem?_eq_some_iff.mp hj).1
      rw [List.getElem?_set_self (by simpa using hl), List.getElem?_map, hj]
      rfl
    · rw [List.getElem?_set_ne e]
  refine ⟨by rw [er]; exact h.nd, fun q hq => ?_⟩
  obtain ⟨i, hi, e⟩ := List.mem_iff_getElem.mp hq
  have hil : i < μ.length := by simpa using hi
  by_cases ej : j = i
  · subst ej
    rw [List.getElem_set_self] at e
    subst e
    exact ⟨fre_of hI, ho⟩
  · rw [List.getElem_set_ne ej] at e
    have hm : μ[i] ∈ μ := List.getElem_mem hil
    subst e
    refine own_stay g (fun m => ?_) (h.ok _ hm)
    have ea := hS _ m
    have hjl := (List.getElem?_eq_some_iff.mp hj).1
    have e1 : (rt μ)[i]'(by simpa using hil) = (rt μ)[j]'(by simpa using hjl) := by
      have e2 : μ[j] = (a, ob) := (List.getElem?_eq_some_iff.mp hj).2
      simp [rt, e2, ea]
    exact ej ((List.getElem_inj h.nd).mp e1).symm
end
end K81
/-! ## E2 -/
set_option Elab.async false
set_option linter.all false
set_option maxRecDepth 100000
set_option maxHeartbeats 4000000
/-! The readings over slots and objects: expressions, tests, arguments, statements, loops, comprehensions, calls. -/
namespace K81
open PySem PySem.Spec PyProof.Rows L2

structure Stt (K : PySem.W.Frag) (I H : Hp) (σ : L2.St) (δ : List Sl) (μ : Mu) : Prop where
  sm : Same I H
  env : Env K I σ δ
  own : Owns K I H μ
theorem Stt.go {K : PySem.W.Frag} {I H I' H' : Hp} {σ : L2.St} {δ : List Sl} {μ μ' : Mu} {S S' : List Addr} (s : Stt K I H σ δ μ) (g : Go S I H S' I' H') (w : Owns K I' H' μ') : Stt K I' H' σ δ μ' := ⟨g.sub, env_same g.im s.env, w⟩
/-- an end of a value's reading -/
structure Vend (K : PySem.W.Frag) (μ : Mu) (I H : Hp) (v : V) (s : Sl) (μ' : Mu) (I' H' : Hp) : Prop where
  go : Go (rt μ) I H (rt μ') I' H'
  sl : SlOk K I' (some v) s
  own : Owns K I' H' μ'
def EvC (K : PySem.W.Frag) (te : TE) (δ : List Sl) (μ : Mu) (P : Sl → Mu → Prop) : Prop :=
  ∀ (I H : Hp) (σ : L2.St) (Q : VK), Stt K I H σ δ μ → (∀ v s μ' I' H', Vend K μ I H v s μ' I' H' → P s μ' → Q v H') → te σ H Q
def EvA (K : PySem.W.Frag) (ta : TA) (δ : List Sl) (μ : Mu) (P : List Sl → Mu → Prop) : Prop :=
  ∀ (I H : Hp) (σ : L2.St) (Q : List V → Hp → Prop), Stt K I H σ δ μ → (∀ vs ss μ' I' H', Go (rt μ) I H (rt μ') I' H' → Env K I' (vals vs) ss → Owns K I' H' μ' → P ss μ' → Q vs H') → ta σ H Q
def EvB (K : PySem.W.Frag) (tt : TT) (δ : List Sl) (μ : Mu) (P : Bool → Mu → Prop) : Prop :=
  ∀ (I H : Hp) (σ : L2.St) (Q : Bool → Hp → Prop), Stt K I H σ δ μ → (∀ b μ' I' H', Go (rt μ) I H (rt μ') I' H' → Owns K I' H' μ' → P b μ' → Q b H') → tt σ H Q
/-- an operation on values -/
def OpA (K : PySem.W.Frag) (r : R2) (s1 s2 : Sl) (μ : Mu) (P : Sl → Mu → Prop) : Prop :=
  ∀ (I H : Hp) (x y : V) (Q : VK), Same I H → Owns K I H μ → SlOk K I (some x) s1 → SlOk K I (some y) s2 → (∀ v s μ' I' H', Vend K μ I H v s μ' I' H' → P s μ' → Q v H') → r x y H Q
def UnA (K : PySem.W.Frag) (r : V → Hp → VK → Prop) (s1 : Sl) (μ : Mu) (P : Sl → Mu → Prop) : Prop :=
  ∀ (I H : Hp) (x : V) (Q : VK), Same I H → Owns K I H μ → SlOk K I (some x) s1 → (∀ v s μ' I' H', Vend K μ I H v s μ' I' H' → P s μ' → Q v H') → r x H Q
def CaA (K : PySem.W.Frag) (r : List V → Hp → VK → Prop) (ss : List Sl) (μ : Mu) (P : Sl → Mu → Prop) : Prop :=
  ∀ (I H : Hp) (xs : List V) (Q : VK), Same I H → Owns K I H μ → Env K I (vals xs) ss → (∀ v s μ' I' H', Vend K μ I H v s μ' I' H' → P s μ' → Q v H') → r xs H Q

section
variable {K : PySem.W.Frag} {δ : List Sl} {μ : Mu} {P P' : Sl → Mu → Prop} {ta tb te : TE} {r : R2} {I H : Hp} {s : Sl} {v : V}
theorem Vend.refl (hs : Same I H) (w : Owns K I H μ) (h : SlOk K I (some v) s) : Vend K μ I H v s μ I H := ⟨Go.refl hs, h, w⟩
theorem Vend.back {μ1 μ2 : Mu} {I1 H1 I2 H2 : Hp} (g : Go (rt μ) I H (rt μ1) I1 H1) (e : Vend K μ1 I1 H1 v s μ2 I2 H2) : Vend K μ I H v s μ2 I2 H2 := ⟨g.trans e.go, e.sl, e.own⟩
theorem EvC.mono (h : EvC K te δ μ P) (m : ∀ s μ', P s μ' → P' s μ') : EvC K te δ μ P' := fun I H σ Q st k => h I H σ Q st fun v s μ' I' H' e p => k v s μ' I' H' e (m _ _ p)
theorem ev_var {i : Nat} {s : Sl} (h : δ[i]? = some s) (ne : s ≠ .any) (p : P s μ) : EvC K (tVar i) δ μ P := by
  intro I H σ Q st k
  obtain ⟨o, ho, hs⟩ := env_get st.env h
  cases s with
  | any => exact absurd rfl ne
  | dat d =>
    obtain ⟨v, rfl, hd⟩ := hs
    exact ⟨v, ho, k v _ μ I H (.refl st.sm st.own (sl_dat hd)) p⟩
  | scr d =>
    obtain ⟨a, rfl, hd⟩ := hs
    exact ⟨.ref a, ho, k _ _ μ I H (.refl st.sm st.own (sl_scr hd)) p⟩
  | val v =>
    cases hs
    exact ⟨v, ho, k v _ μ I H (.refl st.sm st.own sl_val) p⟩
theorem ev_val (p : P (.val v) μ) : EvC K (tC v) δ μ P := fun I H σ Q st k => k v _ μ I H (.refl st.sm st.own sl_val) p
theorem ev_int {i : Int} (p : P (.dat (.int i)) μ) : EvC K (tC (.int i)) δ μ P := fun I H σ Q st k => k _ _ μ I H (.refl st.sm st.own (sl_dat (.int i))) p
theorem ev_str {x : Str} (p : P (.dat (.str x)) μ) : EvC K (tC (.str x)) δ μ P := fun I H σ Q st k => k _ _ μ I H (.refl st.sm st.own (sl_dat (.str x))) p
theorem ev_bl {b : Bool} (p : P (.dat (.bool b)) μ) : EvC K (tC (.bl b)) δ μ P := fun I H σ Q st k => k _ _ μ I H (.refl st.sm st.own (sl_dat (.bl b))) p
theorem ev_non (p : P (.dat .none) μ) : EvC K (tC .non) δ μ P := fun I H σ Q st k => k _ _ μ I H (.refl st.sm st.own (sl_dat (.non))) p
theorem ev_op (h : EvC K ta δ μ fun s1 μ1 => EvC K tb δ μ1 fun s2 μ2 => OpA K r s1 s2 μ2 P) : EvC K (tOp r ta tb) δ μ P := by
  intro I H σ Q st k
  refine h I H σ _ st fun x s1 μ1 I1 H1 e1 p1 => ?_
  refine p1 I1 H1 σ _ (st.go e1.go e1.own) fun y s2 μ2 I2 H2 e2 p2 => ?_
  refine p2 I2 H2 x y _ e2.go.sub e2.own (slok_same e2.go.im e1.sl) e2.sl fun v s μ3 I3 H3 e3 p3 => ?_
  exact k v s μ3 I3 H3 (e3.back (e1.go.trans e2.go)) p3
theorem ev_un {ru : V → Hp → VK → Prop} (h : EvC K ta δ μ fun s1 μ1 => UnA K ru s1 μ1 P) : EvC K (tUn ru ta) δ μ P := by
  intro I H σ Q st k
  refine h I H σ _ st fun x s1 μ1 I1 H1 e1 p1 => ?_
  exact p1 I1 H1 x _ e1.go.sub e1.own e1.sl fun v s μ3 I3 H3 e3 p3 => k v s μ3 I3 H3 (e3.back e1.go) p3
theorem ea_nil {P : List Sl → Mu → Prop} (p : P [] μ) : EvA K tNil δ μ P := fun I H σ Q st k => k [] [] μ I H (Go.refl st.sm) trivial st.own p
theorem ea_cons {tr : TA} {P : List Sl → Mu → Prop} (h : EvC K ta δ μ fun s1 μ1 => EvA K tr δ μ1 fun ss μ2 => P (s1 :: ss) μ2) : EvA K (tCons ta tr) δ μ P := by
  intro I H σ Q st k
  refine h I H σ _ st fun x s1 μ1 I1 H1 e1 p1 => ?_
  refine p1 I1 H1 σ _ (st.go e1.go e1.own) fun xs ss μ2 I2 H2 g2 n2 w2 p2 => ?_
  exact k (x :: xs) (s1 :: ss) μ2 I2 H2 (e1.go.trans g2) ⟨slok_same g2.im e1.sl, n2⟩ w2 p2
theorem ev_cb {ta : TA} {rc : List V → Hp → VK → Prop} (h : EvA K ta δ μ fun ss μ1 => CaA K rc ss μ1 P) : EvC K (tCB rc ta) δ μ P := by
  intro I H σ Q st k
  refine h I H σ _ st fun xs ss μ1 I1 H1 g1 n1 w1 p1 => ?_
  exact p1 I1 H1 xs _ g1.sub w1 n1 fun v s μ3 I3 H3 e3 p3 => k v s μ3 I3 H3 (e3.back g1) p3
/-- a comparison of three -/
theorem ev_chain {r' : R2} {tc : TE} (h : EvC K ta δ μ fun s1 μ1 => EvC K tb δ μ1 fun s2 μ2 => OpA K r s1 s2 μ2 fun s3 μ3 => ∃ b, s3 = .dat (.bool b) ∧ (b = true → EvC K tc δ μ3 fun s4 μ4 => OpA K r' s2 s4 μ4 P) ∧ (b = false → P (.dat (.bool false)) μ3)) :
    EvC K (tChain r r' ta tb tc) δ μ P := by
  intro I H σ Q st k
  refine h I H σ _ st fun x s1 μ1 I1 H1 e1 p1 => ?_
  refine p1 I1 H1 σ _ (st.go e1.go e1.own) fun y s2 μ2 I2 H2 e2 p2 => ?_
  refine p2 I2 H2 x y _ e2.go.sub e2.own (slok_same e2.go.im e1.sl) e2.sl fun v s μ3 I3 H3 e3 p3 => ?_
  obtain ⟨b, rfl, pt, pf⟩ := p3
  obtain ⟨v', ev, hv⟩ := e3.sl
  cases ev
  cases hv
  refine ⟨b, rfl, ?_⟩
  have g3 := (e1.go.trans e2.go).trans e3.go
  cases b with
  | true =>
    refine iteT ?_
    refine pt rfl I3 H3 σ _ (st.go g3 e3.own) fun z s4 μ4 I4 H4 e4 p4 => ?_
    exact p4 I4 H4 y z _ e4.go.sub e4.own (slok_same (e3.go.im.trans e4.go.im) e2.sl) e4.sl fun v s μ5 I5 H5 e5 p5 => k v s μ5 I5 H5 (e5.back (g3.trans e4.go)) p5
  | false =>
    refine iteF ?_
    exact k _ _ μ3 I3 H3 ⟨g3, sl_dat (.bl false), e3.own⟩ (pf rfl)

/-! ### tests, and, or, not, if -/
variable {tt tu : TT} {PB : Bool → Mu → Prop}
theorem et_test (h : EvC K te δ μ fun s μ' => ∃ b, s = .dat (.bool b) ∧ PB b μ') : EvB K (tTest te) δ μ PB := by
  intro I H σ Q st k
  refine h I H σ _ st fun x s μ1 I1 H1 e1 p1 => ?_
  obtain ⟨b, rfl, pb⟩ := p1
  obtain ⟨v', ev, hv⟩ := e1.sl
  cases ev
  cases hv
  exact ⟨b, rfl, k b μ1 I1 H1 e1.go e1.own pb⟩
theorem et_b (h : EvC K te δ μ fun s μ' => ∃ b, s = .dat (.bool b) ∧ PB b μ') : EvB K (tB te) δ μ PB := by
  intro I H σ Q st k
  refine h I H σ _ st fun x s μ1 I1 H1 e1 p1 => ?_
  obtain ⟨b, rfl, pb⟩ := p1
  obtain ⟨v', ev, hv⟩ := e1.sl
  cases ev
  cases hv
  exact ⟨b, rfl, k b μ1 I1 H1 e1.go e1.own pb⟩
theorem et_not (h : EvB K tt δ μ fun b μ' => PB (!b) μ') : EvB K (tNot tt) δ μ PB := fun I H σ Q st k => h I H σ _ st fun b μ1 I1 H1 g1 w1 p1 => k (!b) μ1 I1 H1 g1 w1 p1
theorem et_and (h : EvB K tt δ μ fun b μ1 => (b = true → EvB K tu δ μ1 PB) ∧ (b = false → PB false μ1)) : EvB K (tAnd tt tu) δ μ PB := by
  intro I H σ Q st k
  refine h I H σ _ st fun b μ1 I1 H1 g1 w1 p1 => ?_
  cases b with
  | true => exact iteT (p1.1 rfl I1 H1 σ _ (st.go g1 w1) fun b μ2 I2 H2 g2 w2 p2 => k b μ2 I2 H2 (g1.trans g2) w2 p2)
  | false => exact iteF (k false μ1 I1 H1 g1 w1 (p1.2 rfl))
theorem et_or (h : EvB K tt δ μ fun b μ1 => (b = false → EvB K tu δ μ1 PB) ∧ (b = true → PB true μ1)) : EvB K (tOr tt tu) δ μ PB := by
  intro I H σ Q st k
  refine h I H σ _ st fun b μ1 I1 H1 g1 w1 p1 => ?_
  cases b with
  | true => exact iteT (k true μ1 I1 H1 g1 w1 (p1.2 rfl))
  | false => exact iteF (p1.1 rfl I1 H1 σ _ (st.go g1 w1) fun b μ2 I2 H2 g2 w2 p2 => k b μ2 I2 H2 (g1.trans g2) w2 p2)
theorem ev_andV (h : EvC K ta δ μ fun s μ1 => ∃ b, s = .dat (.bool b) ∧ (b = true → EvC K tb δ μ1 P) ∧ (b = false → P (.dat (.bool false)) μ1)) : EvC K (tAndV ta tb) δ μ P := by
  intro I H σ Q st k
  refine h I H σ _ st fun x s μ1 I1 H1 e1 p1 => ?_
  obtain ⟨b, rfl, pt, pf⟩ := p1
  obtain ⟨v', ev, hv⟩ := e1.sl
  cases ev
  cases hv
  refine ⟨b, rfl, ?_⟩
  cases b with
  | true => exact iteT (pt rfl I1 H1 σ _ (st.go e1.go e1.own) fun v s μ2 I2 H2 e2 p2 => k v s μ2 I2 H2 (e2.back e1.go) p2)
  | false => exact iteF (k _ _ μ1 I1 H1 ⟨e1.go, sl_dat (.bl false), e1.own⟩ (pf rfl))
theorem ev_orV (h : EvC K ta δ μ fun s μ1 => ∃ b, s = .dat (.bool b) ∧ (b = false → EvC K tb δ μ1 P) ∧ (b = true → P (.dat (.bool true)) μ1)) : EvC K (tOrV ta tb) δ μ P := by
  intro I H σ Q st k
  refine h I H σ _ st fun x s μ1 I1 H1 e1 p1 => ?_
  obtain ⟨b, rfl, pf, pt⟩ := p1
  obtain ⟨v', ev, hv⟩ := e1.sl
  cases ev
  cases hv
  refine ⟨b, rfl, ?_⟩
  cases b with
  | false => exact iteF (pf rfl I1 H1 σ _ (st.go e1.go e1.own) fun v s μ2 I2 H2 e2 p2 => k v s μ2 I2 H2 (e2.back e1.go) p2)
  | true => exact iteT (k _ _ μ1 I1 H1 ⟨e1.go, sl_dat (.bl true), e1.own⟩ (pt rfl))
theorem ev_notV (h : EvC K ta δ μ fun s μ1 => ∃ b, s = .dat (.bool b) ∧ P (.dat (.bool (!b))) μ1) : EvC K (tNotV ta) δ μ P := by
  intro I H σ Q st k
  refine h I H σ _ st fun x s μ1 I1 H1 e1 p1 => ?_
  obtain ⟨b, rfl, p⟩ := p1
  obtain ⟨v', ev, hv⟩ := e1.sl
  cases ev
  cases hv
  exact ⟨b, rfl, k _ _ μ1 I1 H1 ⟨e1.go, sl_dat (.bl _), e1.own⟩ p⟩
theorem ev_if (h : EvB K tt δ μ fun b μ1 => (b = true → EvC K ta δ μ1 P) ∧ (b = false → EvC K tb δ μ1 P)) : EvC K (tIf tt ta tb) δ μ P := by
  intro I H σ Q st k
  refine h I H σ _ st fun b μ1 I1 H1 g1 w1 p1 => ?_
  cases b with
  | true => exact iteT (p1.1 rfl I1 H1 σ _ (st.go g1 w1) fun v s μ2 I2 H2 e2 p2 => k v s μ2 I2 H2 (e2.back g1) p2)
  | false => exact iteF (p1.2 rfl I1 H1 σ _ (st.go g1 w1) fun v s μ2 I2 H2 e2 p2 => k v s μ2 I2 H2 (e2.back g1) p2)
/-- is None -/
def isNon : Sl → Option Bool
  | .dat .none => some true
  | .dat _ => some false
  | .scr _ => some false
  | .val .non => some true
  | .val _ => some false
  | .any => none
theorem isNon_ok {b : Bool} (h : SlOk K I (some v) s) (e : isNon s = some b) : decide (v = .non) = b := by
  cases s with
  | any => cases e
  | dat d =>
    obtain ⟨v', ev, hv⟩ := h
    cases ev
    cases hv <;> (cases e; rfl)
  | scr d =>
    obtain ⟨a, ev, hv⟩ := h
    cases ev
    cases e
    rfl
  | val w =>
    have h : some v = some w := h
    cases h
    cases v <;> (cases e; rfl)
theorem ev_isN (h : EvC K ta δ μ fun s μ1 => ∃ b, isNon s = some b ∧ P (.dat (.bool b)) μ1) : EvC K (tIsN ta) δ μ P := by
  intro I H σ Q st k
  refine h I H σ _ st fun x s μ1 I1 H1 e1 p1 => ?_
  obtain ⟨b, hb, p⟩ := p1
  rw [isNon_ok e1.sl hb]
  exact k _ _ μ1 I1 H1 ⟨e1.go, sl_dat (.bl _), e1.own⟩ p
theorem ev_notN (h : EvC K ta δ μ fun s μ1 => ∃ b, isNon s = some b ∧ P (.dat (.bool (!b))) μ1) : EvC K (tNotN ta) δ μ P := by
  intro I H σ Q st k
  refine h I H σ _ st fun x s μ1 I1 H1 e1 p1 => ?_
  obtain ⟨b, hb, p⟩ := p1
  rw [isNon_ok e1.sl hb]
  exact k _ _ μ1 I1 H1 ⟨e1.go, sl_dat (.bl _), e1.own⟩ p

/-! ### displays -/
theorem env_ref_dats {vs : List V} {ss : List Sl} {ds : List PyData} (h : Env K I (vals vs) ss) (e : ss = ds.map Sl.dat) : AtAll K I vs ds := dats_env (by rw [← e]; exact h)
/-- a slot taken for a value's data -/
inductive AsD : Sl → PyData → Prop
  | dat (d : PyData) : AsD (.dat d) d
  | non : AsD (.val .non) .none
theorem asd_ok {d : PyData} (h : AsD s d) (x : SlOk K I (some v) s) : At K I v d := by
  cases h with
  | dat d => obtain ⟨_, e, h⟩ := x; cases e; exact h
  | non => cases x; exact .non
inductive AsDs : List Sl → List PyData → Prop
  | nil : AsDs [] []
  | cons {s : Sl} {d : PyData} {ss : List Sl} {ds : List PyData} : AsD s d → AsDs ss ds → AsDs (s :: ss) (d :: ds)
theorem asds_ok : ∀ {vs : List V} {ss : List Sl} {ds : List PyData}, AsDs ss ds → Env K I (vals vs) ss → AtAll K I vs ds
  | [], _, _, .nil, _ => .nil
  | _ :: _, _, _, .cons h r, ⟨x, y⟩ => .cons (asd_ok h x) (asds_ok r y)
  | _ :: _, _, _, .nil, h => h.elim
  | [], _, _, .cons _ _, h => h.elim
theorem ev_tup {ta : TA} (h : EvA K ta δ μ fun ss μ1 => ∃ ds, AsDs ss ds ∧ ds.length ≤ sizeLine ∧ P (.dat (.tuple ds)) μ1) : EvC K (tTup ta) δ μ P := by
  intro I H σ Q st k
  refine h I H σ _ st fun vs ss μ1 I1 H1 g1 n1 w1 p1 => ?_
  obtain ⟨ds, hd, hl, p⟩ := p1
  have ha := asds_ok hd n1
  refine ⟨by rw [dpa_len ha]; exact hl, fun q hq => ?_⟩
  have g2 : Go (rt μ1) I1 H1 (rt μ1) (upd I1 q (.tup vs)) (upd H1 q (.tup vs)) := Go.new g1.sub hq
  have g2' : Go [] I1 H1 [] (upd I1 q (.tup vs)) (upd H1 q (.tup vs)) := Go.new g1.sub hq
  exact k _ _ μ1 _ _ ⟨g1.trans g2, sl_dat (.tup upd_same (dpa_same g2.im ha)), owns_stay g2' w1⟩ p
/-- a tuple of slots -/
theorem ev_tupS {ta : TA} (h : EvA K ta δ μ fun ss μ1 => ss.length ≤ sizeLine ∧ ∀ p, P (.val (.ref p)) ((p, .tp ss) :: μ1)) : EvC K (tTup ta) δ μ P := by
  intro I H σ Q st k
  refine h I H σ _ st fun vs ss μ1 I1 H1 g1 n1 w1 p1 => ?_
  obtain ⟨hl, p⟩ := p1
  have el : vs.length = ss.length := by have := env_len n1; simpa [vals] using this
  refine ⟨by rw [el]; exact hl, fun q hq => ?_⟩
  have g2 : Go (rt μ1) I1 H1 (q :: rt μ1) I1 (upd H1 q (.tup vs)) := Go.own g1.sub hq
  have g2' : Go [] I1 H1 [q] I1 (upd H1 q (.tup vs)) := Go.own g1.sub hq
  exact k _ _ ((q, .tp ss) :: μ1) _ _ ⟨g1.trans g2, sl_val, owns_new g2' (owns_stay g2' w1) (owns_root w1 hq) (g1.sub.free hq) ⟨vs, upd_same, n1⟩⟩ (p q)
theorem ev_lst {ta : TA} (h : EvA K ta δ μ fun ss μ1 => ∃ ds, AsDs ss ds ∧ ds.length ≤ sizeLine ∧ P (.dat (.list ds)) μ1) : EvC K (tLst ta) δ μ P := by
  intro I H σ Q st k
  refine h I H σ _ st fun vs ss μ1 I1 H1 g1 n1 w1 p1 => ?_
  obtain ⟨ds, hd, hl, p⟩ := p1
  have ha := asds_ok hd n1
  refine ⟨by rw [dpa_len ha]; exact hl, fun q hq => ?_⟩
  have g2 : Go (rt μ1) I1 H1 (rt μ1) (upd I1 q (.lst vs)) (upd H1 q (.lst vs)) := Go.new g1.sub hq
  have g2' : Go [] I1 H1 [] (upd I1 q (.lst vs)) (upd H1 q (.lst vs)) := Go.new g1.sub hq
  exact k _ _ μ1 _ _ ⟨g1.trans g2, sl_dat (.lst upd_same (dpa_same g2.im ha)), owns_stay g2' w1⟩ p
/-- a list that will be changed -/
theorem ev_lstO {ta : TA} (h : EvA K ta δ μ fun ss μ1 => ∃ ds, AsDs ss ds ∧ ds.length ≤ sizeLine ∧ ∀ p, P (.val (.ref p)) ((p, .ls ds) :: μ1)) : EvC K (tLst ta) δ μ P := by
  intro I H σ Q st k
  refine h I H σ _ st fun vs ss μ1 I1 H1 g1 n1 w1 p1 => ?_
  obtain ⟨ds, hd, hl, p⟩ := p1
  have ha := asds_ok hd n1
  refine ⟨by rw [dpa_len ha]; exact hl, fun q hq => ?_⟩
  have g2 : Go (rt μ1) I1 H1 (q :: rt μ1) I1 (upd H1 q (.lst vs)) := Go.own g1.sub hq
  have g2' : Go [] I1 H1 [q] I1 (upd H1 q (.lst vs)) := Go.own g1.sub hq
  exact k _ _ ((q, .ls ds) :: μ1) _ _ ⟨g1.trans g2, sl_val, owns_new g2' (owns_stay g2' w1) (owns_root w1 hq) (g1.sub.free hq) ⟨vs, upd_same, ha⟩⟩ (p q)
theorem ev_dnewK (h : ∀ p, P (.val (.ref p)) ((p, .dk []) :: μ)) : EvC K tDNewK δ μ P := by
  intro I H σ Q st k q hq
  have g2 : Go (rt μ) I H (q :: rt μ) I (upd H q (.dK [])) := Go.own st.sm hq
  have g2' : Go [] I H [q] I (upd H q (.dK [])) := Go.own st.sm hq
  exact k _ _ ((q, .dk []) :: μ) _ _ ⟨g2, sl_val, owns_new g2' (owns_stay g2' st.own) (owns_root st.own hq) (st.sm.free hq) ⟨[], upd_same, rfl, .nil⟩⟩ (h q)
theorem ev_dnewT (h : ∀ p, P (.val (.ref p)) ((p, .dt []) :: μ)) : EvC K tDNewT δ μ P := by
  intro I H σ Q st k q hq
  have g2 : Go (rt μ) I H (q :: rt μ) I (upd H q (.dT [])) := Go.own st.sm hq
  have g2' : Go [] I H [q] I (upd H q (.dT [])) := Go.own st.sm hq
  exact k _ _ ((q, .dt []) :: μ) _ _ ⟨g2, sl_val, owns_new g2' (owns_stay g2' st.own) (owns_root st.own hq) (st.sm.free hq) ⟨[], upd_same, rfl, .nil⟩⟩ (h q)
end

/-! ### statements -/
structure AEnds where
  nx : List Sl → Mu → Prop
  rt : Sl → Mu → Prop
  bk : List Sl → Mu → Prop := fun _ _ => False
  ct : List Sl → Mu → Prop := fun _ _ => False
/-- a state is reached from (μ, I, H) where A holds of its slots and objects -/
def Rch (K : PySem.W.Frag) (μ : Mu) (I H : Hp) (A : List Sl → Mu → Prop) (σ' : L2.St) (H' : Hp) : Prop :=
  ∃ δ' μ' I', Go (K81.rt μ) I H (K81.rt μ') I' H' ∧ Env K I' σ' δ' ∧ Owns K I' H' μ' ∧ A δ' μ'
def RchV (K : PySem.W.Frag) (μ : Mu) (I H : Hp) (A : Sl → Mu → Prop) (v : V) (H' : Hp) : Prop :=
  ∃ s μ' I', Vend K μ I H v s μ' I' H' ∧ A s μ'
def ExC (K : PySem.W.Frag) (t : TS) (δ : List Sl) (μ : Mu) (A : AEnds) : Prop :=
  ∀ (I H : Hp) (σ : L2.St) (D : Ends), Stt K I H σ δ μ → (∀ σ' H', Rch K μ I H A.nx σ' H' → D.nx σ' H') → (∀ v H', RchV K μ I H A.rt v H' → D.rt v H') →
    (∀ σ' H', Rch K μ I H A.bk σ' H' → D.bk σ' H') → (∀ σ' H', Rch K μ I H A.ct σ' H' → D.ct σ' H') → t D σ H
section
variable {K : PySem.W.Frag} {δ : List Sl} {μ : Mu} {A : AEnds} {te : TE} {t u : TS} {I H : Hp}
theorem Rch.back {μ1 : Mu} {I1 H1 : Hp} {B : List Sl → Mu → Prop} {σ' : L2.St} {H' : Hp} (g : Go (rt μ) I H (rt μ1) I1 H1) (x : Rch K μ1 I1 H1 B σ' H') : Rch K μ I H B σ' H' :=
  let ⟨δ', μ', I', g', e, w, a⟩ := x
  ⟨δ', μ', I', g.trans g', e, w, a⟩
theorem RchV.back {μ1 : Mu} {I1 H1 : Hp} {B : Sl → Mu → Prop} {v : V} {H' : Hp} (g : Go (rt μ) I H (rt μ1) I1 H1) (x : RchV K μ1 I1 H1 B v H') : RchV K μ I H B v H' :=
  let ⟨s, μ', I', e, a⟩ := x
  ⟨s, μ', I', e.back g, a⟩
theorem ex_seq (h : ExC K t δ μ { A with nx := fun δ' μ' => ExC K u δ' μ' A }) : ExC K (tSeq t u) δ μ A := by
  intro I H σ D st n r b c
  refine h I H σ _ st (fun σ1 H1 x => ?_) r b c
  obtain ⟨δ1, μ1, I1, g1, e1, w1, a1⟩ := x
  exact a1 I1 H1 σ1 D ⟨g1.sub, e1, w1⟩ (fun σ' H' y => n σ' H' (y.back g1)) (fun v H' y => r v H' (y.back g1)) (fun σ' H' y => b σ' H' (y.back g1)) fun σ' H' y => c σ' H' (y.back g1)
theorem ex_next (h : A.nx δ μ) : ExC K tNext δ μ A := fun I H σ D st n _ _ _ => n σ H ⟨δ, μ, I, Go.refl st.sm, st.env, st.own, h⟩
theorem ex_brk (h : A.bk δ μ) : ExC K tBreak δ μ A := fun I H σ D st _ _ b _ => b σ H ⟨δ, μ, I, Go.refl st.sm, st.env, st.own, h⟩
theorem ex_cont (h : A.ct δ μ) : ExC K tCont δ μ A := fun I H σ D st _ _ _ c => c σ H ⟨δ, μ, I, Go.refl st.sm, st.env, st.own, h⟩
theorem ex_drop (h : EvC K te δ μ fun _ μ' => A.nx δ μ') : ExC K (tDrop te) δ μ A := fun I H σ D st n _ _ _ =>
  h I H σ _ st fun v s μ1 I1 H1 e1 p1 => n σ H1 ⟨δ, μ1, I1, e1.go, env_same e1.go.im st.env, e1.own, p1⟩
theorem ex_ret (h : EvC K te δ μ A.rt) : ExC K (tRet te) δ μ A := fun I H σ D st _ r _ _ =>
  h I H σ _ st fun v s μ1 I1 H1 e1 p1 => r v H1 ⟨s, μ1, I1, e1, p1⟩
theorem ex_retN (h : A.rt (.dat .none) μ) : ExC K tRetN δ μ A := fun I H σ D st _ r _ _ => r .non H ⟨_, μ, I, .refl st.sm st.own (sl_dat .non), h⟩
theorem ex_if {tt : TT} (h : EvB K tt δ μ fun b μ1 => (b = true → ExC K t δ μ1 A) ∧ (b = false → ExC K u δ μ1 A)) : ExC K (tIfS tt t u) δ μ A := by
  intro I H σ D st n r b c
  refine h I H σ _ st fun x μ1 I1 H1 g1 w1 p1 => ?_
  cases x with
  | true => exact iteT (p1.1 rfl I1 H1 σ D (st.go g1 w1) (fun σ' H' y => n σ' H' (y.back g1)) (fun v H' y => r v H' (y.back g1)) (fun σ' H' y => b σ' H' (y.back g1)) fun σ' H' y => c σ' H' (y.back g1))
  | false => exact iteF (p1.2 rfl I1 H1 σ D (st.go g1 w1) (fun σ' H' y => n σ' H' (y.back g1)) (fun v H' y => r v H' (y.back g1)) (fun σ' H' y => b σ' H' (y.back g1)) fun σ' H' y => c σ' H' (y.back g1))
/-- targets: what a value does to the slots -/
def TgA (K : PySem.W.Frag) (g : TG) (s : Sl) (δ : List Sl) (μ : Mu) (P : List Sl → Mu → Prop) : Prop :=
  ∀ (I H : Hp) (σ : L2.St) (v : V) (Q : L2.St → Hp → Prop), Stt K I H σ δ μ → SlOk K I (some v) s → (∀ σ' H', Rch K μ I H P σ' H' → Q σ' H') → g v σ H Q
def TgsA (K : PySem.W.Frag) (g : TGs) (ss : List Sl) (δ : List Sl) (μ : Mu) (P : List Sl → Mu → Prop) : Prop :=
  ∀ (I H : Hp) (σ : L2.St) (vs : List V) (Q : L2.St → Hp → Prop), Stt K I H σ δ μ → Env K I (vals vs) ss → (∀ σ' H', Rch K μ I H P σ' H' → Q σ' H') → g vs σ H Q
variable {P : List Sl → Mu → Prop}
theorem tg_name {i : Nat} {s : Sl} (h : P (δ.set i s) μ) : TgA K (gName i) s δ μ P := fun I H σ v Q st x k => k _ H ⟨δ.set i s, μ, I, Go.refl st.sm, env_set i st.env x, st.own, h⟩
theorem tgs_nil (h : P δ μ) : TgsA K gNil [] δ μ P := fun I H σ vs Q st x k => by
  cases vs with
  | nil => exact ⟨rfl, k σ H ⟨δ, μ, I, Go.refl st.sm, st.env, st.own, h⟩⟩
  | cons _ _ => exact x.elim
theorem tgs_cons {g : TG} {gs : TGs} {s : Sl} {ss : List Sl} (h : TgA K g s δ μ fun δ' μ' => TgsA K gs ss δ' μ' P) : TgsA K (gCons g gs) (s :: ss) δ μ P := fun I H σ vs Q st x k => by
  cases vs with
  | nil => exact x.elim
  | cons v vs =>
    refine ⟨v, vs, rfl, h I H σ v _ st x.1 fun σ1 H1 y => ?_⟩
    obtain ⟨δ1, μ1, I1, g1, e1, w1, a1⟩ := y
    exact a1 I1 H1 σ1 vs _ ⟨g1.sub, e1, w1⟩ (env_same g1.im x.2) fun σ2 H2 z => k σ2 H2 (z.back g1)
theorem tg_tup {n : Nat} {gs : TGs} {ds : List PyData} (hl : ds.length = n) (h : TgsA K gs (ds.map Sl.dat) δ μ P) : TgA K (gTup K n gs) (.dat (.tuple ds)) δ μ P := fun I H σ v Q st x k => by
  obtain ⟨_, e, hd⟩ := x
  cases e
  obtain ⟨a, xs, rfl, hs, ha⟩ := dp_tup hd
  exact ⟨a, xs, rfl, .inl (.inl (st.sm _ _ hs)), (dpa_len ha).trans hl, h I H σ xs Q st (env_dats ha) k⟩
theorem tg_tupS {n : Nat} {gs : TGs} {ss : List Sl} {a : Addr} (hm : (a, Ob.tp ss) ∈ μ) (hl : ss.length = n) (h : TgsA K gs ss δ μ P) : TgA K (gTup K n gs) (.val (.ref a)) δ μ P := fun I H σ v Q st x k => by
  cases x
  obtain ⟨_, vs, ho, he⟩ := st.own.ok _ hm
  exact ⟨a, vs, rfl, .inl (.inl ho), by have := env_len he; rw [← hl]; simpa [vals] using this, h I H σ vs Q st he k⟩
theorem ex_asg {g : TG} (h : EvC K te δ μ fun s μ1 => TgA K g s δ μ1 A.nx) : ExC K (tAsg te g) δ μ A := fun I H σ D st n _ _ _ =>
  h I H σ _ st fun v s μ1 I1 H1 e1 p1 => p1 I1 H1 σ v _ (st.go e1.go e1.own) e1.sl fun σ2 H2 x => n σ2 H2 (x.back e1.go)
theorem ex_aug {i : Nat} {ti : TIp} {s0 : Sl} (h0 : δ[i]? = some s0) (n0 : s0 ≠ .any) (h : EvC K te δ μ fun s1 μ1 => OpA K ti s0 s1 μ1 fun s2 μ2 => A.nx (δ.set i s2) μ2) : ExC K (tAug i te ti) δ μ A := by
  intro I H σ D st n _ _ _
  obtain ⟨o, ho, hs⟩ := env_get st.env h0
  have : ∃ v, o = some v := by
    cases s0 with
    | any => exact absurd rfl n0
    | dat d => obtain ⟨v, e, _⟩ := hs; exact ⟨v, e⟩
    | scr d => obtain ⟨a, e, _⟩ := hs; exact ⟨.ref a, e⟩
    | val v => exact ⟨v, hs⟩
  obtain ⟨v, rfl⟩ := this
  refine ⟨v, ho, h I H σ _ st fun y s1 μ1 I1 H1 e1 p1 => ?_⟩
  refine p1 I1 H1 v y _ e1.go.sub e1.own (slok_same e1.go.im hs) e1.sl fun z s2 μ2 I2 H2 e2 p2 => ?_
  have g := e1.go.trans e2.go
  exact n _ H2 ⟨_, μ2, I2, g, env_set i (env_same g.im st.env) e2.sl, e2.own, p2⟩
end
end K81
/-! ## E3 -/
set_option Elab.async false
set_option linter.all false
set_option maxRecDepth 100000
set_option maxHeartbeats 4000000
/-! Loops, comprehensions, calls over slots and objects. -/
namespace K81
open PySem PySem.Spec PyProof.Rows L2

/-- J goes over the data ds, whatever is new -/
def WalkD (K : PySem.W.Frag) (I : Hp) (J : It) (ds : List PyData) : Prop :=
  ∃ (G : Hp → Prop) (Y : Nat → Hp → V → Hp → Prop), Walk J ds.length G Y ∧ (∀ H, Same I H → G H) ∧ ∀ i H x H', Y i H x H' → H' = H ∧ ∀ d, ds[i]? = some d → At K I x d
def EvI (K : PySem.W.Frag) (wi : TI) (δ : List Sl) (μ : Mu) (P : List PyData → Mu → Prop) : Prop :=
  ∀ (I H : Hp) (σ : L2.St) (R : It → Hp → Prop), Stt K I H σ δ μ → (∀ J ds μ' I' H', Go (rt μ) I H (rt μ') I' H' → Owns K I' H' μ' → WalkD K I' J ds → P ds μ' → R J H') → wi σ H R
section
variable {K : PySem.W.Frag} {δ : List Sl} {μ : Mu} {te : TE} {P : List PyData → Mu → Prop} {I H : Hp}
theorem ei_list (h : EvC K te δ μ fun s μ1 => ∃ ds, AsD s (.list ds) ∧ P ds μ1) : EvI K (iList K te) δ μ P := by
  intro I H σ R st k
  refine h I H σ _ st fun v s μ1 I1 H1 e1 p1 => ?_
  obtain ⟨ds, hd, p⟩ := p1
  obtain ⟨a, xs, rfl, hs, ha⟩ := dp_lst (asd_ok hd e1.sl)
  refine ⟨a, rfl, ⟨xs, SqL.of (e1.go.sub _ _ hs)⟩, k _ ds μ1 I1 H1 e1.go e1.own ⟨fun H => SqL K H a xs, YAt xs, ?_, fun H' s' => SqL.of (s' _ _ hs), fun i H x H' y => ⟨y.1, fun d hd => ?_⟩⟩ p⟩
  · rw [← dpa_len ha]
    exact walk_list
  · obtain ⟨v, hv, hx⟩ := dpa_get ha hd
    have e := y.2
    rw [hv] at e
    cases e
    exact hx
theorem ei_tup {te : TE} (h : EvC K te δ μ fun s μ1 => ∃ ds, s = .dat (.tuple ds) ∧ P ds μ1) : EvI K (iTup K te) δ μ P := by
  intro I H σ R st k
  refine h I H σ _ st fun v s μ1 I1 H1 e1 p1 => ?_
  obtain ⟨ds, rfl, p⟩ := p1
  obtain ⟨a, xs, rfl, hs, ha⟩ := dp_tup (asd_ok (.dat _) e1.sl)
  refine ⟨a, rfl, ⟨xs, SqT.of (e1.go.sub _ _ hs)⟩, k _ ds μ1 I1 H1 e1.go e1.own ⟨fun H => SqT K H a xs, YAt xs, ?_, fun H' s' => SqT.of (s' _ _ hs), fun i H x H' y => ⟨y.1, fun d hd => ?_⟩⟩ p⟩
  · rw [← dpa_len ha]
    exact walk_tup
  · obtain ⟨v, hv, hx⟩ := dpa_get ha hd
    have e := y.2
    rw [hv] at e
    cases e
    exact hx
/-- a text's signs -/
def signs (z : Str) : List PyData := z.cps.toList.map fun c => .str ⟨#[c]⟩
theorem ei_str {te : TE} (h : EvC K te δ μ fun s μ1 => ∃ z, s = .dat (.str z) ∧ P (signs z) μ1) : EvI K (iStr te) δ μ P := by
  intro I H σ R st k
  refine h I H σ _ st fun v s μ1 I1 H1 e1 p1 => ?_
  obtain ⟨z, rfl, p⟩ := p1
  have hv := dp_str (asd_ok (.dat _) e1.sl)
  refine ⟨z, hv, k _ (signs z) μ1 I1 H1 e1.go e1.own ⟨fun _ => True, fun i H v H' => H' = H ∧ ∃ c, z.cps[i]? = some c ∧ v = .str ⟨#[c]⟩, ?_, fun H' s' => trivial, fun i H x H' y => ⟨y.1, fun d hd => ?_⟩⟩ p⟩
  · have el : (signs z).length = z.cps.size := by simp [signs]
    rw [el]
    exact walk_str
  · obtain ⟨c, hc, rfl⟩ := y.2
    have e : (signs z)[i]? = some (.str ⟨#[c]⟩) := by
      unfold signs
      rw [List.getElem?_map, Array.getElem?_toList, hc]
      rfl
    rw [e] at hd
    cases hd
    exact .str _
def rangeD (lo : Int) (n : Nat) : List PyData := (List.range n).map fun i => .int (lo + (i : Nat))
theorem rangeD_len {lo : Int} {n : Nat} : (rangeD lo n).length = n := by simp [rangeD]
theorem rangeD_get {lo : Int} {n i : Nat} {d : PyData} (h : (rangeD lo n)[i]? = some d) : i < n ∧ d = .int (lo + (i : Nat)) := by
  unfold rangeD at h
  rw [List.getElem?_map] at h
  by_cases hi : i < n
  · rw [List.getElem?_range hi] at h
    cases h
    exact ⟨hi, rfl⟩
  · rw [List.getElem?_eq_none (by simpa using hi)] at h
    cases h
theorem walkD_range {lo : Int} {n : Nat} : WalkD K I (Itr lo n) (rangeD lo n) := by
  refine ⟨fun _ => True, YFn fun i => .int (lo + i), ?_, fun _ _ => trivial, fun i H x H' y => ⟨y.1, fun d hd => ?_⟩⟩
  · rw [rangeD_len]
    exact walk_range
  · obtain ⟨_, rfl⟩ := rangeD_get hd
    rw [y.2]
    exact .int _
theorem ei_rng1 {ta : TA} (h : EvA K ta δ μ fun ss μ1 => ∃ n : Nat, ss = [.dat (.int n)] ∧ n ≤ 100000 ∧ P (rangeD 0 n) μ1) : EvI K (iRng1 ta) δ μ P := by
  intro I H σ R st k
  refine h I H σ _ st fun vs ss μ1 I1 H1 g1 n1 w1 p1 => ?_
  obtain ⟨n, rfl, hn, p⟩ := p1
  obtain ⟨v, vs, rfl⟩ : ∃ v ws, vs = v :: ws := by cases vs with
    | nil => exact n1.elim
    | cons v ws => exact ⟨v, ws, rfl⟩
  obtain ⟨e1, e2⟩ := n1
  cases vs with
  | cons _ _ => exact e2.elim
  | nil =>
    have hv := dp_int (asd_ok (.dat _) e1)
    subst hv
    refine ⟨n, rfl, by omega, by omega, ?_⟩
    rw [Int.toNat_natCast]
    exact k _ _ μ1 I1 H1 g1 w1 walkD_range p
theorem ei_rng2 {ta : TA} (h : EvA K ta δ μ fun ss μ1 => ∃ (a b : Int), ss = [.dat (.int a), .dat (.int b)] ∧ -100000 ≤ a ∧ a ≤ 100000 ∧ -100000 ≤ b ∧ b ≤ 100000 ∧ P (rangeD a (b - a).toNat) μ1) : EvI K (iRng2 ta) δ μ P := by
  intro I H σ R st k
  refine h I H σ _ st fun vs ss μ1 I1 H1 g1 n1 w1 p1 => ?_
  obtain ⟨a, b, rfl, ha, ha', hb, hb', p⟩ := p1
  have hd : AtAll K I1 vs [.int a, .int b] := asds_ok (.cons (.dat _) (.cons (.dat _) .nil)) n1
  have e := dpa_ints (ns := [a, b]) hd
  subst e
  exact ⟨a, b, rfl, ⟨by omega, by omega, by omega, by omega⟩, k _ _ μ1 I1 H1 g1 w1 walkD_range p⟩

/-! ### for -/
theorem ex_for {wi : TI} {g : TG} {tb : TS} {A : AEnds} (h : EvI K wi δ μ fun ds μ1 => ∃ Inv : Nat → List Sl → Mu → Prop, Inv 0 δ μ1 ∧
      (∀ k d δ' μ', ds[k]? = some d → Inv k δ' μ' → TgA K g (.dat d) δ' μ' fun δ2 μ2 => ExC K tb δ2 μ2 { nx := Inv (k + 1), rt := A.rt, bk := A.nx, ct := Inv (k + 1) }) ∧ ∀ δ' μ', Inv ds.length δ' μ' → A.nx δ' μ') :
    ExC K (tFor wi g tb) δ μ A := by
  intro I H σ D st n r b c
  refine h I H σ _ st fun J ds μ1 I1 H1 g1 w1 wk p1 => ?_
  obtain ⟨Inv, h0, hs, hd⟩ := p1
  obtain ⟨G, Y, W, hG, hY⟩ := wk
  have st1 := st.go g1 w1
  refine for_it W (fun i σ' H' => Rch K μ1 I1 H1 (Inv i) σ' H') ⟨δ, μ1, I1, Go.refl st1.sm, st1.env, w1, h0⟩ (fun i σ' H' hi x => ?_) (fun i x σ' H' H'' hi pv y => ?_) fun σ' H' x => ?_
  · obtain ⟨_, _, I', g', _⟩ := x
    exact hG _ (g'.im.trans g'.sub)
  · obtain ⟨δ2, μ2, I2, g2, e2, w2, inv⟩ := pv
    obtain ⟨rfl, hx⟩ := hY _ _ _ _ y
    have hd2 := hx ds[i] (List.getElem?_eq_getElem hi)
    refine hs i ds[i] δ2 μ2 (List.getElem?_eq_getElem hi) inv I2 H'' σ' x _ ⟨g2.sub, e2, w2⟩ (sl_dat (dp_same g2.im hd2)) fun σ3 H3 z => ?_
    obtain ⟨δ3, μ3, I3, g3, e3, w3, ex⟩ := z
    have g23 := g2.trans g3
    refine ex I3 H3 σ3 _ ⟨g3.sub, e3, w3⟩ (fun σ4 H4 z => z.back g23) (fun v H4 z => r v H4 ((z.back g23).back g1)) (fun σ4 H4 z => n σ4 H4 ((z.back g23).back g1)) fun σ4 H4 z => z.back g23
  · obtain ⟨δ2, μ2, I2, g2, e2, w2, inv⟩ := x
    exact n σ' H' (Rch.back g1 ⟨δ2, μ2, I2, g2, e2, w2, hd _ _ inv⟩)

/-! ### comprehensions -/
/-- what is wiped stays wiped behind the target -/
def WipeG (g : TG) (vs : List Nat) : Prop := ∀ (v : V) (σ : L2.St) (H : Hp) (Q Q' : L2.St → Hp → Prop), g v σ H Q → (∀ σ2 H2, Q σ2 H2 → wipe σ2 vs = wipe σ vs → Q' σ2 H2) → g v σ H Q'
def WipeGs (g : TGs) (vs : List Nat) : Prop := ∀ (xs : List V) (σ : L2.St) (H : Hp) (Q Q' : L2.St → Hp → Prop), g xs σ H Q → (∀ σ2 H2, Q σ2 H2 → wipe σ2 vs = wipe σ vs → Q' σ2 H2) → g xs σ H Q'
theorem wipe_set {σ : L2.St} {i : Nat} {x : Option V} : ∀ {vs : List Nat}, i ∈ vs → wipe (σ.set i x) vs = wipe σ vs
  | [], h => by simp at h
  | v :: vs, h => by
    unfold wipe
    by_cases e : i ∈ vs
    · rw [wipe_set e]
    · have ev : i = v := by rcases List.mem_cons.mp h with q | q; exact q; exact absurd q e
      subst ev
      have : ∀ (ws : List Nat), i ∉ ws → wipe (σ.set i x) ws = (wipe σ ws).set i x := by
        intro ws hw
        induction ws with
        | nil => rfl
        | cons w ws ih =>
          unfold wipe
          rw [ih (fun z => hw (List.mem_cons_of_mem _ z)), List.set_comm _ _ (fun z => hw (by rw [z]; exact List.mem_cons_self))]
      rw [this vs e, List.set_set]
theorem wipe_wipe {σ : L2.St} : ∀ {vs ws : List Nat}, (∀ v ∈ vs, v ∈ ws) → wipe (wipe σ vs) ws = wipe σ ws
  | [], _, _ => rfl
  | v :: vs, ws, h => by
    show wipe ((wipe σ vs).set v none) ws = _
    rw [wipe_set (h v List.mem_cons_self)]
    exact wipe_wipe fun u hu => h u (List.mem_cons_of_mem _ hu)
theorem wg_name {i : Nat} {vs : List Nat} (h : i ∈ vs) : WipeG (gName i) vs := fun v σ H Q Q' q m => m _ _ q (wipe_set h)
theorem wgs_nil {vs : List Nat} : WipeGs gNil vs := fun xs σ H Q Q' q m => ⟨q.1, m _ _ q.2 rfl⟩
theorem wgs_cons {g : TG} {gs : TGs} {vs : List Nat} (h : WipeG g vs) (hs : WipeGs gs vs) : WipeGs (gCons g gs) vs := fun xs σ H Q Q' q m => by
  obtain ⟨v, r, rfl, q⟩ := q
  exact ⟨v, r, rfl, h v σ H _ _ q fun σ1 H1 z e1 => hs r σ1 H1 _ _ z fun σ2 H2 y e2 => m _ _ y (e2.trans e1)⟩
theorem wg_tup {n : Nat} {gs : TGs} {vs : List Nat} (h : WipeGs gs vs) : WipeG (gTup K n gs) vs := fun v σ H Q Q' q m => by
  obtain ⟨a, xs, e, hs, hl, q⟩ := q
  exact ⟨a, xs, e, hs, hl, h xs σ H Q Q' q m⟩

/-- the new list is from now on read alone -/
theorem Go.freeze {S S' S2 : List Addr} {I H I' H' : Hp} {p : Addr} {o : HO} (g : Go S I H S' I' H') (hp : H p = none) (hI : I' p = none) (ho : H' p = some o) (h2 : ∀ a ∈ S2, a ∈ S') : Go S I H S2 (upd I' p o) H' where
  im := fun b u e => by
    have := g.im b u e
    rw [upd_ne fun q => by rw [q, hI] at this; cases this]
    exact this
  sub := fun b u e => by
    by_cases q : b = p
    · subst q; rw [upd_same] at e; rw [ho]; exact e
    · rw [upd_ne q] at e; exact g.sub b u e
  fresh := fun b u e => by
    by_cases q : b = p
    · subst q; exact .inr (.inl hp)
    · rw [upd_ne q] at e; exact g.fresh b u e
  keep := g.keep
  there := g.there
  rts := fun a m => g.rts a (h2 a m)
theorem owns_freeze {I H : Hp} {p : Addr} {o : HO} {ob : Ob} {μ : Mu} (t : ob.isTp = false) (w : Owns K I H ((p, ob) :: μ)) : Owns K (upd I p o) H μ := by
  obtain ⟨n, nd⟩ := List.nodup_cons.mp w.nd
  refine ⟨nd, fun q hq => ?_⟩
  obtain ⟨h1, h2⟩ := w.ok q (List.mem_cons_of_mem _ hq)
  have hI := fre_none (w.ok (p, ob) List.mem_cons_self).1 t
  have ne : q.1 ≠ p := fun e => n (List.mem_map.mpr ⟨q, hq, e⟩)
  refine ⟨?_, obok_same (fun b u e => ?_) (fun o e => e) h2⟩
  · cases t2 : q.2.isTp with
    | true =>
      cases hq2 : q.2 with
      | tp ss => trivial
      | _ => rw [hq2] at t2; cases t2
    | false => exact fre_of (by rw [upd_ne ne]; exact fre_none h1 t2)
  rw [upd_ne fun z => by rw [z, hI] at e; cases e]
  exact e
theorem ev_lc {wi : TI} {g : TG} {tt : TT} {vs : List Nat} {P : Sl → Mu → Prop} (hw : WipeG g vs) (h : EvI K wi δ μ fun ds μ1 => ∃ Inv : Nat → List PyData → Mu → Prop, Inv 0 [] μ1 ∧
      (∀ k d acc μ', ds[k]? = some d → Inv k acc μ' → TgA K g (.dat d) (wipeS δ vs) μ' fun δ2 μ2 => EvB K tt δ2 μ2 fun b μ3 =>
        (b = true → EvC K te δ2 μ3 fun s μ4 => ∃ d', AsD s d' ∧ acc.length < sizeLine ∧ Inv (k + 1) (acc ++ [d']) μ4) ∧ (b = false → Inv (k + 1) acc μ3)) ∧ ∀ acc μ', Inv ds.length acc μ' → P (.dat (.list acc)) μ') :
    EvC K (tLc wi g tt te vs) δ μ P := by
  intro I H σ Q st k
  refine h I H σ _ st fun J ds μ1 I1 H1 g1 w1 wk p1 => ?_
  obtain ⟨Inv, h0, hs, hd⟩ := p1
  obtain ⟨G, Y, W, hG, hY⟩ := wk
  have st1 := st.go g1 w1
  intro D hD
  have nI1 : I1 D = none := g1.sub.free hD
  have start : Go (rt μ1) I1 H1 (D :: rt μ1) I1 (upd H1 D (.lst [])) := Go.own g1.sub hD
  have start0 : Go [] I1 H1 [D] I1 (upd H1 D (.lst [])) := Go.own g1.sub hD
  refine lc_it W (fun i H' => ∃ acc μ' I', Go (rt μ1) I1 H1 (D :: rt μ') I' H' ∧ Owns K I' H' ((D, .ls acc) :: μ') ∧ Inv i acc μ')
    ⟨[], μ1, I1, start, owns_new start0 (owns_stay start0 w1) (owns_root w1 hD) nI1 ⟨[], upd_same, .nil⟩, h0⟩ (fun i H' hi x => ?_) (fun i x H' H'' hi pv y => ?_) fun H' x => ?_
  · obtain ⟨_, _, I', g', _⟩ := x
    exact hG _ (g'.im.trans g'.sub)
  · obtain ⟨acc, μ2, I2, g2, w2, inv⟩ := pv
    obtain ⟨rfl, hx⟩ := hY _ _ _ _ y
    have hd2 := hx ds[i] (List.getElem?_eq_getElem hi)
    have hn : D ∉ rt μ2 := (List.nodup_cons.mp w2.nd).1
    have wt : Owns K I2 H'' μ2 := ⟨(List.nodup_cons.mp w2.nd).2, fun p hp => w2.ok p (List.mem_cons_of_mem _ hp)⟩
    have oD := w2.ok (D, .ls acc) List.mem_cons_self
    have envW : Env K I2 (wipe σ vs) (wipeS δ vs) := env_wipe (env_same (g1.im.trans g2.im) st.env) vs
    -- the object D stays under whatever μ2 alone may change
    have fin : ∀ {μ5 : Mu} {I5 H5 : Hp}, Go (rt μ2) I2 H'' (rt μ5) I5 H5 → Owns K I5 H5 μ5 → Go (rt μ1) I1 H1 (D :: rt μ5) I5 H5 ∧ Owns K I5 H5 ((D, .ls acc) :: μ5) := fun {μ5 I5 H5} g5 w5 => by
      have od5 := own_stay g5 hn oD
      have hD2 : H'' D ≠ none := obok_there oD.2
      refine ⟨g2.trans (g5.more _ (fun a m => List.mem_cons_of_mem _ m) fun a m => ?_), ⟨List.nodup_cons.mpr ⟨fun m => ?_, w5.nd⟩, fun p hp => ?_⟩⟩
      · rcases List.mem_cons.mp m with e | m
        · exact .inr (by rw [e]; exact List.mem_cons_self)
        · exact .inl m
      · rcases g5.rts D m with z | z
        · exact hn z
        · exact hD2 z
      · rcases List.mem_cons.mp hp with e | hp
        · rw [e]; exact od5
        · exact w5.ok p hp
    refine hw _ _ _ _ _ (hs i ds[i] acc μ2 (List.getElem?_eq_getElem hi) inv I2 H'' (wipe σ vs) x _ ⟨g2.sub, envW, wt⟩ (sl_dat (dp_same g2.im hd2)) fun σ3 H3 z => z) fun σ3 H3 z hwp => ?_
    obtain ⟨δ3, μ3, I3, g3, e3, w3, ex⟩ := z
    refine ⟨hwp.trans (wipe_wipe fun _ h => h), ex I3 H3 σ3 _ ⟨g3.sub, e3, w3⟩ fun b μ4 I4 H4 g4 w4 p4 => ?_⟩
    cases b with
    | false =>
      refine iteF ?_
      obtain ⟨ga, wa⟩ := fin (g3.trans g4) w4
      exact ⟨acc, μ4, I4, ga, wa, p4.2 rfl⟩
    | true =>
      refine iteT ?_
      refine p4.1 rfl I4 H4 σ3 _ ⟨g4.sub, env_same g4.im e3, w4⟩ fun v s μ5 I5 H5 e5 p5 => ?_
      obtain ⟨d', had, hlen, inv'⟩ := p5
      obtain ⟨ga, wa⟩ := fin ((g3.trans g4).trans e5.go) e5.own
      obtain ⟨nD, xs, hxs, hda⟩ := wa.ok (D, .ls acc) List.mem_cons_self
      have hdv := asd_ok had e5.sl
      refine ⟨xs, hxs, by rw [dpa_len hda]; exact hlen, acc ++ [d'], μ5, I5, ?_, ?_, inv'⟩
      · exact ga.trans (Go.wr ga.sub List.mem_cons_self nD (by rw [hxs]; exact fun z => nomatch z))
      · have gw : Go [D] I5 H5 [D] I5 (upd H5 D (.lst (xs ++ [v]))) := Go.wr ga.sub List.mem_cons_self nD (by rw [hxs]; exact fun z => nomatch z)
        exact owns_set (j := 0) wa rfl gw (fun b m => by simpa using m) nD ⟨xs ++ [v], upd_same, dpa_app hda (.cons hdv .nil)⟩
  · obtain ⟨acc, μ2, I2, g2, w2, inv⟩ := x
    obtain ⟨nD, xs, hxs, hda⟩ := w2.ok (D, .ls acc) List.mem_cons_self
    have gf : Go (rt μ1) I1 H1 (rt μ2) (upd I2 D (.lst xs)) H' := g2.freeze hD nD hxs fun a m => List.mem_cons_of_mem _ m
    refine k _ _ μ2 _ H' ⟨g1.trans gf, sl_dat (.lst upd_same (dpa_same (fun b u e => ?_) hda)), owns_freeze rfl w2⟩ (hd acc μ2 inv)
    rw [upd_ne fun z => by rw [z, nD] at e; cases e]
    exact e
end
end K81
/-! ## E4 -/
set_option Elab.async false
set_option linter.all false
set_option maxRecDepth 100000
set_option maxHeartbeats 4000000
/-! Promises over slots and objects; calls; fields. -/
namespace K81
open PySem PySem.Spec PyProof.Rows L2

/-- a slot that says less -/
inductive Sub : Sl → Sl → Prop
  | refl (s : Sl) : Sub s s
  | non : Sub (.val .non) (.dat .none)
inductive Subs : List Sl → List Sl → Prop
  | nil : Subs [] []
  | cons {s s' : Sl} {ss ss' : List Sl} : Sub s s' → Subs ss ss' → Subs (s :: ss) (s' :: ss')
section
variable {K : PySem.W.Frag} {I H I' H' : Hp}
theorem sub_ok {s s' : Sl} {o : Option V} (h : Sub s s') (x : SlOk K I o s) : SlOk K I o s' := by
  cases h with
  | refl => exact x
  | non => exact ⟨_, x, .non⟩
theorem subs_ok : ∀ {ss ss' : List Sl} {σ : L2.St}, Subs ss ss' → Env K I σ ss → Env K I σ ss'
  | [], _, [], .nil, _ => trivial
  | _ :: _, _, _ :: _, .cons h r, ⟨x, y⟩ => ⟨sub_ok h x, subs_ok r y⟩
  | [], _, _ :: _, _, h => h.elim
  | _ :: _, _, [], _, h => h.elim
theorem Subs.refl : ∀ ss : List Sl, Subs ss ss
  | [] => .nil
  | s :: ss => .cons (.refl s) (Subs.refl ss)

/-! ### a def that changes nothing -/
abbrev PSp := List Sl → (Sl → Prop) → Prop
def spP (K : PySem.W.Frag) (n : Nat) (F : PSp) : Sp := fun vs H Q _ => vs.length = n ∧ ∃ I ss P, Same I H ∧ Env K I (vals vs) ss ∧ F ss P ∧ ∀ v s I' H', Go [] I H [] I' H' → SlOk K I' (some v) s → P s → Q v H'
theorem spP_len {n : Nat} {F : PSp} {vs : List V} {Q : VK} {E : XK} (h : spP K n F vs H Q E) : vs.length = n := h.1
/-- what a def may hand back: a slot, a list of its own as from now on read alone -/
inductive Out (μ : Mu) : Sl → Sl → Prop
  | refl (s : Sl) : Out μ s s
  | lst {a : Addr} {ds : List PyData} : (a, Ob.ls ds) ∈ μ → Out μ (.val (.ref a)) (.dat (.list ds))
theorem start_env {n m : Nat} {N : List Str} {vs : List V} {ss : List Sl} (hn : vs.length = n) (hN : N.length = n + m) (e : Env K I (vals vs) ss) : Env K I (L2.start N vs) (ss ++ List.replicate m .any) := by
  unfold L2.start
  rw [show N.length - vs.length = m by omega]
  exact env_app e (env_any m)
/-- THE BODY of such a def -/
theorem body_p {n m : Nat} {F : PSp} {N : List Str} {t : TS} {vs : List V} {Q : VK} {E : XK} (h : spP K n F vs H Q E) (hN : N.length = n + m)
    (b : ∀ ss P, F ss P → ExC K t (ss ++ List.replicate m .any) [] { nx := fun _ _ => P (.dat .none), rt := fun s μ => ∃ s', Out μ s s' ∧ P s' }) : t { nx := fun _ H' => Q .non H', rt := Q } (L2.start N vs) H := by
  obtain ⟨hn, I, ss, P, sm, env, f, k⟩ := h
  refine b ss P f I H _ _ ⟨sm, start_env hn hN env, ⟨List.nodup_nil, fun _ h => nomatch h⟩⟩ (fun σ' H' x => ?_) (fun v H' x => ?_) (fun _ _ x => ?_) fun _ _ x => ?_
  · obtain ⟨δ', μ', I', g, e, w, p⟩ := x
    exact k .non _ I' H' (g.sub_rts fun _ h => nomatch h) (sl_dat .non) p
  · obtain ⟨s, μ', I', e, s', o, p⟩ := x
    cases o with
    | refl => exact k v s I' H' (e.go.sub_rts fun _ h => nomatch h) e.sl p
    | @lst a ds hm =>
      have ev : some v = some (.ref a) := e.sl
      cases ev
      obtain ⟨nI, xs, hx, hd⟩ := e.own.ok _ hm
      have hH : H a = none := by
        rcases e.go.rts a (List.mem_map.mpr ⟨_, hm, rfl⟩) with z | z
        · exact nomatch z
        · exact z
      refine k _ _ (upd I' a (.lst xs)) H' (e.go.freeze hH nI hx fun _ h => nomatch h) (sl_dat (.lst upd_same (dpa_same (fun b u e => ?_) hd))) p
      rw [upd_ne fun z => by rw [z, nI] at e; cases e]
      exact e
  · obtain ⟨_, _, _, _, _, _, z⟩ := x
    exact z.elim
  · obtain ⟨_, _, _, _, _, _, z⟩ := x
    exact z.elim
theorem ev_callP {n : Nat} {F : PSp} {E : XK} {ta : TA} {δ : List Sl} {μ : Mu} {P : Sl → Mu → Prop} (h : EvA K ta δ μ fun ss μ1 => ss.length = n ∧ ∃ ss', Subs ss ss' ∧ F ss' fun s => P s μ1) : EvC K (tCall (spP K n F) [] E ta) δ μ P := by
  intro I H σ Q st k
  refine h I H σ _ st fun vs ss μ1 I1 H1 g1 n1 w1 p1 => ?_
  obtain ⟨hl, ss', hs, f⟩ := p1
  have el : vs.length = ss.length := by have := env_len n1; simpa [vals] using this
  rw [List.append_nil]
  refine ⟨by rw [el]; exact hl, I1, ss', _, g1.sub, subs_ok hs n1, f, fun v s I2 H2 g2 o2 p2 => ?_⟩
  exact k v s μ1 I2 H2 ⟨g1.trans (g2.more (rt μ1) (fun _ h => nomatch h) fun a m => .inr m), o2, owns_stay g2 w1⟩ p2

/-! ### a def that changes objects handed to it -/
abbrev ASp := List Sl → Mu → (Sl → List Ob → Mu → Prop) → Prop
def spA (K : PySem.W.Frag) (n : Nat) (F : ASp) : Sp := fun vs H Q _ => vs.length = n ∧ ∃ I ss μ P, Same I H ∧ Env K I (vals vs) ss ∧ Owns K I H μ ∧ F ss μ P ∧
  ∀ v s obs new I' H', Go (rt μ) I H (rt (new ++ (rt μ).zip obs)) I' H' → SlOk K I' (some v) s → obs.length = μ.length → Owns K I' H' (new ++ (rt μ).zip obs) → P s obs new → Q v H'
theorem spA_len {n : Nat} {F : ASp} {vs : List V} {Q : VK} {E : XK} (h : spA K n F vs H Q E) : vs.length = n := h.1
theorem body_a {n m : Nat} {F : ASp} {N : List Str} {t : TS} {vs : List V} {Q : VK} {E : XK} (h : spA K n F vs H Q E) (hN : N.length = n + m)
    (b : ∀ ss μ P, F ss μ P → ExC K t (ss ++ List.replicate m .any) μ { nx := fun _ μ' => ∃ obs new, obs.length = μ.length ∧ (new ++ (rt μ).zip obs).Sublist μ' ∧ P (.dat .none) obs new, rt := fun s μ' => ∃ obs new, obs.length = μ.length ∧ (new ++ (rt μ).zip obs).Sublist μ' ∧ P s obs new }) : t { nx := fun _ H' => Q .non H', rt := Q } (L2.start N vs) H := by
  obtain ⟨hn, I, ss, μ, P, sm, env, own, f, k⟩ := h
  have cut : ∀ {ν μ' : Mu} {I' H' : Hp}, ν.Sublist μ' → Owns K I' H' μ' → Owns K I' H' ν := fun hs w => ⟨w.nd.sublist (hs.map _), fun p hp => w.ok p (hs.subset hp)⟩
  refine b ss μ P f I H _ _ ⟨sm, start_env hn hN env, own⟩ (fun σ' H' x => ?_) (fun v H' x => ?_) (fun _ _ x => ?_) fun _ _ x => ?_
  · obtain ⟨δ', μ', I', g, e, w, obs, new, hl, hs, p⟩ := x
    exact k .non _ obs new I' H' (g.sub_rts fun a m => (hs.map _).subset m) (sl_dat .non) hl (cut hs w) p
  · obtain ⟨s, μ', I', e, obs, new, hl, hs, p⟩ := x
    exact k v s obs new I' H' (e.go.sub_rts fun a m => (hs.map _).subset m) e.sl hl (cut hs e.own) p
  · obtain ⟨_, _, _, _, _, _, z⟩ := x
    exact z.elim
  · obtain ⟨_, _, _, _, _, _, z⟩ := x
    exact z.elim
def putsF (f : Nat → Option Ob) : Nat → Mu → Mu
  | _, [] => []
  | i, p :: r => (match f i with
    | some o => (p.1, o)
    | none => p) :: putsF f (i + 1) r
/-- the objects at the places js put anew -/
def puts (μ : Mu) (js : List Nat) (os : List Ob) : Mu := putsF (fun i => (js.zip os).lookup i) 0 μ
theorem rt_putsF {f : Nat → Option Ob} : ∀ {i : Nat} {μ : Mu}, rt (putsF f i μ) = rt μ
  | _, [] => rfl
  | i, p :: r => by
    show (match f i with | some o => (p.1, o) | none => p).1 :: rt (putsF f (i + 1) r) = p.1 :: rt r
    rw [rt_putsF]
    cases f i <;> rfl
theorem putsF_mem {f : Nat → Option Ob} : ∀ {i : Nat} {μ : Mu} {q : Addr × Ob}, q ∈ putsF f i μ → ∃ t p, μ[t]? = some p ∧ q = (match f (i + t) with
    | some o => (p.1, o)
    | none => p)
  | _, [], _, h => nomatch h
  | i, p :: r, q, h => by
    rcases List.mem_cons.mp h with e | h
    · exact ⟨0, p, rfl, e⟩
    · obtain ⟨t, p', h1, h2⟩ := putsF_mem h
      refine ⟨t + 1, p', by simpa using h1, ?_⟩
      rw [h2, show i + 1 + t = i + (t + 1) by omega]
theorem mem_lookupN : ∀ {l : List (Nat × Ob)} {t : Nat} {o : Ob}, l.lookup t = some o → (t, o) ∈ l
  | [], _, _, h => by cases h
  | (a, b) :: r, t, o, h => by
    rw [List.lookup_cons] at h
    cases q : t == a with
    | true =>
      rw [q] at h
      cases h
      rw [beq_iff_eq.mp q]
      exact List.mem_cons_self
    | false =>
      rw [q] at h
      exact List.mem_cons_of_mem _ (mem_lookupN h)
theorem lookup_zip {js : List Nat} {os : List Ob} {t : Nat} {o : Ob} (h : (js.zip os).lookup t = some o) : ∃ s : Nat, js[s]? = some t ∧ os[s]? = some o := by
  have m : (t, o) ∈ js.zip os := mem_lookupN h
  obtain ⟨s, hs, e⟩ := List.mem_iff_getElem.mp m
  rw [List.getElem_zip] at e
  cases e
  have h1 : s < js.length := by have := hs; simp at this; omega
  have h2 : s < os.length := by have := hs; simp at this; omega
  exact ⟨s, by simp [h1], by simp [h2]⟩
theorem lookup_zip_none {js : List Nat} {os : List Ob} {t : Nat} (hl : js.length = os.length) (h : (js.zip os).lookup t = none) : t ∉ js := fun m => by
  obtain ⟨s, hs, e⟩ := List.mem_iff_getElem.mp m
  have h2 : s < os.length := by omega
  have mm : (t, os[s]) ∈ js.zip os := List.mem_iff_getElem.mpr ⟨s, by simp; omega, by rw [List.getElem_zip, e]⟩
  have : ∀ {l : List (Nat × Ob)} {t : Nat} {o : Ob}, (t, o) ∈ l → l.lookup t ≠ none := by
    intro l t o hm
    induction l with
    | nil => exact nomatch hm
    | cons p r ih =>
      obtain ⟨a, b⟩ := p
      rw [List.lookup_cons]
      cases q : t == a with
      | true => exact fun z => nomatch z
      | false =>
        rcases List.mem_cons.mp hm with e | hm
        · cases e
          rw [beq_self_eq_true] at q
          cases q
        · exact ih hm
  exact this mm h
theorem owns_puts {I1 H1 I2 H2 : Hp} {μ ν new : Mu} {js : List Nat} {obs : List Ob} (w1 : Owns K I1 H1 μ) (hp : js.map (fun j => μ[j]?) = ν.map some) (hl : obs.length = ν.length)
    (g : Go (rt ν) I1 H1 (rt (new ++ (rt ν).zip obs)) I2 H2) (w2 : Owns K I2 H2 (new ++ (rt ν).zip obs)) : Owns K I2 H2 (new ++ puts μ js obs) := by
  have ez : rt ((rt ν).zip obs) = rt ν := by
    show ((rt ν).zip obs).map (·.1) = rt ν
    rw [List.map_fst_zip]
    simp [hl]
  have en : ∀ (a b : Mu), rt (a ++ b) = rt a ++ rt b := fun a b => List.map_append
  have jl : js.length = obs.length := by
    have := congrArg List.length hp
    simp at this
    omega
  have nd2 := w2.nd
  rw [en, ez] at nd2
  obtain ⟨n1, n2, n3⟩ := List.nodup_append.mp nd2
  refine ⟨?_, fun q hq => ?_⟩
  · rw [en]
    refine List.nodup_append.mpr ⟨n1, by rw [puts, rt_putsF]; exact w1.nd, fun a ha b hb e => ?_⟩
    subst e
    rw [puts, rt_putsF] at hb
    rcases g.rts a (by rw [en]; exact List.mem_append_left _ ha) with z | z
    · exact n3 a ha a z rfl
    · obtain ⟨p, hpm, e⟩ := List.mem_map.mp hb
      have := obok_there (w1.ok p hpm).2
      rw [e] at this
      exact this z
  · rcases List.mem_append.mp hq with hq | hq
    · exact w2.ok q (List.mem_append_left _ hq)
    · obtain ⟨t, p, h1, h2⟩ := putsF_mem hq
      rw [Nat.zero_add] at h2
      cases e : (js.zip obs).lookup t with
      | some o =>
        rw [e] at h2
        obtain ⟨s, s1, s2⟩ := lookup_zip e
        have h3 : (js.map fun j => μ[j]?)[s]? = some (some p) := by rw [List.getElem?_map, s1]; exact congrArg some h1
        rw [hp, List.getElem?_map] at h3
        cases e3 : ν[s]? with
        | none => rw [e3] at h3; cases h3
        | some u =>
          rw [e3] at h3
          have h3' : u = p := by simpa using h3
          subst h3'
          refine w2.ok q (List.mem_append_right _ ?_)
          rw [h2]
          refine List.mem_of_getElem? (i := s) ?_
          rw [List.getElem?_zip_eq_some]
          exact ⟨by rw [List.getElem?_map, e3]; rfl, s2⟩
      | none =>
        rw [e] at h2
        have tj := lookup_zip_none jl e
        subst h2
        refine own_stay g (fun m => tj ?_) (w1.ok q (List.mem_of_getElem? h1))
        obtain ⟨u, hu, eu⟩ := List.mem_map.mp m
        obtain ⟨s, hs, e3⟩ := List.mem_iff_getElem.mp hu
        have h3 : (ν.map some)[s]? = some (some u) := by rw [List.getElem?_map, List.getElem?_eq_getElem hs, e3]; rfl
        rw [← hp, List.getElem?_map] at h3
        cases e4 : js[s]? with
        | none => rw [e4] at h3; cases h3
        | some j =>
          rw [e4] at h3
          have h4 : μ[j]? = some u := by simpa using h3
          have r1 : (rt μ)[t]? = some q.1 := by rw [List.getElem?_map, h1]; rfl
          have r2 : (rt μ)[j]? = some q.1 := by rw [List.getElem?_map, h4]; exact congrArg some eu
          have : t = j := nd_ix w1.nd r1 r2
          rw [this]
          exact List.mem_of_getElem? e4
theorem nodup_sel {μ : Mu} (w : (rt μ).Nodup) : ∀ {js : List Nat} {ν : Mu}, js.Nodup → js.map (fun j => μ[j]?) = ν.map some → (rt ν).Nodup
  | [], [], _, _ => List.nodup_nil
  | [], _ :: _, _, h => by simp at h
  | _ :: _, [], _, h => by simp at h
  | j :: js, u :: ν, n, h => by
    obtain ⟨n1, n2⟩ := List.nodup_cons.mp n
    rw [List.map_cons, List.map_cons] at h
    injection h with h1 h2
    refine List.nodup_cons.mpr ⟨fun m => ?_, nodup_sel w n2 h2⟩
    obtain ⟨p, hp, e⟩ := List.mem_map.mp m
    have : some p ∈ js.map (fun j => μ[j]?) := by rw [h2]; exact List.mem_map.mpr ⟨p, hp, rfl⟩
    obtain ⟨j', hj, e'⟩ := List.mem_map.mp this
    have r1 : (rt μ)[j]? = some u.1 := by rw [List.getElem?_map, h1]; rfl
    have r2 : (rt μ)[j']? = some u.1 := by rw [List.getElem?_map, e']; exact congrArg some e
    exact n1 ((nd_ix w r1 r2) ▸ hj)
theorem use_spA {n : Nat} {F : ASp} {E : XK} {I1 H1 : Hp} {μ1 ν : Mu} {vs : List V} {ss ss' : List Sl} {Q : VK} {P : Sl → Mu → Prop} {js : List Nat} (nj : js.Nodup) (sm : Same I1 H1) (n1 : Env K I1 (vals vs) ss) (w1 : Owns K I1 H1 μ1) (hl : ss.length = n)
    (hs : Subs ss ss') (hp : js.map (fun j => μ1[j]?) = ν.map some) (f : F ss' ν fun s obs new => P s (new ++ puts μ1 js obs)) (k : ∀ v s μ' I' H', Vend K μ1 I1 H1 v s μ' I' H' → P s μ' → Q v H') : spA K n F vs H1 Q E := by
  have el : vs.length = ss.length := by have := env_len n1; simpa [vals] using this
  have sub : ∀ p ∈ ν, p ∈ μ1 := fun p hm => by
    have : some p ∈ js.map (fun j => μ1[j]?) := by rw [hp]; exact List.mem_map.mpr ⟨p, hm, rfl⟩
    obtain ⟨j, _, e⟩ := List.mem_map.mp this
    exact List.mem_of_getElem? e
  refine ⟨by rw [el]; exact hl, I1, ss', ν, _, sm, subs_ok hs n1, ⟨nodup_sel w1.nd nj hp, fun p hm => w1.ok p (sub p hm)⟩, f, fun v s obs new I2 H2 g2 o2 hlo w2 p2 => ?_⟩
  have w3 := owns_puts w1 hp hlo g2 w2
  have ez : rt ((rt ν).zip obs) = rt ν := by
    show ((rt ν).zip obs).map (·.1) = rt ν
    rw [List.map_fst_zip]
    simp [hlo]
  have en : ∀ (a b : Mu), rt (a ++ b) = rt a ++ rt b := fun a b => List.map_append
  refine k v s _ I2 H2 ⟨g2.more (rt μ1) (fun a m => ?_) fun a m => ?_, o2, w3⟩ p2
  · obtain ⟨p, hm, e⟩ := List.mem_map.mp m
    exact List.mem_map.mpr ⟨p, sub p hm, e⟩
  · rw [en, puts, rt_putsF] at m
    rcases List.mem_append.mp m with m | m
    · exact .inl (by rw [en]; exact List.mem_append_left _ m)
    · exact .inr m
theorem ev_callA {n : Nat} {F : ASp} {E : XK} {ta : TA} {δ : List Sl} {μ : Mu} {P : Sl → Mu → Prop} (js : List Nat) (nj : js.Nodup) (h : EvA K ta δ μ fun ss μ1 => ss.length = n ∧ ∃ ss' ν, Subs ss ss' ∧ js.map (fun j => μ1[j]?) = ν.map some ∧
      F ss' ν fun s obs new => P s (new ++ puts μ1 js obs)) : EvC K (tCall (spA K n F) [] E ta) δ μ P := by
  intro I H σ Q st k
  refine h I H σ _ st fun vs ss μ1 I1 H1 g1 n1 w1 p1 => ?_
  obtain ⟨hl, ss', ν, hs, hp, f⟩ := p1
  rw [List.append_nil]
  exact use_spA nj g1.sub n1 w1 hl hs hp f fun v s μ' I' H' e p => k v s μ' I' H' (e.back g1) p
/-- o.m(..) -/
theorem ev_methA {n : Nat} {F : ASp} {E : XK} {C : Addr} {m : Str} {to : TE} {ta : TA} {δ : List Sl} {μ : Mu} {P : Sl → Mu → Prop} (js : List Nat) (nj : js.Nodup) (h : EvC K to δ μ fun s μ0 => ∃ a fs, s = .val (.ref a) ∧ (a, Ob.ins C fs) ∈ μ0 ∧ fs.lookup m = none ∧
      EvA K ta δ μ0 fun ss μ1 => (s :: ss).length = n ∧ ∃ ss' ν, Subs (s :: ss) ss' ∧ js.map (fun j => μ1[j]?) = ν.map some ∧ F ss' ν fun s obs new => P s (new ++ puts μ1 js obs)) : EvC K (tMeth C m (spA K n F) [] E to ta) δ μ P := by
  intro I H σ Q st k
  refine h I H σ _ st fun v s μ0 I0 H0 e0 p0 => ?_
  obtain ⟨a, fs, rfl, hm, hlk, p0⟩ := p0
  have ev : some v = some (.ref a) := e0.sl
  cases ev
  obtain ⟨_, dx, gs, ho, hk, _⟩ := e0.own.ok _ hm
  refine ⟨a, dx, gs, rfl, ho, ?_, ?_⟩
  · have : ∀ {gs : List (Str × V)} {fs : List (Str × Sl)}, gs.map (·.1) = fs.map (·.1) → fs.lookup m = none → gs.lookup m = none := by
      intro gs
      induction gs with
      | nil => intro _ _ _; rfl
      | cons g gs ih =>
        intro fs e h
        cases fs with
        | nil => cases e
        | cons f fs =>
          rw [List.map_cons, List.map_cons] at e
          injection e with e1 e2
          obtain ⟨g1, g2⟩ := g
          obtain ⟨f1, f2⟩ := f
          have e1 : g1 = f1 := e1
          subst e1
          rw [List.lookup_cons] at h ⊢
          cases q : m == g1 with
          | true => rw [q] at h; cases h
          | false => rw [q] at h; exact ih e2 h
    exact this hk hlk
  · refine p0 I0 H0 σ _ (st.go e0.go e0.own) fun vs ss μ1 I1 H1 g1 n1 w1 p1 => ?_
    obtain ⟨hl, ss', ν, hs, hp, f⟩ := p1
    rw [List.append_nil]
    exact use_spA (vs := .ref a :: vs) (ss := .val (.ref a) :: ss) nj g1.sub ⟨sl_val, n1⟩ w1 hl hs hp f fun v s μ' I' H' e p => k v s μ' I' H' (e.back (e0.go.trans g1)) p
theorem ev_make {n : Nat} {F : ASp} {E : XK} {C : Addr} {ta : TA} {δ : List Sl} {μ : Mu} {P : Sl → Mu → Prop} (h : EvA K ta δ μ fun ss μ1 => ss.length + 1 = n ∧ ∃ ss', Subs ss ss' ∧ ∀ x, F (.val (.ref x) :: ss') [(x, .ins C [])] fun s obs new => s = .dat .none ∧ P (.val (.ref x)) (new ++ puts ((x, .ins C []) :: μ1) [0] obs)) :
    EvC K (tMake C (spA K n F) [] E ta) δ μ P := by
  intro I H σ Q st k
  refine h I H σ _ st fun vs ss μ1 I1 H1 g1 n1 w1 p1 => ?_
  obtain ⟨hl, ss', hs, f⟩ := p1
  intro x dx hx hdx ne
  rw [List.append_nil]
  have nIx : I1 x = none := g1.sub.free hx
  have nIdx : I1 dx = none := g1.sub.free hdx
  have g2 : Go (rt μ1) I1 H1 (x :: rt μ1) I1 (upd (upd H1 dx (.own x)) x (.ins C dx [])) := by
    refine ⟨Same.refl _, fun b u e => ?_, fun b u e => .inl e, fun b u e _ => ?_, fun b e => ?_, fun a m => ?_⟩
    · have := g1.sub b u e
      rw [upd_ne (ne_of_none this hx), upd_ne (ne_of_none this hdx)]; exact this
    · rw [upd_ne (ne_of_none e hx), upd_ne (ne_of_none e hdx)]; exact e
    · by_cases q : b = x
      · subst q; exact hx
      · rw [upd_ne q] at e
        by_cases q2 : b = dx
        · subst q2; exact hdx
        · rw [upd_ne q2] at e; exact e
    · rcases List.mem_cons.mp m with e | m
      · subst e; exact .inr hx
      · exact .inl m
  have g2' : Go [] I1 H1 [] I1 (upd (upd H1 dx (.own x)) x (.ins C dx [])) := ⟨g2.im, g2.sub, fun _ _ e => .inl e, fun b u e _ => by rw [upd_ne (ne_of_none e hx), upd_ne (ne_of_none e hdx)]; exact e, g2.there, fun _ h => nomatch h⟩
  have w2 : Owns K I1 (upd (upd H1 dx (.own x)) x (.ins C dx [])) ((x, .ins C []) :: μ1) := owns_new g2' (owns_stay g2' w1) (owns_root w1 hx) nIx ⟨dx, [], upd_same, rfl, trivial⟩
  refine use_spA (P := fun s μ' => s = .dat .none ∧ P (.val (.ref x)) μ') (js := [0]) (ν := [(x, .ins C [])]) (vs := .ref x :: vs) (ss := .val (.ref x) :: ss) (by decide) g2.sub ⟨sl_val, n1⟩ w2 hl (.cons (.refl _) hs) rfl (f x) fun v s μ' I' H' e p => ?_
  obtain ⟨rfl, p⟩ := p
  have ev := dp_non (asd_ok (.dat _) e.sl)
  refine ⟨ev, k _ _ μ' I' H' ⟨(g1.trans g2).trans e.go, sl_val, e.own⟩ p⟩
/-! ### fields -/
theorem flds_lookup {I : Hp} {f : Str} {x : Sl} : ∀ {gs : List (Str × V)} {fs : List (Str × Sl)}, gs.map (·.1) = fs.map (·.1) → Env K I (vals (gs.map (·.2))) (fs.map (·.2)) → fs.lookup f = some x → ∃ v, gs.lookup f = some v ∧ SlOk K I (some v) x
  | [], [], _, _, h => by cases h
  | (g1, v) :: gs, (f1, s) :: fs, e, ⟨h1, h2⟩, h => by
    rw [List.map_cons, List.map_cons] at e
    injection e with e1 e2
    have e1 : g1 = f1 := e1
    subst e1
    rw [List.lookup_cons] at h ⊢
    cases q : f == g1 with
    | true => rw [q] at h; cases h; exact ⟨v, rfl, h1⟩
    | false => rw [q] at h; exact flds_lookup e2 h2 h
  | [], _ :: _, e, _, _ => by cases e
  | _ :: _, [], e, _, _ => by cases e
theorem ev_fld {C : Addr} {f : Str} {to : TE} {δ : List Sl} {μ : Mu} {P : Sl → Mu → Prop} (hc : Cls K C) (hn : NoAttr K C f) (h : EvC K to δ μ fun s μ1 => ∃ a fs x, s = .val (.ref a) ∧ (a, Ob.ins C fs) ∈ μ1 ∧ fs.lookup f = some x ∧ P x μ1) : EvC K (tFld K to f) δ μ P := by
  intro I H σ Q st k
  refine h I H σ _ st fun v s μ0 I0 H0 e0 p0 => ?_
  obtain ⟨a, fs, x, rfl, hm, hlk, p⟩ := p0
  have ev : some v = some (.ref a) := e0.sl
  cases ev
  obtain ⟨_, dx, gs, ho, hk, he⟩ := e0.own.ok _ hm
  obtain ⟨v, hv, hs⟩ := flds_lookup hk he hlk
  exact ⟨a, C, dx, gs, v, rfl, ho, hc, hn, hv, k v x μ0 I0 H0 ⟨e0.go, hs, e0.own⟩ p⟩
def putS (f : Str) (s : Sl) : List (Str × Sl) → List (Str × Sl)
  | [] => [(f, s)]
  | (g, x) :: r => if g = f then (g, s) :: r else (g, x) :: putS f s r
theorem putS_ok {I : Hp} {f : Str} {s : Sl} {v : V} (h : SlOk K I (some v) s) : ∀ {gs : List (Str × V)} {fs : List (Str × Sl)}, gs.map (·.1) = fs.map (·.1) → Env K I (vals (gs.map (·.2))) (fs.map (·.2)) →
    (putF f v gs).map (·.1) = (putS f s fs).map (·.1) ∧ Env K I (vals ((putF f v gs).map (·.2))) ((putS f s fs).map (·.2))
  | [], [], _, _ => ⟨rfl, h, trivial⟩
  | (g1, v1) :: gs, (f1, s1) :: fs, e, ⟨h1, h2⟩ => by
    rw [List.map_cons, List.map_cons] at e
    injection e with e1 e2
    have e1 : g1 = f1 := e1
    subst e1
    show (if g1 = f then (g1, v) :: gs else (g1, v1) :: putF f v gs).map (·.1) = (if g1 = f then (g1, s) :: fs else (g1, s1) :: putS f s fs).map (·.1) ∧
      Env K I (vals ((if g1 = f then (g1, v) :: gs else (g1, v1) :: putF f v gs).map (·.2))) ((if g1 = f then (g1, s) :: fs else (g1, s1) :: putS f s fs).map (·.2))
    by_cases q : g1 = f
    · rw [if_pos q, if_pos q]
      exact ⟨by rw [List.map_cons, List.map_cons, e2], h, h2⟩
    · rw [if_neg q, if_neg q]
      obtain ⟨a, b⟩ := putS_ok h e2 h2
      exact ⟨by rw [List.map_cons, List.map_cons, a], h1, b⟩
  | [], _ :: _, e, _ => by cases e
  | _ :: _, [], e, _ => by cases e
theorem ex_fld {C : Addr} {f : Str} {to tv : TE} {δ : List Sl} {μ : Mu} {A : AEnds} (hc : Cls K C) (hn : NoAttr K C f) (h : EvC K tv δ μ fun s μ1 => EvC K to δ μ1 fun s2 μ2 => ∃ j a fs, s2 = .val (.ref a) ∧ μ2[j]? = some (a, Ob.ins C fs) ∧ fs.length < 1000 ∧ A.nx δ (μ2.set j (a, .ins C (putS f s fs)))) :
    ExC K (sFld K to tv f) δ μ A := by
  intro I H σ D st n _ _ _
  refine h I H σ _ st fun y s μ1 I1 H1 e1 p1 => ?_
  refine p1 I1 H1 σ _ (st.go e1.go e1.own) fun x s2 μ2 I2 H2 e2 p2 => ?_
  obtain ⟨j, a, fs, rfl, hj, hl, p⟩ := p2
  have ev : some x = some (.ref a) := e2.sl
  cases ev
  have hm : (a, Ob.ins C fs) ∈ μ2 := List.mem_of_getElem? hj
  obtain ⟨nI, dx, gs, ho, hk, he⟩ := e2.own.ok _ hm
  have lg : gs.length = fs.length := by have := congrArg List.length hk; simpa using this
  refine ⟨a, C, dx, gs, rfl, ho, hc, hn, by omega, ?_⟩
  obtain ⟨q1, q2⟩ := putS_ok (slok_same e2.go.im e1.sl) hk he (f := f)
  have ma : a ∈ rt μ2 := List.mem_map.mpr ⟨_, hm, rfl⟩
  have gw : Go [a] I2 H2 [a] I2 (upd H2 a (.ins C dx (putF f y gs))) := Go.wr e2.go.sub (by simp) nI (by rw [ho]; exact fun z => nomatch z)
  have w3 : Owns K I2 (upd H2 a (.ins C dx (putF f y gs))) (μ2.set j (a, .ins C (putS f s fs))) := owns_set e2.own hj gw (fun b m => by simpa using m) nI ⟨dx, putF f y gs, upd_same, q1, q2⟩
  have gw2 : Go (rt μ2) I2 H2 (rt μ2) I2 (upd H2 a (.ins C dx (putF f y gs))) := Go.wr e2.go.sub ma nI (by rw [ho]; exact fun z => nomatch z)
  have g := (e1.go.trans e2.go).trans gw2
  refine n σ _ ⟨δ, _, I2, g.sub_rts fun b m => ?_, env_same g.im st.env, w3, p⟩
  obtain ⟨q, hq, e⟩ := List.mem_map.mp m
  rcases List.mem_or_eq_of_mem_set hq with z | z
  · exact List.mem_map.mpr ⟨q, z, e⟩
  · subst z; subst e; exact ma
end
end K81
/-! ## E5 -/
set_option Elab.async false
set_option linter.all false
set_option maxRecDepth 100000
set_option maxHeartbeats 4000000
/-! The operations over slots and objects. -/
namespace K81
open PySem PySem.Spec PyProof.Rows L2

section
variable {K : PySem.W.Frag} {δ : List Sl} {μ : Mu} {P : Sl → Mu → Prop} {I H : Hp}
/-! ### numbers, texts, comparisons -/
theorem op_ii {g : Int → Int → Int} {i j : Int} (p : P (.dat (.int (g i j))) μ) : OpA K (rI0 fun i j => .int (g i j)) (.dat (.int i)) (.dat (.int j)) μ P := fun I H x y Q sm w h1 h2 k => by
  have e1 := dp_int (asd_ok (.dat _) h1)
  have e2 := dp_int (asd_ok (.dat _) h2)
  exact ⟨i, j, e1, e2, k _ _ μ I H (.refl sm w (sl_dat (.int _))) p⟩
theorem op_iiC {C : Int → Int → Prop} {g : Int → Int → Int} {i j : Int} (c : C i j) (p : P (.dat (.int (g i j))) μ) : OpA K (rI C fun i j => .int (g i j)) (.dat (.int i)) (.dat (.int j)) μ P := fun I H x y Q sm w h1 h2 k => by
  have e1 := dp_int (asd_ok (.dat _) h1)
  have e2 := dp_int (asd_ok (.dat _) h2)
  exact ⟨i, j, e1, e2, c, k _ _ μ I H (.refl sm w (sl_dat (.int _))) p⟩
theorem op_iib {g : Int → Int → Bool} {i j : Int} (p : P (.dat (.bool (g i j))) μ) : OpA K (rI0 fun i j => .bl (g i j)) (.dat (.int i)) (.dat (.int j)) μ P := fun I H x y Q sm w h1 h2 k => by
  have e1 := dp_int (asd_ok (.dat _) h1)
  have e2 := dp_int (asd_ok (.dat _) h2)
  exact ⟨i, j, e1, e2, k _ _ μ I H (.refl sm w (sl_dat (.bl _))) p⟩
theorem un_ii {g : Int → Int} {i : Int} (p : P (.dat (.int (g i))) μ) : UnA K (rU fun i => .int (g i)) (.dat (.int i)) μ P := fun I H x Q sm w h1 k => by
  have e1 := dp_int (asd_ok (.dat _) h1)
  exact ⟨i, e1, k _ _ μ I H (.refl sm w (sl_dat (.int _))) p⟩
def rAddT : R2 := fun x y H Q => ∃ i j, x = .str i ∧ y = .str j ∧ i.length + j.length ≤ sizeLine ∧ Q (.str (i ++ j)) H
theorem op_addT {X : Cx} : OpR X (binaryOp .Add) rAddT := op_add_str
theorem op_tt {a b : Str} (hl : a.length + b.length ≤ sizeLine) (p : P (.dat (.str (a ++ b))) μ) : OpA K rAddT (.dat (.str a)) (.dat (.str b)) μ P := fun I H x y Q sm w h1 h2 k => by
  have e1 := dp_str (asd_ok (.dat _) h1)
  have e2 := dp_str (asd_ok (.dat _) h2)
  exact ⟨a, b, e1, e2, hl, k _ _ μ I H (.refl sm w (sl_dat (.str _))) p⟩
theorem op_eqd {s1 s2 : Sl} {d e : PyData} (a1 : AsD s1 d) (a2 : AsD s2 e) (h1 : SeqAt.shaped d = true) (h2 : SeqAt.shaped e = true) (p : P (.dat (.bool (PyData.eqv d e))) μ) : OpA K (rEqD K) s1 s2 μ P := fun I H x y Q sm w x1 x2 k =>
  ⟨d, e, at_dp (dp_same sm (asd_ok a1 x1)), at_dp (dp_same sm (asd_ok a2 x2)), h1, h2, k _ _ μ I H (.refl sm w (sl_dat (.bl _))) p⟩
theorem op_ned {s1 s2 : Sl} {d e : PyData} (a1 : AsD s1 d) (a2 : AsD s2 e) (h1 : SeqAt.shaped d = true) (h2 : SeqAt.shaped e = true) (p : P (.dat (.bool (!PyData.eqv d e))) μ) : OpA K (rNeD K) s1 s2 μ P := fun I H x y Q sm w x1 x2 k =>
  ⟨d, e, at_dp (dp_same sm (asd_ok a1 x1)), at_dp (dp_same sm (asd_ok a2 x2)), h1, h2, k _ _ μ I H (.refl sm w (sl_dat (.bl _))) p⟩
/-- one sign in a text -/
def rInSg : R2 := fun x y H Q => ∃ (c : Nat) (z : Str), x = .str ⟨#[c]⟩ ∧ y = .str z ∧ Q (.bl (decide (c ∈ z.cps.toList))) H
theorem op_inSg {X : Cx} : OpR X (compareOp .In) rInSg := op_in_sign
theorem op_sg {c : Nat} {z : Str} (p : P (.dat (.bool (decide (c ∈ z.cps.toList)))) μ) : OpA K rInSg (.dat (.str ⟨#[c]⟩)) (.dat (.str z)) μ P := fun I H x y Q sm w h1 h2 k => by
  have e1 := dp_str (asd_ok (.dat _) h1)
  have e2 := dp_str (asd_ok (.dat _) h2)
  exact ⟨c, z, e1, e2, k _ _ μ I H (.refl sm w (sl_dat (.bl _))) p⟩
/-! ### in a list, a tuple of numbers, of texts -/
theorem all_flat_int (ns : List Int) : (ns.map V.int).all flatV = true := by
  induction ns with
  | nil => rfl
  | cons n ns ih => rw [List.map_cons, List.all_cons, ih]; rfl
theorem all_flat_str (ns : List Str) : (ns.map V.str).all flatV = true := by
  induction ns with
  | nil => rfl
  | cons n ns ih => rw [List.map_cons, List.all_cons, ih]; rfl
theorem inV_int (n : Int) (ns : List Int) : inV (.int n) (ns.map V.int) = decide (n ∈ ns) := by
  unfold inV
  induction ns with
  | nil => rfl
  | cons m ns ih =>
    rw [List.map_cons, List.any_cons, ih, show eqV (.int m) (.int n) = (m == n) from rfl]
    by_cases h : m = n
    · subst h; simp
    · have h2 : ¬ n = m := fun z => h z.symm
      simp [h, h2]
theorem inV_str (n : Str) (ns : List Str) : inV (.str n) (ns.map V.str) = decide (n ∈ ns) := by
  unfold inV
  induction ns with
  | nil => rfl
  | cons m ns ih =>
    rw [List.map_cons, List.any_cons, ih, show eqV (.str m) (.str n) = (m == n) from rfl]
    by_cases h : m = n
    · subst h; simp
    · have h2 : ¬ n = m := fun z => h z.symm
      simp [h, h2]
/-- what stands there as a list or a tuple of ds: data, or an object of ours -/
inductive SeqS (μ : Mu) : Sl → List PyData → Prop
  | tup (ds : List PyData) : SeqS μ (.dat (.tuple ds)) ds
  | lst (ds : List PyData) : SeqS μ (.dat (.list ds)) ds
  | own {a : Addr} {ds : List PyData} : (a, Ob.ls ds) ∈ μ → SeqS μ (.val (.ref a)) ds
theorem seqs_ok {s : Sl} {ds : List PyData} {v : V} (q : SeqS μ s ds) (sm : Same I H) (w : Owns K I H μ) (h : SlOk K I (some v) s) : ∃ a xs, v = .ref a ∧ (H a = some (.lst xs) ∨ H a = some (.tup xs)) ∧ AtAll K I xs ds := by
  cases q with
  | tup ds =>
    obtain ⟨a, xs, rfl, hs, ha⟩ := dp_tup (asd_ok (.dat _) h)
    exact ⟨a, xs, rfl, .inr (sm _ _ hs), ha⟩
  | lst ds =>
    obtain ⟨a, xs, rfl, hs, ha⟩ := dp_lst (asd_ok (.dat _) h)
    exact ⟨a, xs, rfl, .inl (sm _ _ hs), ha⟩
  | own hm =>
    have e : some v = some (.ref _) := h
    cases e
    obtain ⟨_, xs, hx, ha⟩ := w.ok _ hm
    exact ⟨_, xs, rfl, .inl hx, ha⟩
theorem seq_or {a : Addr} {xs : List V} (h : H a = some (.lst xs) ∨ H a = some (.tup xs)) : SqL K H a xs ∨ SqT K H a xs := h.elim (fun h => .inl (SqL.of h)) fun h => .inr (SqT.of h)
theorem op_inI {neg : Bool} {s : Sl} {n : Int} {ns : List Int} (q : SeqS μ s (ns.map .int)) (p : P (.dat (.bool (if neg then !decide (n ∈ ns) else decide (n ∈ ns)))) μ) : OpA K (rIn K neg) (.dat (.int n)) s μ P := fun I H x y Q sm w h1 h2 k => by
  have e1 := dp_int (asd_ok (.dat _) h1)
  obtain ⟨a, xs, rfl, hx, ha⟩ := seqs_ok q sm w h2
  have ex := dpa_ints ha
  subst e1 ex
  refine ⟨a, _, rfl, seq_or hx, rfl, all_flat_int ns, ?_⟩
  rw [inV_int]
  exact k _ _ μ I H (.refl sm w (sl_dat (.bl _))) p
theorem op_inT {neg : Bool} {s : Sl} {n : Str} {ns : List Str} (q : SeqS μ s (ns.map .str)) (p : P (.dat (.bool (if neg then !decide (n ∈ ns) else decide (n ∈ ns)))) μ) : OpA K (rIn K neg) (.dat (.str n)) s μ P := fun I H x y Q sm w h1 h2 k => by
  have e1 := dp_str (asd_ok (.dat _) h1)
  obtain ⟨a, xs, rfl, hx, ha⟩ := seqs_ok q sm w h2
  have ex := dpa_strs ha
  subst e1 ex
  refine ⟨a, _, rfl, seq_or hx, rfl, all_flat_str ns, ?_⟩
  rw [inV_str]
  exact k _ _ μ I H (.refl sm w (sl_dat (.bl _))) p
/-- .. in a tuple of the top -/
theorem op_inK {neg : Bool} {n : Str} {a : Addr} {ns : List Str} (q : ∀ H, SqT K H a (ns.map V.str)) (p : P (.dat (.bool (if neg then !decide (n ∈ ns) else decide (n ∈ ns)))) μ) : OpA K (rIn K neg) (.dat (.str n)) (.val (.ref a)) μ P := fun I H x y Q sm w h1 h2 k => by
  have e1 := dp_str (asd_ok (.dat _) h1)
  have e2 : some y = some (.ref a) := h2
  cases e2
  subst e1
  refine ⟨a, _, rfl, .inr (q H), rfl, all_flat_str ns, ?_⟩
  rw [inV_str]
  exact k _ _ μ I H (.refl sm w (sl_dat (.bl _))) p

/-! ### items, slices -/
theorem atI_ok {xs : List V} {ds : List PyData} {i : Int} {d : PyData} (ha : AtAll K I xs ds) (h : atI ds i = some d) : ∃ v, atI xs i = some v ∧ At K I v d := by
  unfold atI at h ⊢
  rw [dpa_len ha]
  cases e : ixN ds.length i with
  | none => rw [e] at h; cases h
  | some j =>
    rw [e] at h
    exact dpa_get (i := j) ha h
theorem op_ixT {ds : List PyData} {i : Int} {d : PyData} (h : atI ds i = some d) (p : P (.dat d) μ) : OpA K (rIxT K) (.dat (.tuple ds)) (.dat (.int i)) μ P := fun I H x y Q sm w h1 h2 k => by
  obtain ⟨a, xs, rfl, hs, ha⟩ := dp_tup (asd_ok (.dat _) h1)
  have e2 := dp_int (asd_ok (.dat _) h2)
  obtain ⟨v, hv, hd⟩ := atI_ok ha h
  exact ⟨a, xs, i, v, rfl, e2, SqT.of (sm _ _ hs), hv, k v _ μ I H (.refl sm w (sl_dat hd)) p⟩
theorem op_ixL {ds : List PyData} {i : Int} {d : PyData} (h : atI ds i = some d) (p : P (.dat d) μ) : OpA K (rIxL K) (.dat (.list ds)) (.dat (.int i)) μ P := fun I H x y Q sm w h1 h2 k => by
  obtain ⟨a, xs, rfl, hs, ha⟩ := dp_lst (asd_ok (.dat _) h1)
  have e2 := dp_int (asd_ok (.dat _) h2)
  obtain ⟨v, hv, hd⟩ := atI_ok ha h
  exact ⟨a, xs, i, v, rfl, e2, SqL.of (sm _ _ hs), hv, k v _ μ I H (.refl sm w (sl_dat hd)) p⟩
/-- a list or a tuple -/
theorem op_ixA {s : Sl} {ds : List PyData} {i : Int} {d : PyData} (q : SeqS μ s ds) (h : atI ds i = some d) (p : P (.dat d) μ) : OpA K (rIx K) s (.dat (.int i)) μ P := fun I H x y Q sm w h1 h2 k => by
  obtain ⟨a, xs, rfl, hx, ha⟩ := seqs_ok q sm w h1
  have e2 := dp_int (asd_ok (.dat _) h2)
  obtain ⟨v, hv, hd⟩ := atI_ok ha h
  have kq := k v _ μ I H (.refl sm w (sl_dat hd)) p
  rcases hx with hx | hx
  · exact .inl ⟨a, xs, i, v, rfl, e2, SqL.of hx, hv, kq⟩
  · exact .inr (.inl ⟨a, xs, i, v, rfl, e2, SqT.of hx, hv, kq⟩)
theorem op_ixS {z : Str} {i : Int} {c : Nat} (hl : z.length ≤ sizeLine) (h : atI z.cps.toList i = some c) (p : P (.dat (.str ⟨#[c]⟩)) μ) : OpA K rIxS (.dat (.str z)) (.dat (.int i)) μ P := fun I H x y Q sm w h1 h2 k => by
  have e1 := dp_str (asd_ok (.dat _) h1)
  have e2 := dp_int (asd_ok (.dat _) h2)
  exact ⟨z, i, c, e1, e2, hl, h, k _ _ μ I H (.refl sm w (sl_dat (.str _))) p⟩
/-- the cut of a list of data -/
def cutD {α : Type} (xs : List α) (lo hi : Option Int) : List α := (xs.drop (HT.sIx xs.length 0 lo)).take (HT.sIx xs.length xs.length hi - HT.sIx xs.length 0 lo)
theorem cut_ok {xs : List V} {ds : List PyData} {lo hi : Option Int} (ha : AtAll K I xs ds) : AtAll K I (cutV xs lo hi) (cutD ds lo hi) := by
  unfold cutV cutD
  rw [dpa_len ha]
  exact dpa_take _ (dpa_drop _ ha)
def EvO (K : PySem.W.Frag) (t : TO) (δ : List Sl) (μ : Mu) (P : Option Int → Mu → Prop) : Prop :=
  ∀ (I H : Hp) (σ : L2.St) (Q : Option Int → Hp → Prop), Stt K I H σ δ μ → (∀ o μ' I' H', Go (rt μ) I H (rt μ') I' H' → Owns K I' H' μ' → P o μ' → Q o H') → t σ H Q
theorem eo_none {P : Option Int → Mu → Prop} (p : P none μ) : EvO K tNoPart δ μ P := fun I H σ Q st k => k none μ I H (Go.refl st.sm) st.own p
theorem eo_some {te : TE} {P : Option Int → Mu → Prop} (h : EvC K te δ μ fun s μ' => ∃ i, s = .dat (.int i) ∧ P (some i) μ') : EvO K (tPart te) δ μ P := fun I H σ Q st k =>
  h I H σ _ st fun v s μ1 I1 H1 e1 p1 => by
    obtain ⟨i, rfl, p⟩ := p1
    exact ⟨i, dp_int (asd_ok (.dat _) e1.sl), k _ μ1 I1 H1 e1.go e1.own p⟩
theorem new_at {o : HO} {d : PyData} {p : Addr} (sm : Same I H) (w : Owns K I H μ) (hp : H p = none) (h : At K (upd I p o) (.ref p) d) : Vend K μ I H (.ref p) (.dat d) μ (upd I p o) (upd H p o) := by
  have g' : Go [] I H [] (upd I p o) (upd H p o) := Go.new sm hp
  exact ⟨Go.new sm hp, sl_dat h, owns_stay g' w⟩
/-- a list: data, an object of ours, the script -/
inductive LstS (μ : Mu) : Sl → List PyData → Prop
  | lst (ds : List PyData) : LstS μ (.dat (.list ds)) ds
  | own {a : Addr} {ds : List PyData} : (a, Ob.ls ds) ∈ μ → LstS μ (.val (.ref a)) ds
  | scr (ns : List Int) : LstS μ (.scr ns) (ns.map .int)
theorem lsts_ok {s : Sl} {ds : List PyData} {v : V} (q : LstS μ s ds) (sm : Same I H) (w : Owns K I H μ) (h : SlOk K I (some v) s) : ∃ a xs, v = .ref a ∧ SqL K H a xs ∧ AtAll K I xs ds := by
  cases q with
  | lst ds =>
    obtain ⟨a, xs, rfl, hs, ha⟩ := dp_lst (asd_ok (.dat _) h)
    exact ⟨a, xs, rfl, SqL.of (sm _ _ hs), ha⟩
  | own hm =>
    have e : some v = some (.ref _) := h
    cases e
    obtain ⟨_, xs, hx, ha⟩ := w.ok _ hm
    exact ⟨_, xs, rfl, SqL.of hx, ha⟩
  | scr ns =>
    obtain ⟨a, e, hs⟩ := h
    cases e
    exact ⟨a, _, rfl, sql_same sm hs, ints_dpa ns⟩
theorem ev_slL {te : TE} {tl th : TO} (h : EvC K te δ μ fun s μ1 => EvO K tl δ μ1 fun lo μ2 => EvO K th δ μ2 fun hi μ3 => ∃ ds, LstS μ3 s ds ∧ P (.dat (.list (cutD ds lo hi))) μ3) : EvC K (tSl (rSlL K) te tl th) δ μ P := by
  intro I H σ Q st k
  refine h I H σ _ st fun v s μ1 I1 H1 e1 p1 => ?_
  refine p1 I1 H1 σ _ (st.go e1.go e1.own) fun lo μ2 I2 H2 g2 w2 p2 => ?_
  refine p2 I2 H2 σ _ (st.go (e1.go.trans g2) w2) fun hi μ3 I3 H3 g3 w3 p3 => ?_
  obtain ⟨ds, q, p⟩ := p3
  have g := (e1.go.trans g2).trans g3
  obtain ⟨a, xs, rfl, hs, ha⟩ := lsts_ok q g3.sub w3 (slok_same (g2.im.trans g3.im) e1.sl)
  refine ⟨a, xs, rfl, hs, fun l hl => ?_⟩
  have ha' : AtAll K (upd I3 l (.lst (cutV xs lo hi))) (cutV xs lo hi) (cutD ds lo hi) := dpa_same (fun b u e => by rw [upd_ne (ne_of_none (g3.sub b u e) hl)]; exact e) (cut_ok ha)
  exact k _ _ μ3 _ _ ((new_at g3.sub w3 hl (.lst upd_same ha')).back g) p
theorem ev_slT {te : TE} {tl th : TO} (h : EvC K te δ μ fun s μ1 => EvO K tl δ μ1 fun lo μ2 => EvO K th δ μ2 fun hi μ3 => ∃ ds, s = .dat (.tuple ds) ∧ P (.dat (.tuple (cutD ds lo hi))) μ3) : EvC K (tSl (rSlA K) te tl th) δ μ P := by
  intro I H σ Q st k
  refine h I H σ _ st fun v s μ1 I1 H1 e1 p1 => ?_
  refine p1 I1 H1 σ _ (st.go e1.go e1.own) fun lo μ2 I2 H2 g2 w2 p2 => ?_
  refine p2 I2 H2 σ _ (st.go (e1.go.trans g2) w2) fun hi μ3 I3 H3 g3 w3 p3 => ?_
  obtain ⟨ds, rfl, p⟩ := p3
  have g := (e1.go.trans g2).trans g3
  have sl3 := slok_same (g2.im.trans g3.im) e1.sl
  obtain ⟨a, xs, rfl, hs, ha⟩ := dp_tup (asd_ok (.dat _) sl3)
  refine ⟨a, xs, rfl, SqT.of (g3.sub _ _ hs), fun hw => ?_, fun hw l hl => ?_⟩
  · refine k _ _ μ3 _ _ ⟨g, ?_, w3⟩ p
    have e : cutD ds lo hi = ds := by
      unfold cutD
      rw [← dpa_len ha, hw.1, hw.2, List.drop_zero, Nat.sub_zero, dpa_len ha, List.take_length]
    rw [e]
    exact sl3
  · have ha' : AtAll K (upd I3 l (.tup (cutV xs lo hi))) (cutV xs lo hi) (cutD ds lo hi) := dpa_same (fun b u e => by rw [upd_ne (ne_of_none (g3.sub b u e) hl)]; exact e) (cut_ok ha)
    exact k _ _ μ3 _ _ ((new_at g3.sub w3 hl (.tup upd_same ha')).back g) p
/-! ### tuples and lists put together -/
theorem op_catD {ds es : List PyData} (hl : ds.length + es.length ≤ sizeLine) (p : P (.dat (.tuple (ds ++ es))) μ) : OpA K (rCatA K) (.dat (.tuple ds)) (.dat (.tuple es)) μ P := fun I H x y Q sm w h1 h2 k => by
  obtain ⟨a, xs, rfl, hs, ha⟩ := dp_tup (asd_ok (.dat _) h1)
  obtain ⟨b, ys, rfl, hs2, hb⟩ := dp_tup (asd_ok (.dat _) h2)
  refine ⟨a, b, xs, ys, rfl, rfl, SqT.of (sm _ _ hs), SqT.of (sm _ _ hs2), by rw [dpa_len ha, dpa_len hb]; exact hl, fun e => ?_, fun _ e => ?_, fun _ _ l hl => ?_⟩
  · subst e
    cases ha
    exact k _ _ μ I H (.refl sm w h2) p
  · subst e
    cases hb
    rw [List.append_nil] at p
    exact k _ _ μ I H (.refl sm w h1) p
  · have ha' : AtAll K (upd I l (.tup (xs ++ ys))) (xs ++ ys) (ds ++ es) := dpa_same (fun b u e => by rw [upd_ne (ne_of_none (sm b u e) hl)]; exact e) (dpa_app ha hb)
    exact k _ _ μ _ _ (new_at sm w hl (.tup upd_same ha')) p
/-- a list that may be put together: data, an object of ours -/
inductive LstC (μ : Mu) : Sl → List PyData → Prop
  | lst (ds : List PyData) : LstC μ (.dat (.list ds)) ds
  | own {a : Addr} {ds : List PyData} : (a, Ob.ls ds) ∈ μ → LstC μ (.val (.ref a)) ds
theorem lstc_ok {s : Sl} {ds : List PyData} {v : V} (q : LstC μ s ds) (sm : Same I H) (w : Owns K I H μ) (h : SlOk K I (some v) s) : ∃ a xs, v = .ref a ∧ H a = some (.lst xs) ∧ AtAll K I xs ds := by
  cases q with
  | lst ds =>
    obtain ⟨a, xs, rfl, hs, ha⟩ := dp_lst (asd_ok (.dat _) h)
    exact ⟨a, xs, rfl, sm _ _ hs, ha⟩
  | own hm =>
    have e : some v = some (.ref _) := h
    cases e
    obtain ⟨_, xs, hx, ha⟩ := w.ok _ hm
    exact ⟨_, xs, rfl, hx, ha⟩
theorem op_catL {s1 s2 : Sl} {ds es : List PyData} (q1 : LstC μ s1 ds) (q2 : LstC μ s2 es) (hl : ds.length + es.length ≤ sizeLine) (p : P (.dat (.list (ds ++ es))) μ) : OpA K rCat s1 s2 μ P := fun I H x y Q sm w h1 h2 k => by
  obtain ⟨a, xs, rfl, hs, ha⟩ := lstc_ok q1 sm w h1
  obtain ⟨b, ys, rfl, hs2, hb⟩ := lstc_ok q2 sm w h2
  refine ⟨a, b, xs, ys, rfl, rfl, hs, hs2, by rw [dpa_len ha, dpa_len hb]; exact hl, fun l hl => ?_⟩
  have ha' : AtAll K (upd I l (.lst (xs ++ ys))) (xs ++ ys) (ds ++ es) := dpa_same (fun b u e => by rw [upd_ne (ne_of_none (sm b u e) hl)]; exact e) (dpa_app ha hb)
  exact k _ _ μ _ _ (new_at sm w hl (.lst upd_same ha')) p

/-! ### built-ins -/
theorem env1 {s : Sl} {xs : List V} (h : Env K I (vals xs) [s]) : ∃ x, xs = [x] ∧ SlOk K I (some x) s := by
  cases xs with
  | nil => exact h.elim
  | cons x xs => cases xs with
    | nil => exact ⟨x, rfl, h.1⟩
    | cons _ _ => exact h.2.elim
theorem env2 {s t : Sl} {xs : List V} (h : Env K I (vals xs) [s, t]) : ∃ x y, xs = [x, y] ∧ SlOk K I (some x) s ∧ SlOk K I (some y) t := by
  cases xs with
  | nil => exact h.elim
  | cons x xs =>
    obtain ⟨y, rfl, hy⟩ := env1 h.2
    exact ⟨x, y, rfl, h.1, hy⟩
def rLenQ (K : PySem.W.Frag) : List V → Hp → VK → Prop := fun xs H Q => ∃ p ys, xs = [.ref p] ∧ (SqL K H p ys ∨ SqT K H p ys) ∧ Q (.int ys.length) H
theorem call_lenQ {X : Cx} : CallR X (.builtin "len") (rLenQ X.K) := call_len_seq
theorem ca_len {s : Sl} {ds : List PyData} (q : SeqS μ s ds) (p : P (.dat (.int ds.length)) μ) : CaA K (rLenQ K) [s] μ P := fun I H xs Q sm w h k => by
  obtain ⟨x, rfl, hx⟩ := env1 h
  obtain ⟨a, ys, rfl, hs, ha⟩ := seqs_ok q sm w hx
  refine ⟨a, ys, rfl, seq_or hs, ?_⟩
  rw [dpa_len ha]
  exact k _ _ μ I H (.refl sm w (sl_dat (.int _))) p
theorem ca_lenS {ns : List Int} (p : P (.dat (.int ns.length)) μ) : CaA K (rLenQ K) [.scr ns] μ P := fun I H xs Q sm w h k => by
  obtain ⟨x, rfl, hx⟩ := env1 h
  obtain ⟨a, ys, rfl, hs, ha⟩ := lsts_ok (.scr ns) sm w hx
  refine ⟨a, ys, rfl, .inl hs, ?_⟩
  rw [dpa_len ha, List.length_map]
  exact k _ _ μ I H (.refl sm w (sl_dat (.int _))) p
def rLenTx : List V → Hp → VK → Prop := fun xs H Q => ∃ z, xs = [.str z] ∧ z.length ≤ sizeLine ∧ Q (.int z.length) H
theorem call_lenTx {X : Cx} : CallR X (.builtin "len") rLenTx := call_len_str
theorem ca_lenT {z : Str} (hl : z.length ≤ sizeLine) (p : P (.dat (.int z.length)) μ) : CaA K rLenTx [.dat (.str z)] μ P := fun I H xs Q sm w h k => by
  obtain ⟨x, rfl, hx⟩ := env1 h
  have e := dp_str (asd_ok (.dat _) hx)
  subst e
  exact ⟨z, rfl, hl, k _ _ μ I H (.refl sm w (sl_dat (.int _))) p⟩
def rLenDk : List V → Hp → VK → Prop := fun xs H Q => ∃ a kvs, xs = [V.ref a] ∧ H a = some (.dK kvs) ∧ Q (.int kvs.length) H
theorem call_lenDk {X : Cx} : CallR X (.builtin "len") rLenDk := call_lenD
theorem ca_lenD {a : Addr} {es : List (Key × PyData)} (hm : (a, Ob.dk es) ∈ μ) (p : P (.dat (.int es.length)) μ) : CaA K rLenDk [.val (.ref a)] μ P := fun I H xs Q sm w h k => by
  obtain ⟨x, rfl, hx⟩ := env1 h
  have e : some x = some (.ref _) := hx
  cases e
  obtain ⟨_, kvs, hk, e, _⟩ := w.ok _ hm
  have el : kvs.length = es.length := by have := congrArg List.length e; simpa using this
  refine ⟨a, kvs, rfl, hk, ?_⟩
  rw [el]
  exact k _ _ μ I H (.refl sm w (sl_dat (.int _))) p
def rAbs : List V → Hp → VK → Prop := fun xs H Q => ∃ i, xs = [.int i] ∧ Q (.int (if i < 0 then -i else i)) H
theorem call_absQ {X : Cx} : CallR X (.builtin "abs") rAbs := call_abs
theorem ca_abs {i : Int} (p : P (.dat (.int (if i < 0 then -i else i))) μ) : CaA K rAbs [.dat (.int i)] μ P := fun I H xs Q sm w h k => by
  obtain ⟨x, rfl, hx⟩ := env1 h
  have e := dp_int (asd_ok (.dat _) hx)
  subst e
  exact ⟨i, rfl, k _ _ μ I H (.refl sm w (sl_dat (.int _))) p⟩
def rMinQ : List V → Hp → VK → Prop := fun xs H Q => ∃ i j, xs = [.int i, .int j] ∧ Q (.int (if j < i then j else i)) H
theorem call_minQ {X : Cx} (hc : X.calm = true) : CallR X (.builtin "min") rMinQ := call_min2 hc
theorem ca_min {i j : Int} (p : P (.dat (.int (if j < i then j else i))) μ) : CaA K rMinQ [.dat (.int i), .dat (.int j)] μ P := fun I H xs Q sm w h k => by
  obtain ⟨x, y, rfl, hx, hy⟩ := env2 h
  have e := dp_int (asd_ok (.dat _) hx)
  have e2 := dp_int (asd_ok (.dat _) hy)
  subst e e2
  exact ⟨i, j, rfl, k _ _ μ I H (.refl sm w (sl_dat (.int _))) p⟩
def rMaxQ : List V → Hp → VK → Prop := fun xs H Q => ∃ i j, xs = [.int i, .int j] ∧ Q (.int (if j > i then j else i)) H
theorem call_maxQ {X : Cx} (hc : X.calm = true) : CallR X (.builtin "max") rMaxQ := call_max2 hc
theorem ca_max {i j : Int} (p : P (.dat (.int (if j > i then j else i))) μ) : CaA K rMaxQ [.dat (.int i), .dat (.int j)] μ P := fun I H xs Q sm w h k => by
  obtain ⟨x, y, rfl, hx, hy⟩ := env2 h
  have e := dp_int (asd_ok (.dat _) hx)
  have e2 := dp_int (asd_ok (.dat _) hy)
  subst e e2
  exact ⟨i, j, rfl, k _ _ μ I H (.refl sm w (sl_dat (.int _))) p⟩
def rInt1 : List V → Hp → VK → Prop := fun xs H Q => (∃ i, xs = [.int i] ∧ Q (.int i) H) ∨ ∃ k, xs = [.bl k] ∧ Q (.int (if k then 1 else 0)) H
theorem call_int1Q {X : Cx} : CallR X (.type "int") rInt1 := call_int1
theorem ca_int {i : Int} (p : P (.dat (.int i)) μ) : CaA K rInt1 [.dat (.int i)] μ P := fun I H xs Q sm w h k => by
  obtain ⟨x, rfl, hx⟩ := env1 h
  have e := dp_int (asd_ok (.dat _) hx)
  subst e
  exact .inl ⟨i, rfl, k _ _ μ I H (.refl sm w (sl_dat (.int _))) p⟩
def rIntT : List V → Hp → VK → Prop := fun xs H Q => ∃ a n, xs = [.str a] ∧ PySem.intText? a = some n ∧ a.length ≤ 640 ∧ Q (.int n) H
theorem call_intT {X : Cx} : CallR X (.type "int") rIntT := call_int_str
theorem ca_intT {a : Str} {n : Int} (hn : PySem.intText? a = some n) (hl : a.length ≤ 640) (p : P (.dat (.int n)) μ) : CaA K rIntT [.dat (.str a)] μ P := fun I H xs Q sm w h k => by
  obtain ⟨x, rfl, hx⟩ := env1 h
  have e := dp_str (asd_ok (.dat _) hx)
  subst e
  exact ⟨a, n, rfl, hn, hl, k _ _ μ I H (.refl sm w (sl_dat (.int _))) p⟩
def rStrI : List V → Hp → VK → Prop := fun xs H Q => ∃ i : Int, xs = [.int i] ∧ i.natAbs.log2 < 1920 ∧ Q (.str (toString i)) H
theorem call_strI {X : Cx} : CallR X (.type "str") rStrI := call_str_int
/-- a number's text -/
def numT (i : Int) : Str := (toString i : String)
theorem ca_strI {i : Int} (hl : i.natAbs.log2 < 1920) (p : P (.dat (.str (numT i))) μ) : CaA K rStrI [.dat (.int i)] μ P := fun I H xs Q sm w h k => by
  obtain ⟨x, rfl, hx⟩ := env1 h
  have e := dp_int (asd_ok (.dat _) hx)
  subst e
  exact ⟨i, rfl, hl, k _ _ μ I H (.refl sm w (sl_dat (.str _))) p⟩
def rStrA : List V → Hp → VK → Prop := fun xs H Q => rStrI xs H Q ∨ ∃ a, xs = [.str a] ∧ Q (.str a) H
theorem call_strA {X : Cx} : CallR X (.type "str") rStrA := fun pins s σ H xs us Q I r h => h.elim (fun h => call_str_int pins s σ H xs us Q I r h) fun h => SkE.call_str_str pins s σ H xs us Q I r h
theorem ca_strAI {i : Int} (hl : i.natAbs.log2 < 1920) (p : P (.dat (.str (numT i))) μ) : CaA K rStrA [.dat (.int i)] μ P := fun I H xs Q sm w h k => .inl (ca_strI hl p I H xs Q sm w h k)
theorem ca_strAT {a : Str} (p : P (.dat (.str a)) μ) : CaA K rStrA [.dat (.str a)] μ P := fun I H xs Q sm w h k => by
  obtain ⟨x, rfl, hx⟩ := env1 h
  have e := dp_str (asd_ok (.dat _) hx)
  subst e
  exact .inr ⟨a, rfl, k _ _ μ I H (.refl sm w (sl_dat (.str _))) p⟩
def rTupQ (K : PySem.W.Frag) : List V → Hp → VK → Prop := fun xs H Q => ∃ p ys, xs = [.ref p] ∧ ((SqL K H p ys ∧ ∀ l, H l = none → Q (.ref l) (upd H l (.tup ys))) ∨ (SqT K H p ys ∧ Q (.ref p) H))
theorem call_tupQ {X : Cx} : CallR X (.type "tuple") (rTupQ X.K) := call_tuple_of
theorem ca_tup {s : Sl} {ds : List PyData} (q : LstS μ s ds) (p : P (.dat (.tuple ds)) μ) : CaA K (rTupQ K) [s] μ P := fun I H xs Q sm w h k => by
  obtain ⟨x, rfl, hx⟩ := env1 h
  obtain ⟨a, ys, rfl, hs, ha⟩ := lsts_ok q sm w hx
  refine ⟨a, ys, rfl, .inl ⟨hs, fun l hl => ?_⟩⟩
  have ha' : AtAll K (upd I l (.tup ys)) ys ds := dpa_same (fun b u e => by rw [upd_ne (ne_of_none (sm b u e) hl)]; exact e) ha
  exact k _ _ μ _ _ (new_at sm w hl (.tup upd_same ha')) p
theorem ca_all {bs : List Bool} (p : P (.dat (.bool (bs.all id))) μ) : CaA K (rAll K) [.dat (.list (bs.map .bool))] μ P := fun I H xs Q sm w h k => by
  obtain ⟨x, rfl, hx⟩ := env1 h
  obtain ⟨a, ys, rfl, hs, ha⟩ := dp_lst (asd_ok (.dat _) hx)
  have e := dpa_bls ha
  subst e
  exact ⟨a, bs, rfl, SqL.of (sm _ _ hs), k _ _ μ I H (.refl sm w (sl_dat (.bl _))) p⟩
theorem ca_any {bs : List Bool} (p : P (.dat (.bool (bs.any id))) μ) : CaA K (rAny K) [.dat (.list (bs.map .bool))] μ P := fun I H xs Q sm w h k => by
  obtain ⟨x, rfl, hx⟩ := env1 h
  obtain ⟨a, ys, rfl, hs, ha⟩ := dp_lst (asd_ok (.dat _) hx)
  have e := dpa_bls ha
  subst e
  exact ⟨a, bs, rfl, SqL.of (sm _ _ hs), k _ _ μ I H (.refl sm w (sl_dat (.bl _))) p⟩

/-! ### methods -/
theorem owns_put {j : Nat} {a : Addr} {ob ob' : Ob} {o : HO} (sm : Same I H) (w : Owns K I H μ) (hj : μ[j]? = some (a, ob)) (ho : ∀ I' H', Same I I' → H' a = some o → ObOk K I' H' a ob') (hn : ob.isTp = false := by rfl) :
    Go (rt μ) I H (rt (μ.set j (a, ob'))) I (upd H a o) ∧ Owns K I (upd H a o) (μ.set j (a, ob')) := by
  have hm : (a, ob) ∈ μ := List.mem_of_getElem? hj
  obtain ⟨nI', oo⟩ := w.ok _ hm
  have nI := fre_none nI' hn
  have ma : a ∈ rt μ := List.mem_map.mpr ⟨_, hm, rfl⟩
  have gw : Go [a] I H [a] I (upd H a o) := Go.wr sm (by simp) nI (obok_there oo)
  have gw2 : Go (rt μ) I H (rt μ) I (upd H a o) := Go.wr sm ma nI (obok_there oo)
  refine ⟨gw2.sub_rts fun b m => ?_, owns_set w hj gw (fun b m => by simpa using m) nI (ho I _ (Same.refl I) upd_same)⟩
  obtain ⟨q, hq, e⟩ := List.mem_map.mp m
  rcases List.mem_or_eq_of_mem_set hq with z | z
  · exact List.mem_map.mpr ⟨q, z, e⟩
  · subst z; subst e; exact ma
theorem ev_append {to : TE} {ta : TA} (h : EvC K to δ μ fun s μ1 => ∃ a, s = .val (.ref a) ∧ (∃ ds, (a, Ob.ls ds) ∈ μ1) ∧ EvA K ta δ μ1 fun ss μ2 => ∃ j ds d, (∃ s', ss = [s'] ∧ AsD s' d) ∧ μ2[j]? = some (a, .ls ds) ∧ ds.length < sizeLine ∧ P (.dat .none) (μ2.set j (a, .ls (ds ++ [d])))) :
    EvC K (tBM K "list" rAppend to ta) δ μ P := by
  intro I H σ Q st k
  refine h I H σ _ st fun v s μ1 I1 H1 e1 p1 => ?_
  obtain ⟨a, rfl, ⟨ds0, hm⟩, p1⟩ := p1
  have e : some v = some (.ref a) := e1.sl
  cases e
  obtain ⟨_, xs0, hx0, _⟩ := e1.own.ok _ hm
  refine ⟨.inl ⟨rfl, xs0, SqL.of hx0⟩, ?_⟩
  refine p1 I1 H1 σ _ (st.go e1.go e1.own) fun vs ss μ2 I2 H2 g2 n2 w2 p2 => ?_
  obtain ⟨j, ds, d, ⟨s', rfl, had⟩, hj, hl, p⟩ := p2
  obtain ⟨y, rfl, hy⟩ := env1 n2
  obtain ⟨nI, xs, hx, ha⟩ := w2.ok _ (List.mem_of_getElem? hj)
  have hd := asd_ok had hy
  obtain ⟨gw, ww⟩ := owns_put (ob' := .ls (ds ++ [d])) (o := .lst (xs ++ [y])) g2.sub w2 hj fun I' H' si ho => ⟨_, ho, dpa_same si (dpa_app ha (.cons hd .nil))⟩
  exact ⟨a, xs, y, rfl, rfl, hx, by rw [dpa_len ha]; exact hl, k _ _ _ I2 _ ⟨(e1.go.trans g2).trans gw, sl_dat .non, ww⟩ p⟩
/-- texts -/
def rSplitQ : V → List V → Hp → VK → Prop := fun x xs H Q => ∃ a b, x = .str a ∧ xs = [.str b] ∧ (b.length == 0) = false ∧ a.length + 2 ≤ sizeLine ∧ rNewStrs (Txt.split a b) H Q
theorem mt_splitQ {X : Cx} : MtR X "str.split" rSplitQ := mt_split
theorem ev_split {to te : TE} (h : EvC K to δ μ fun s μ1 => ∃ a, s = .dat (.str a) ∧ EvC K te δ μ1 fun s2 μ2 => ∃ b, s2 = .dat (.str b) ∧ (b.length == 0) = false ∧ a.length + 2 ≤ sizeLine ∧ P (.dat (.list ((Txt.split a b).map .str))) μ2) : EvC K (tM1 rSplitQ to te) δ μ P := by
  intro I H σ Q st k
  refine h I H σ _ st fun v s μ1 I1 H1 e1 p1 => ?_
  obtain ⟨a, rfl, p1⟩ := p1
  have e := dp_str (asd_ok (.dat _) e1.sl)
  subst e
  refine ⟨⟨a, rfl⟩, p1 I1 H1 σ _ (st.go e1.go e1.own) fun y s2 μ2 I2 H2 e2 p2 => ?_⟩
  obtain ⟨b, rfl, hb, hl, p⟩ := p2
  have e := dp_str (asd_ok (.dat _) e2.sl)
  subst e
  refine ⟨a, b, rfl, rfl, hb, hl, fun l hn => ?_⟩
  exact k _ _ μ2 _ _ ((new_at e2.go.sub e2.own hn (.lst upd_same (strs_dpa _))).back (e1.go.trans e2.go)) p
def rJoinQ (K : PySem.W.Frag) : V → List V → Hp → VK → Prop := fun x xs H Q => ∃ a p, ∃ ys : List Str, x = .str a ∧ xs = [.ref p] ∧ (SqL K H p (ys.map V.str) ∨ SqT K H p (ys.map V.str)) ∧
    (ys.map (·.length)).sum + ys.length * a.length ≤ 16777216 ∧ Q (.str (Txt.join a ys)) H
theorem mt_joinQ {X : Cx} : MtR X "str.join" (rJoinQ X.K) := mt_join
theorem ev_join {to te : TE} (h : EvC K to δ μ fun s μ1 => ∃ a, s = .dat (.str a) ∧ EvC K te δ μ1 fun s2 μ2 => ∃ ys : List Str, SeqS μ2 s2 (ys.map .str) ∧ (ys.map (·.length)).sum + ys.length * a.length ≤ 16777216 ∧ P (.dat (.str (Txt.join a ys))) μ2) : EvC K (tM1 (rJoinQ K) to te) δ μ P := by
  intro I H σ Q st k
  refine h I H σ _ st fun v s μ1 I1 H1 e1 p1 => ?_
  obtain ⟨a, rfl, p1⟩ := p1
  have e := dp_str (asd_ok (.dat _) e1.sl)
  subst e
  refine ⟨⟨a, rfl⟩, p1 I1 H1 σ _ (st.go e1.go e1.own) fun y s2 μ2 I2 H2 e2 p2 => ?_⟩
  obtain ⟨ys, q, hl, p⟩ := p2
  obtain ⟨l, xs, rfl, hx, ha⟩ := seqs_ok q e2.go.sub e2.own e2.sl
  have e := dpa_strs ha
  subst e
  exact ⟨a, l, ys, rfl, rfl, seq_or hx, hl, k _ _ μ2 _ _ ⟨e1.go.trans e2.go, sl_dat (.str _), e2.own⟩ p⟩
end
end K81
/-! ## E6 -/
set_option Elab.async false
set_option linter.all false
set_option maxRecDepth 100000
set_option maxHeartbeats 4000000
/-! Dicts over slots and objects. -/
namespace K81
open PySem PySem.Spec PyProof.Rows L2

/-! ### lists of pairs as tables of data -/
section
variable {κ α : Type} [DecidableEq κ]
def valD (es : List (κ × α)) (k : κ) : Option α := (es.find? fun e => decide (e.1 = k)).map (·.2)
def putD (es : List (κ × α)) (k : κ) (d : α) : List (κ × α) :=
  if (es.any fun e => decide (e.1 = k)) = true then es.map (fun e => if e.1 = k then (e.1, d) else e) else es ++ [(k, d)]
def dropD (es : List (κ × α)) (k : κ) : List (κ × α) := es.filter fun e => decide (e.1 ≠ k)
theorem valD_cons {p : κ × α} {es : List (κ × α)} {k : κ} : valD (p :: es) k = if p.1 = k then some p.2 else valD es k := by
  unfold valD
  by_cases h : p.1 = k
  · rw [List.find?_cons, decide_eq_true h, if_pos h]; rfl
  · rw [List.find?_cons, decide_eq_false h, if_neg h]
end
section
variable {κ : Type} [DecidableEq κ] {K : PySem.W.Frag} {I : Hp}
/-- a table of values is the table of data -/
structure Tab (K : PySem.W.Frag) (I : Hp) (kvs : List (κ × V)) (es : List (κ × PyData)) : Prop where
  keys : kvs.map (·.1) = es.map (·.1)
  vals : AtAll K I (kvs.map (·.2)) (es.map (·.2))
theorem Tab.nil : Tab K I ([] : List (κ × V)) [] := ⟨rfl, .nil⟩
theorem Tab.cons {k : κ} {v : V} {d : PyData} {kvs : List (κ × V)} {es : List (κ × PyData)} (h : At K I v d) (t : Tab K I kvs es) : Tab K I ((k, v) :: kvs) ((k, d) :: es) := ⟨by rw [List.map_cons, List.map_cons, t.keys], .cons h t.vals⟩
theorem Tab.inv {p : κ × V} {kvs : List (κ × V)} {es : List (κ × PyData)} (t : Tab K I (p :: kvs) es) : ∃ d es', es = (p.1, d) :: es' ∧ At K I p.2 d ∧ Tab K I kvs es' := by
  obtain ⟨h1, h2⟩ := t
  cases es with
  | nil => cases h1
  | cons e es =>
    obtain ⟨k, d⟩ := e
    rw [List.map_cons, List.map_cons] at h1
    injection h1 with h3 h4
    have h3 : p.1 = k := h3
    subst h3
    cases h2 with
    | cons a b => exact ⟨d, es, rfl, a, h4, b⟩
theorem Tab.len {kvs : List (κ × V)} {es : List (κ × PyData)} (t : Tab K I kvs es) : kvs.length = es.length := by have := congrArg List.length t.keys; simpa using this
theorem Tab.get : ∀ {kvs : List (κ × V)} {es : List (κ × PyData)} (k : κ), Tab K I kvs es → (valV kvs k = none ∧ valD es k = none) ∨ ∃ v d, valV kvs k = some v ∧ valD es k = some d ∧ At K I v d
  | [], es, k, t => by
    have : es = [] := by
      have := t.len
      exact List.eq_nil_of_length_eq_zero this.symm
    subst this
    exact .inl ⟨rfl, rfl⟩
  | p :: kvs, es, k, t => by
    obtain ⟨d, es', rfl, h, t'⟩ := t.inv
    rw [valD_cons]
    by_cases e : p.1 = k
    · rw [if_pos e, valV_pos e]
      exact .inr ⟨_, _, rfl, rfl, h⟩
    · rw [if_neg e, valV_neg e]
      exact Tab.get k t'
theorem Tab.any : ∀ {kvs : List (κ × V)} {es : List (κ × PyData)} (k : κ), Tab K I kvs es → (kvs.any fun e => decide (e.1 = k)) = es.any fun e => decide (e.1 = k)
  | [], es, k, t => by
    have : es = [] := List.eq_nil_of_length_eq_zero t.len.symm
    subst this
    rfl
  | p :: kvs, es, k, t => by
    obtain ⟨d, es', rfl, h, t'⟩ := t.inv
    rw [List.any_cons, List.any_cons, Tab.any k t']
theorem Tab.repl : ∀ {kvs : List (κ × V)} {es : List (κ × PyData)} (k : κ) {v : V} {d : PyData}, Tab K I kvs es → At K I v d → Tab K I (kvs.map fun e => if e.1 = k then (e.1, v) else e) (es.map fun e => if e.1 = k then (e.1, d) else e)
  | [], es, k, v, d, t, _ => by
    have : es = [] := List.eq_nil_of_length_eq_zero t.len.symm
    subst this
    exact .nil
  | p :: kvs, es, k, v, d, t, hv => by
    obtain ⟨d', es', rfl, h, t'⟩ := t.inv
    rw [List.map_cons, List.map_cons]
    by_cases e : p.1 = k
    · rw [if_pos e, if_pos e]
      exact .cons hv (Tab.repl k t' hv)
    · rw [if_neg e, if_neg e]
      exact .cons h (Tab.repl k t' hv)
theorem Tab.app : ∀ {kvs ws : List (κ × V)} {es fs : List (κ × PyData)}, Tab K I kvs es → Tab K I ws fs → Tab K I (kvs ++ ws) (es ++ fs)
  | [], ws, es, fs, t, u => by
    have : es = [] := List.eq_nil_of_length_eq_zero t.len.symm
    subst this
    exact u
  | p :: kvs, ws, es, fs, t, u => by
    obtain ⟨d', es', rfl, h, t'⟩ := t.inv
    exact .cons h (Tab.app t' u)
theorem Tab.put {kvs : List (κ × V)} {es : List (κ × PyData)} (k : κ) {v : V} {d : PyData} (t : Tab K I kvs es) (hv : At K I v d) : Tab K I (putK kvs k v) (putD es k d) := by
  unfold putK putD
  rw [t.any k]
  by_cases q : (es.any fun e => decide (e.1 = k)) = true
  · rw [if_pos q, if_pos q]; exact t.repl k hv
  · rw [if_neg q, if_neg q]; exact t.app (.cons hv .nil)
theorem Tab.drop : ∀ {kvs : List (κ × V)} {es : List (κ × PyData)} (k : κ), Tab K I kvs es → Tab K I (dropK kvs k) (dropD es k)
  | [], es, k, t => by
    have : es = [] := List.eq_nil_of_length_eq_zero t.len.symm
    subst this
    exact .nil
  | p :: kvs, es, k, t => by
    obtain ⟨d', es', rfl, h, t'⟩ := t.inv
    unfold dropK dropD
    rw [List.filter_cons, List.filter_cons]
    by_cases e : p.1 = k
    · rw [if_neg (by simp [e]), if_neg (by simp [e])]
      exact Tab.drop k t'
    · rw [if_pos (by simp [e]), if_pos (by simp [e])]
      exact .cons h (Tab.drop k t')
theorem Tab.same {I' : Hp} (s : Same I I') {kvs : List (κ × V)} {es : List (κ × PyData)} (t : Tab K I kvs es) : Tab K I' kvs es := ⟨t.keys, dpa_same s t.vals⟩
end

/-- a key's data -/
def keyD : Key → PyData
  | .inl i => .int i
  | .inr x => .str x
theorem key_at {K : PySem.W.Frag} {I : Hp} {v : V} {k : Key} (h : At K I v (keyD k)) : v = kV k := by
  cases k with
  | inl i => exact dp_int h
  | inr x => exact dp_str h
theorem keys_at {K : PySem.W.Frag} {I : Hp} : ∀ {vs : List V} {ks : List Key}, AtAll K I vs (ks.map keyD) → vs = ks.map kV
  | _, [], .nil => rfl
  | _, k :: ks, .cons h r => by rw [key_at h, keys_at r]; rfl

/-- what a dict of ours holds at a key, as data -/
inductive DicS (μ : Mu) : Addr → PyData → Option PyData → Prop
  | k {a : Addr} {es : List (Key × PyData)} (k : Key) : (a, Ob.dk es) ∈ μ → DicS μ a (keyD k) (valD es k)
  | t {a : Addr} {es : List (List Key × PyData)} (k : List Key) : (a, Ob.dt es) ∈ μ → DicS μ a (.tuple (k.map keyD)) (valD es k)
section
variable {K : PySem.W.Frag} {δ : List Sl} {μ : Mu} {P : Sl → Mu → Prop} {I H : Hp}
theorem dics_ok {a : Addr} {kd : PyData} {o : Option PyData} {y : V} (q : DicS μ a kd o) (sm : Same I H) (w : Owns K I H μ) (hy : At K I y kd) : ∃ r, DGet H a y r ∧ ((r = none ∧ o = none) ∨ ∃ v d, r = some v ∧ o = some d ∧ At K I v d) := by
  cases q with
  | @k es k hm =>
    obtain ⟨_, kvs, hk, e1, e2⟩ := w.ok _ hm
    have e := key_at hy
    subst e
    exact ⟨_, DGet.k hk, Tab.get k ⟨e1, e2⟩⟩
  | @t es k hm =>
    obtain ⟨_, kvs, hk, e1, e2⟩ := w.ok _ hm
    obtain ⟨b, xs, rfl, hb, ha⟩ := dp_tup hy
    have e := keys_at ha
    subst e
    exact ⟨_, DGet.t hk (sm _ _ hb), Tab.get k ⟨e1, e2⟩⟩
/-- d[k] -/
theorem ev_dget {td ty : TE} (h : EvC K td δ μ fun s μ1 => ∃ a, s = .val (.ref a) ∧ EvC K ty δ μ1 fun s2 μ2 => ∃ kd d, AsD s2 kd ∧ DicS μ2 a kd (some d) ∧ P (.dat d) μ2) : EvC K (tDGet td ty) δ μ P := by
  intro I H σ Q st k
  refine h I H σ _ st fun v s μ1 I1 H1 e1 p1 => ?_
  obtain ⟨a, rfl, p1⟩ := p1
  have e : some v = some (.ref a) := e1.sl
  cases e
  refine p1 I1 H1 σ _ (st.go e1.go e1.own) fun y s2 μ2 I2 H2 e2 p2 => ?_
  obtain ⟨kd, d, had, q, p⟩ := p2
  obtain ⟨r, hg, z⟩ := dics_ok q e2.go.sub e2.own (asd_ok had e2.sl)
  rcases z with ⟨_, z⟩ | ⟨v, d', rfl, z, hv⟩
  · cases z
  · cases z
    exact ⟨a, v, rfl, hg, k v _ μ2 I2 H2 ⟨e1.go.trans e2.go, sl_dat hv, e2.own⟩ p⟩
theorem isd_of {a : Addr} (w : Owns K I H μ) (h : (∃ es, (a, Ob.dk es) ∈ μ) ∨ ∃ es, (a, Ob.dt es) ∈ μ) : IsD H a := by
  rcases h with ⟨es, hm⟩ | ⟨es, hm⟩
  · obtain ⟨_, kvs, hk, _⟩ := w.ok _ hm
    exact .inl ⟨kvs, .inl hk⟩
  · obtain ⟨_, kvs, hk, _⟩ := w.ok _ hm
    exact .inr ⟨kvs, .inl hk⟩
/-- d.get(k) -/
theorem ev_dget1 {td ty : TE} (h : EvC K td δ μ fun s μ1 => ∃ a, s = .val (.ref a) ∧ ((∃ es, (a, Ob.dk es) ∈ μ1) ∨ ∃ es, (a, Ob.dt es) ∈ μ1) ∧ EvC K ty δ μ1 fun s2 μ2 => ∃ kd o, AsD s2 kd ∧ DicS μ2 a kd o ∧ P (.dat (o.getD .none)) μ2) : EvC K (tDGet1 td ty) δ μ P := by
  intro I H σ Q st k
  refine h I H σ _ st fun v s μ1 I1 H1 e1 p1 => ?_
  obtain ⟨a, rfl, hd, p1⟩ := p1
  have e : some v = some (.ref a) := e1.sl
  cases e
  refine ⟨a, rfl, isd_of e1.own hd, p1 I1 H1 σ _ (st.go e1.go e1.own) fun y s2 μ2 I2 H2 e2 p2 => ?_⟩
  obtain ⟨kd, o, had, q, p⟩ := p2
  obtain ⟨r, hg, z⟩ := dics_ok q e2.go.sub e2.own (asd_ok had e2.sl)
  refine ⟨r, hg, k _ _ μ2 I2 H2 ⟨e1.go.trans e2.go, sl_dat ?_, e2.own⟩ p⟩
  rcases z with ⟨rfl, rfl⟩ | ⟨v, d', rfl, rfl, hv⟩
  · exact .non
  · exact hv
/-- d.get(k, x) -/
theorem ev_dget2 {td ty tx : TE} (h : EvC K td δ μ fun s μ1 => ∃ a, s = .val (.ref a) ∧ ((∃ es, (a, Ob.dk es) ∈ μ1) ∨ ∃ es, (a, Ob.dt es) ∈ μ1) ∧ EvC K ty δ μ1 fun s2 μ2 => EvC K tx δ μ2 fun s3 μ3 => ∃ kd o dd, AsD s2 kd ∧ AsD s3 dd ∧ DicS μ3 a kd o ∧ P (.dat (o.getD dd)) μ3) : EvC K (tDGet2 td ty tx) δ μ P := by
  intro I H σ Q st k
  refine h I H σ _ st fun v s μ1 I1 H1 e1 p1 => ?_
  obtain ⟨a, rfl, hd, p1⟩ := p1
  have e : some v = some (.ref a) := e1.sl
  cases e
  refine ⟨a, rfl, isd_of e1.own hd, p1 I1 H1 σ _ (st.go e1.go e1.own) fun y s2 μ2 I2 H2 e2 p2 => ?_⟩
  refine p2 I2 H2 σ _ (st.go (e1.go.trans e2.go) e2.own) fun z s3 μ3 I3 H3 e3 p3 => ?_
  obtain ⟨kd, o, dd, had, hax, q, p⟩ := p3
  obtain ⟨r, hg, zz⟩ := dics_ok q e3.go.sub e3.own (asd_ok had (slok_same e3.go.im e2.sl))
  refine ⟨r, hg, k _ _ μ3 I3 H3 ⟨(e1.go.trans e2.go).trans e3.go, sl_dat ?_, e3.own⟩ p⟩
  rcases zz with ⟨rfl, rfl⟩ | ⟨v, d', rfl, rfl, hv⟩
  · exact asd_ok hax e3.sl
  · exact hv
/-- k in d, k not in d -/
theorem ev_din {td ty : TE} (h : EvC K ty δ μ fun s2 μ1 => EvC K td δ μ1 fun s μ2 => ∃ a kd o, s = .val (.ref a) ∧ AsD s2 kd ∧ DicS μ2 a kd o ∧ P (.dat (.bool o.isSome)) μ2) : EvC K (tDIn ty td) δ μ P := by
  intro I H σ Q st k
  refine h I H σ _ st fun y s2 μ1 I1 H1 e1 p1 => ?_
  refine p1 I1 H1 σ _ (st.go e1.go e1.own) fun v s μ2 I2 H2 e2 p2 => ?_
  obtain ⟨a, kd, o, rfl, had, q, p⟩ := p2
  have e : some v = some (.ref a) := e2.sl
  cases e
  obtain ⟨r, hg, z⟩ := dics_ok q e2.go.sub e2.own (asd_ok had (slok_same e2.go.im e1.sl))
  refine ⟨a, r, rfl, hg, ?_⟩
  have er : r.isSome = o.isSome := by rcases z with ⟨rfl, rfl⟩ | ⟨v, d', rfl, rfl, _⟩ <;> rfl
  rw [er]
  exact k _ _ μ2 I2 H2 ⟨e1.go.trans e2.go, sl_dat (.bl _), e2.own⟩ p
theorem ev_dnotin {td ty : TE} (h : EvC K ty δ μ fun s2 μ1 => EvC K td δ μ1 fun s μ2 => ∃ a kd o, s = .val (.ref a) ∧ AsD s2 kd ∧ DicS μ2 a kd o ∧ P (.dat (.bool (!o.isSome))) μ2) : EvC K (tDNotIn ty td) δ μ P := by
  intro I H σ Q st k
  refine h I H σ _ st fun y s2 μ1 I1 H1 e1 p1 => ?_
  refine p1 I1 H1 σ _ (st.go e1.go e1.own) fun v s μ2 I2 H2 e2 p2 => ?_
  obtain ⟨a, kd, o, rfl, had, q, p⟩ := p2
  have e : some v = some (.ref a) := e2.sl
  cases e
  obtain ⟨r, hg, z⟩ := dics_ok q e2.go.sub e2.own (asd_ok had (slok_same e2.go.im e1.sl))
  refine ⟨a, r, rfl, hg, ?_⟩
  have er : r.isSome = o.isSome := by rcases z with ⟨rfl, rfl⟩ | ⟨v, d', rfl, rfl, _⟩ <;> rfl
  rw [er]
  exact k _ _ μ2 I2 H2 ⟨e1.go.trans e2.go, sl_dat (.bl _), e2.own⟩ p
/-- d.pop(k), it is there -/
theorem ev_dpop {td ty : TE} (h : EvC K td δ μ fun s μ1 => ∃ a, s = .val (.ref a) ∧ (∃ es, (a, Ob.dk es) ∈ μ1) ∧ EvC K ty δ μ1 fun s2 μ2 => ∃ j es key d, AsD s2 (keyD key) ∧ μ2[j]? = some (a, Ob.dk es) ∧ valD es key = some d ∧ P (.dat d) (μ2.set j (a, .dk (dropD es key)))) : EvC K (tDPop1 td ty) δ μ P := by
  intro I H σ Q st k
  refine h I H σ _ st fun v s μ1 I1 H1 e1 p1 => ?_
  obtain ⟨a, rfl, hd, p1⟩ := p1
  have e : some v = some (.ref a) := e1.sl
  cases e
  refine ⟨a, rfl, isd_of e1.own (.inl hd), p1 I1 H1 σ _ (st.go e1.go e1.own) fun y s2 μ2 I2 H2 e2 p2 => ?_⟩
  obtain ⟨j, es, key, d, had, hj, hv, p⟩ := p2
  have ey := key_at (asd_ok had e2.sl)
  subst ey
  obtain ⟨nI, kvs, hk, t1, t2⟩ := e2.own.ok _ (List.mem_of_getElem? hj)
  have tab : Tab K I2 kvs es := ⟨t1, t2⟩
  rcases tab.get key with ⟨_, z⟩ | ⟨v, d', z1, z2, z3⟩
  · rw [z] at hv; cases hv
  · rw [z2] at hv
    cases hv
    have td := tab.drop key
    obtain ⟨gw, ww⟩ := owns_put (ob' := .dk (dropD es key)) (o := .dK (dropK kvs key)) e2.go.sub e2.own hj fun I' H' si ho => ⟨_, ho, td.keys, dpa_same si td.vals⟩
    exact ⟨kvs, key, v, hk, rfl, z1, k _ _ _ I2 _ ⟨(e1.go.trans e2.go).trans gw, sl_dat z3, ww⟩ p⟩
/-- d[k] = v -/
theorem ex_dput {td ty tv : TE} {A : AEnds} (h : EvC K tv δ μ fun s0 μ0 => EvC K td δ μ0 fun s μ1 => ∃ a, s = .val (.ref a) ∧ EvC K ty δ μ1 fun s2 μ2 => ∃ j key d, AsD s0 d ∧ AsD s2 (keyD key) ∧ ∃ es, μ2[j]? = some (a, Ob.dk es) ∧ es.length < sizeLine ∧ A.nx δ (μ2.set j (a, .dk (putD es key d)))) :
    ExC K (sDPut td ty tv) δ μ A := by
  intro I H σ D st n _ _ _
  refine h I H σ _ st fun v s0 μ0 I0 H0 e0 p0 => ?_
  refine p0 I0 H0 σ _ (st.go e0.go e0.own) fun x s μ1 I1 H1 e1 p1 => ?_
  obtain ⟨a, rfl, p1⟩ := p1
  have e : some x = some (.ref a) := e1.sl
  cases e
  refine p1 I1 H1 σ _ (st.go (e0.go.trans e1.go) e1.own) fun y s2 μ2 I2 H2 e2 p2 => ?_
  obtain ⟨j, key, d, hd, had, es, hj, hl, p⟩ := p2
  have ey := key_at (asd_ok had e2.sl)
  subst ey
  obtain ⟨nI, kvs, hk, t1, t2⟩ := e2.own.ok _ (List.mem_of_getElem? hj)
  have tab : Tab K I2 kvs es := ⟨t1, t2⟩
  have tp := tab.put key (asd_ok hd (slok_same (e1.go.im.trans e2.go.im) e0.sl))
  obtain ⟨gw, ww⟩ := owns_put (ob' := .dk (putD es key d)) (o := .dK (putK kvs key v)) e2.go.sub e2.own hj fun I' H' si ho => ⟨_, ho, tp.keys, dpa_same si tp.vals⟩
  have g := ((e0.go.trans e1.go).trans e2.go).trans gw
  exact ⟨a, _, rfl, DPut.k hk (by rw [tab.len]; exact hl), n σ _ ⟨δ, _, I2, g, env_same g.im st.env, ww, p⟩⟩
theorem ex_dputT {td ty tv : TE} {A : AEnds} (h : EvC K tv δ μ fun s0 μ0 => EvC K td δ μ0 fun s μ1 => ∃ a, s = .val (.ref a) ∧ EvC K ty δ μ1 fun s2 μ2 => ∃ j key d, AsD s0 d ∧ s2 = .dat (.tuple (List.map keyD key)) ∧ ∃ es, μ2[j]? = some (a, Ob.dt es) ∧ es.length < sizeLine ∧ A.nx δ (μ2.set j (a, .dt (putD es key d)))) :
    ExC K (sDPut td ty tv) δ μ A := by
  intro I H σ D st n _ _ _
  refine h I H σ _ st fun v s0 μ0 I0 H0 e0 p0 => ?_
  refine p0 I0 H0 σ _ (st.go e0.go e0.own) fun x s μ1 I1 H1 e1 p1 => ?_
  obtain ⟨a, rfl, p1⟩ := p1
  have e : some x = some (.ref a) := e1.sl
  cases e
  refine p1 I1 H1 σ _ (st.go (e0.go.trans e1.go) e1.own) fun y s2 μ2 I2 H2 e2 p2 => ?_
  obtain ⟨j, key, d, hd, rfl, es, hj, hl, p⟩ := p2
  obtain ⟨b, xs, rfl, hb, ha⟩ := dp_tup (asd_ok (.dat _) e2.sl)
  have ey := keys_at ha
  subst ey
  obtain ⟨nI, kvs, hk, t1, t2⟩ := e2.own.ok _ (List.mem_of_getElem? hj)
  have tab : Tab K I2 kvs es := ⟨t1, t2⟩
  have tp := tab.put key (asd_ok hd (slok_same (e1.go.im.trans e2.go.im) e0.sl))
  obtain ⟨gw, ww⟩ := owns_put (ob' := .dt (putD es key d)) (o := .dT (putK kvs key v)) e2.go.sub e2.own hj fun I' H' si ho => ⟨_, ho, tp.keys, dpa_same si tp.vals⟩
  have g := ((e0.go.trans e1.go).trans e2.go).trans gw
  exact ⟨a, _, rfl, DPut.t hk (e2.go.sub _ _ hb) (by rw [tab.len]; exact hl), n σ _ ⟨δ, _, I2, g, env_same g.im st.env, ww, p⟩⟩
end
end K81
/-! ## E7 -/
set_option Elab.async false
set_option linter.all false
set_option maxRecDepth 100000
set_option maxHeartbeats 4000000
/-! Rules that the layer lacks: any of a tuple of numbers, a tuple once, sorted of a dict with tuple keys. -/
namespace K81
open PySem PySem.Spec PyProof.Rows L2

section
variable {X : Cx}
theorem plain_ints : ∀ ns : List Int, PyData.plainAll (ns.map .int) = true
  | [] => by simp [PyData.plainAll]
  | n :: ns => by
    show PyData.plainAll (.int n :: ns.map .int) = true
    rw [PyData.plainAll, plain_ints ns]
    simp [PyData.plain]
def rAnyTI (K : PySem.W.Frag) : List V → Hp → VK → Prop := fun vs H Q => ∃ (a : Addr) (ns : List Int), vs = [V.ref a] ∧ SqT K H a (ns.map V.int) ∧ Q (.bl (ns.any fun n => n != 0)) H
theorem cr_anyTI (hc : X.calm = true) : CallR X (.builtin "any") (rAnyTI X.K) := by
  intro pins s σ H xs us Q I r h
  obtain ⟨a, ns, rfl, hT, q⟩ := h
  obtain ⟨u, rfl, rx⟩ := vals1 r
  cases rx
  obtain ⟨its, rv, ht, _⟩ := I.tuple hT
  obtain ⟨as, hr⟩ := Dp.readsAll I _ _ its (ata_dp (ints_dpa ns)) rv
  have hr' : ReadsAll s.heap (its.toArray).toList (ns.map .int) as := by simpa using hr
  obtain ⟨ob, h1, h2, n, h3⟩ := ht
  refine PySem.W.any_tuple_data (I.ok.hd hc) ⟨ob, h1, h2, n, h3⟩ hr' (plain_ints ns) (fun x hx => ?_) fun h' tk hk => ?_
  · obtain ⟨i, _, rfl⟩ := List.mem_map.mp hx
    simp [PyData.fits63]
  · have e : (ns.map PyData.int).any PyData.truthy = ns.any fun n => n != 0 := by
      rw [List.any_map]
      rfl
    rw [e]
    exact ⟨.bl _, H, I.kept (t' := tk) hk, rfl, q⟩
/-- a pair of texts as a key, as data -/
abbrev SS := Str × Str
def pairK (k : SS) : List Key := [.inr k.1, .inr k.2]
def pairD (k : SS) : PyData := .tuple [.str k.1, .str k.2]
def sortK (ks : List SS) : List SS := ks.mergeSort (PySem.W.dataLe false pairD)
def rSortDT : List V → Hp → VK → Prop := fun xs H Q => ∃ (d : Addr) (kvs : List (List Key × V)) (ks : List SS), xs = [.ref d] ∧ Rd H d (.dT kvs) ∧ kvs.map (·.1) = ks.map pairK ∧ ks.length ≤ 1000 ∧
  ∀ (p : Addr) (bs : List Addr), H p = none → Paired (fun (k : SS) b => H b = some (.tup [.str k.1, .str k.2])) (sortK ks) bs → Q (.ref p) (upd H p (.lst (bs.map V.ref)))
theorem each_get {α β : Type} {R : α → β → Prop} : ∀ {as : List α} {bs : List β}, as.length = bs.length → (∀ (j : Nat) a b, as[j]? = some a → bs[j]? = some b → R a b) → PySem.W.EachIs R as bs
  | [], [], _, _ => .nil
  | a :: as, b :: bs, hl, h => .cons (h 0 a b rfl rfl) (each_get (by simpa using hl) fun j x y h1 h2 => h (j + 1) x y (by simpa using h1) (by simpa using h2))
  | [], _ :: _, hl, _ => by simp at hl
  | _ :: _, [], hl, _ => by simp at hl
theorem paired_get {α β : Type} {F : α → β → Prop} : ∀ {as : List α} {bs : List β} {j : Nat} {a : α} {b : β}, Paired F as bs → as[j]? = some a → bs[j]? = some b → F a b
  | _, _, _, _, _, .nil, h, _ => by simp at h
  | _, _, 0, _, _, .cons h _, h1, h2 => by simp at h1 h2; subst h1; subst h2; exact h
  | _, _, j + 1, _, _, .cons _ t, h1, h2 => paired_get (j := j) t (by simpa using h1) (by simpa using h2)
theorem each_paired {R : Value → SS → Prop} {F : SS → Addr → Prop} (m : ∀ v k, R v k → ∃ b, v = Value.ref b ∧ F k b) : ∀ {vs : List Value} {ks : List SS}, PySem.W.EachIs R vs ks → ∃ bs : List Addr, vs = bs.map Value.ref ∧ Paired F ks bs
  | _, _, .nil => ⟨[], rfl, .nil⟩
  | _, _, .cons h t => by
    obtain ⟨b, rfl, hb⟩ := m _ _ h
    obtain ⟨bs, rfl, hp⟩ := each_paired m t
    exact ⟨b :: bs, rfl, .cons hb hp⟩
theorem cr_sortedDT (hcalm : X.calm = true) (hu : X.A.units + 64 < cLine) : CallR X (.builtin "sorted") rSortDT := by
  intro pins s σ H xs us Q I r q
  obtain ⟨d, kvs, ks, rfl, hd, hks, h64, q⟩ := q
  obtain ⟨u, rfl, rx⟩ := vals1 r
  cases rx
  obtain ⟨z, hs, xk, pr, o, es, ep, ho, hx, hdt, he, hn⟩ := (show ObjOk X.prog X.w H s.heap d (.dT kvs) from hd.ok I.hok)
  have l1 : es.size = xk.length := size_of_entries he
  have l2 : kvs.length = xk.length := Paired.length pr
  have l3 : kvs.length = ks.length := by have := congrArg List.length hks; simpa using this
  refine Calls.call_function_entry PyProof.Rows.kind_sorted PyProof.Rows.plain_sorted PyProof.Rows.entry_sorted (PyProof.Rows.args_sorted1 _) ?_
  unfold Builtin.«sorted»
  refine wpAny_bind (m := checkCount "sorted" 1 1 _) (wpAny_pure ?_)
  refine wpAny_bind (PySem.W.kdu_collect (A := X.A.in1) (kdl_raw hs hx hdt) (I.ok.hd hcalm) ho (by rw [l1, ← l2, l3, sizeLine_eq]; omega) fun h' tk acc hk hacc => ?_)
  have ea : acc.toList = xk.map fun x => Value.ref x.2.1 := by
    have hl : acc.toList.length = xk.length := by rw [Array.length_toList, hacc.1]; exact l1
    apply List.ext_getElem?
    intro j
    rw [List.getElem?_map]
    cases hj : acc.toList[j]? with
    | none =>
      have h1 := List.getElem?_eq_none_iff.mp hj
      rw [List.getElem?_eq_none (by omega)]
      all_goals rfl
    | some v =>
      obtain ⟨en, hen, hv⟩ := hacc.2 j v (by rw [← Array.getElem?_toList]; exact hj)
      have qe := entry_at he j
      rw [hen] at qe
      cases hb : xk[j]? with
      | none =>
        rw [hb] at qe
        exact nomatch (show some en = none from qe)
      | some b =>
        rw [hb] at qe
        have e2 : en = entryOfKey (tupleKind (mixKind X.prog X.w)) b := Option.some.inj qe
        rw [hv, e2]
        all_goals rfl
  have hal : acc.toList.length = ks.length := by rw [ea, List.length_map, ← l2, l3]
  have I1 : Inv X pins σ H { s with heap := h', toks := tk } := I.kept hk
  -- each item is the tuple of its key
  have e1 : PySem.W.EachIs (fun v (k : SS) => ∃ b, v = Value.ref b ∧ H b = some (.tup [.str k.1, .str k.2])) acc.toList ks := by
    refine each_get hal fun j v k h1 h2 => ?_
    rw [ea, List.getElem?_map] at h1
    cases h3 : xk[j]? with
    | none => rw [h3] at h1; cases h1
    | some y =>
      rw [h3] at h1
      have ev : v = Value.ref y.2.1 := (Option.some.inj h1).symm
      have h4 : kvs[j]? ≠ none := fun h => by
        have := List.getElem?_eq_none_iff.mp h
        have hj := (List.getElem?_eq_some_iff.mp h3).1
        omega
      cases h5 : kvs[j]? with
      | none => exact absurd h5 h4
      | some kv =>
        have hf := paired_get pr h5 h3
        have h6 : (kvs.map (·.1))[j]? = some kv.1 := by rw [List.getElem?_map, h5]; rfl
        rw [hks, List.getElem?_map, h2] at h6
        have ek : pairK k = kv.1 := Option.some.inj h6
        refine ⟨y.2.1, ev, ?_⟩
        have := hf.2.1
        rw [← ek] at this
        exact this
  refine wpAny_bind (wpAny_newList ?_ (by rw [hal, sizeLine_eq]; omega))
  have hoL : (h'.push (seqObj "list" acc.toList.toArray 0)).get? h'.objs.size = some (seqObj "list" acc.toList.toArray 0) := Heap.get?_push_size _ rfl
  show wpAny _ _ _ _ _ { s with heap := h'.push (seqObj "list" acc.toList.toArray 0), toks := tk }
  have old : ∀ b ob, h'.get? b = some ob → (PySem.W.sortingHeap (h'.push (seqObj "list" acc.toList.toArray 0)) h'.objs.size acc.toList).get? b = some ob := fun b ob e =>
    PySem.W.sortingHeap_old (Nat.ne_of_lt (Heap.lt_size e)) (Heap.get?_push_of_some _ e)
  have er : PySem.W.EachIs (fun v (k : SS) => ∃ as, Reads (PySem.W.sortingHeap (h'.push (seqObj "list" acc.toList.toArray 0)) h'.objs.size acc.toList) v (pairD k) as) acc.toList ks := e1.mono fun v k ⟨b, ev, hb⟩ => by
    subst ev
    obtain ⟨as, rr⟩ := Dp.reads I1 (pairD k) (.ref b) (.ref b) (.tup (SqT.of hb) (.cons (.str _) (.cons (.str _) .nil))) rfl
    exact ⟨as, PyProof.Rows.Reads.keeps old rr⟩
  have alk : ∀ k k' : SS, PySem.W.alike (pairD k) (pairD k') = true := fun k k' => by simp [pairD, PySem.W.alike, PySem.W.alikeAll]
  have hal2 : PySem.W.AllAlike (ks.map pairD) := PySem.W.AllAlike.of alk
  have dep : ∀ k : SS, (pairD k).depth ≤ 2 := fun k => by simp [pairD, PyData.depth, PyData.depthAll]
  refine wpAny_bind (wpAny_holding (wpAny_call_entry PyProof.Rows.slot_list_sort ⟨_, hoL, rfl⟩ PyProof.Rows.entry_list_sort
    (PySem.W.list_sort_vals (κ := PySem.W.dataKind (PySem.W.sortingHeap (h'.push (seqObj "list" acc.toList.toArray 0)) h'.objs.size acc.toList) (ks.map pairD)) (s := { s with heap := h'.push (seqObj "list" acc.toList.toArray 0), toks := tk }) hoL
      (PySem.W.SortsAt.data (s := { s with heap := PySem.W.sortingHeap (h'.push (seqObj "list" acc.toList.toArray 0)) h'.objs.size acc.toList, toks := tk }) (PySem.W.each_map (R := fun v d => ∃ as, Reads (PySem.W.sortingHeap (h'.push (seqObj "list" acc.toList.toArray 0)) h'.objs.size acc.toList) v d as) pairD er) hal2
        (PySem.W.Sortable.tuples fun k => ⟨_, _, rfl⟩) (PySem.W.bound_map fun k _ => by
          have := dep k
          show X.A.units + 1 + 1 + (pairD k).depth < cLine
          omega)) (by rw [hal, sizeLine_eq]; omega) ⟨.none, rfl, ?_⟩)
    (PyProof.Rows.args_list_sort _)))
  have eo := PySem.W.sortVals_data false e1 er hal2
  obtain ⟨bs, eb, pb⟩ := each_paired (F := fun (k : SS) b => H b = some (.tup [.str k.1, .str k.2])) (fun v k h => h) eo
  obtain ⟨e', he'⟩ := PyProof.Rows.sortedHeap_at (vs := acc.toList) (out := (PySem.W.sortVals (PySem.W.dataKind (PySem.W.sortingHeap (h'.push (seqObj "list" acc.toList.toArray 0)) h'.objs.size acc.toList) (ks.map pairD)) false acc.toList acc.toList).toArray) hoL
  have blen : bs.length = ks.length := by
    have h1 := Paired.length pb
    rw [← h1]
    exact (List.mergeSort_perm ks _).length_eq
  refine wpAny_pure ⟨_, rfl, .ref h'.objs.size, upd H h'.objs.size (.lst (bs.map V.ref)), I1.laid (t' := tk) (fun b u e => ?_) (Nat.le_refl _)
    (show ObjOk X.prog X.w _ _ _ (.lst (bs.map V.ref)) from ⟨by rw [List.length_map, blen, sizeLine_eq]; omega, _, e', vals_refs bs, by rw [← eb]; exact he'⟩), rfl, q _ bs (I1.hok.fresh (Nat.le_refl _)) pb⟩
  have hb : b < h'.objs.size := Heap.lt_size e
  rw [PyProof.Rows.sortedHeap_old (Nat.ne_of_lt hb) (by rw [size_push']; exact Nat.lt_succ_of_lt hb)]
  exact Heap.get?_push_of_some _ e
end
end K81
/-! ## E8 -/
set_option Elab.async false
set_option linter.all false
set_option maxRecDepth 100000
set_option maxHeartbeats 4000000
/-! Further rules and their readings over data. -/
namespace K81
open PySem PySem.Spec PyProof.Rows L2

/-! ### a tuple, so many times -/
theorem tuple_mul1 (l : Addr) (items : Array Value) (n : Nat) (dd : Option Addr) (sl : Array (Option Value)) (u : Tok) :
    Meets (Builtin.«tuple.__mul__» ⟨[.ref l, .int 1 u], []⟩) (fun _ R s => s.heap.get? l = some { cls := .type "tuple", dict := dd, data := .seq items n, slots := sl } ∧
      R (.ok (.ret (Value.ref l))) s) :=
  .of_wp fun prog w A R s h => by
    obtain ⟨hp, g, d, tk, os⟩ := s
    obtain ⟨hl, h⟩ := h
    have f1 := AutoSeq1.idx_int
    have c1 : (items.isEmpty || (1 : Int) == 1) = true := by simp
    wp_walk using wpAny_loadPart' hl
    exact ⟨_, rfl, h⟩
section
variable {X : Cx}
def rRepA (K : PySem.W.Frag) : R2 := fun x y H Q => ∃ l k xs, x = .ref l ∧ y = .int k ∧ SqT K H l xs ∧ xs ≠ [] ∧ 1 ≤ k ∧ k ≤ 1000 ∧ xs.length ≤ 1000 ∧ (k = 1 → Q (.ref l) H) ∧ (k ≠ 1 → ∀ p, H p = none → Q (.ref p) (upd H p (.tup (List.replicate k.toNat xs).flatten)))
theorem op_repA : OpR X (binaryOp .Mult) (rRepA X.K) := by
  intro pins s σ H x y v u Q I rx ry h
  obtain ⟨l, k, xs, rfl, rfl, hT, hne, h1, h2, hz, q1, q2⟩ := h
  by_cases hk : k = 1
  · subst hk
    cases rx
    obtain ⟨t, rfl⟩ := ry
    obtain ⟨its, r, ⟨⟨cls, dd, data, sl⟩, ho, hc, n, hd⟩, hs⟩ := I.tuple hT
    simp only at hc hd
    subst hc hd
    exact wpAny_binaryOp_repeat_ref (T := "tuple") (U := "int") (by decide) ⟨_, ho, rfl⟩ (fun s' => typeIs_int s' 1 t) noFill_tuple_mul F.fills_int_mul F.slot_int_rmul repeat_tuple F.slot_int_index.lookup
      (call_meets F.slot_int_rmul (typeIs_int s 1 t) F.entry_int_rmul (F.args_int_rmul_2 _ _) (int_rmul_tuple 1 t l its.toArray n dd sl)
        ⟨ho, rfl, ⟨_, ho, rfl⟩, call_meets F.slot_tuple_mul ⟨_, ho, rfl⟩ F.entry_tuple_mul (F.args_tuple_mul_2 _ _) (tuple_mul1 l its.toArray n dd sl t) ⟨ho, ⟨.ref l, H, I, rfl, q1 rfl⟩⟩⟩)
  · exact op_repT pins s σ H _ _ v u Q I rx ry ⟨l, k, xs, rfl, rfl, hT, hne, by omega, h2, hz, q2 hk⟩
/-- a dict against the empty one -/
def rNe0 : R2 := fun x y H Q => ∃ a b ks, x = .ref a ∧ y = .ref b ∧ H a = some (.dK ks) ∧ H b = some (.dK []) ∧ Q (.bl (!ks.isEmpty)) H
theorem op_ne0 (hu : X.A.units < cLine) : OpR X (compareOp .NotEq) rNe0 := by
  intro pins s σ H x y v u Q I rx ry h
  obtain ⟨a, b, ks, rfl, rfl, ea, eb, q⟩ := h
  obtain rfl : v = Value.ref a := rx
  obtain rfl : u = Value.ref b := ry
  obtain ⟨_, ya, va, ra, da⟩ := (show ObjOk X.prog X.w H s.heap a (.dK ks) from I.hok a _ ea)
  obtain ⟨_, yb, vb, rb, db⟩ := (show ObjOk X.prog X.w H s.heap b (.dK []) from I.hok b _ eb)
  have hb : vb = [] := List.eq_nil_of_length_eq_zero rb.length.symm
  subst hb
  have hl := ra.length
  refine PySem.W.keq_ne (knd := mixKind X.prog X.w) (r := true) ya yb da db hu (fun e => ?_) (fin_bl I q ?_)
  · have : va = [] := List.eq_nil_of_length_eq_zero e
    subst this
    exact .nil
  · cases ks with
    | nil =>
      have : va = [] := List.eq_nil_of_length_eq_zero hl.symm
      subst this
      rfl
    | cons p r =>
      cases va with
      | nil => cases hl
      | cons v va => rfl
end
section
variable {K : PySem.W.Frag} {δ : List Sl} {μ : Mu} {P : Sl → Mu → Prop} {I H : Hp}
theorem dpa_rep : ∀ {xs : List V} {ds : List PyData} (n : Nat), AtAll K I xs ds → AtAll K I (List.replicate n xs).flatten (List.replicate n ds).flatten
  | _, _, 0, _ => .nil
  | _, _, n + 1, h => by
    rw [List.replicate_succ, List.replicate_succ, List.flatten_cons, List.flatten_cons]
    exact dpa_app h (dpa_rep n h)
theorem op_rep0 {n : Nat} (h1 : 1 ≤ n) (h2 : n ≤ 1000) (p : P (.dat (.tuple (List.replicate n (.int 0)))) μ) : OpA K (rRepA K) (.dat (.tuple [.int 0])) (.dat (.int n)) μ P := fun I H x y Q sm w x1 x2 k => by
  obtain ⟨a, xs, rfl, hs, ha⟩ := dp_tup (asd_ok (.dat _) x1)
  have e2 := dp_int (asd_ok (.dat _) x2)
  have hl := dpa_len ha
  have ef : ∀ m : Nat, (List.replicate m [PyData.int 0]).flatten = List.replicate m (PyData.int 0) := by
    intro m
    induction m with
    | zero => rfl
    | succ m ih => rw [List.replicate_succ, List.flatten_cons, ih, List.replicate_succ]; rfl
  refine ⟨a, n, xs, rfl, e2, SqT.of (sm _ _ hs), (fun e => by rw [e] at hl; cases hl), by omega, by omega, (by rw [hl]; decide), fun e => ?_, fun _ l hl => ?_⟩
  · have en : n = 1 := by omega
    subst en
    exact k _ _ μ I H (.refl sm w x1) p
  · have ha' : AtAll K (upd I l (.tup (List.replicate (n : Int).toNat xs).flatten)) (List.replicate (n : Int).toNat xs).flatten (List.replicate n (.int 0)) := by
      rw [Int.toNat_natCast, ← ef]
      exact dpa_same (fun b u e => by rw [upd_ne (ne_of_none (sm b u e) hl)]; exact e) (dpa_rep n ha)
    exact k _ _ μ _ _ (new_at sm w hl (.tup upd_same ha')) p
theorem op_ne0d {a b : Addr} {es : List (Key × PyData)} (h1 : (a, Ob.dk es) ∈ μ) (h2 : (b, Ob.dk []) ∈ μ) (p : P (.dat (.bool (!es.isEmpty))) μ) : OpA K rNe0 (.val (.ref a)) (.val (.ref b)) μ P := fun I H x y Q sm w x1 x2 k => by
  have e1 : some x = some (.ref a) := x1
  have e2 : some y = some (.ref b) := x2
  cases e1
  cases e2
  obtain ⟨_, ks, hk, e, _⟩ := w.ok _ h1
  obtain ⟨_, ls, hl, e', _⟩ := w.ok _ h2
  have : ls = [] := by cases ls with
    | nil => rfl
    | cons _ _ => cases e'
  subst this
  refine ⟨a, b, ks, rfl, rfl, hk, hl, ?_⟩
  have ee : ks.isEmpty = es.isEmpty := by
    cases ks with
    | nil => cases es with
      | nil => rfl
      | cons _ _ => cases e
    | cons _ _ => cases es with
      | nil => cases e
      | cons _ _ => rfl
  rw [ee]
  exact k _ _ μ I H (.refl sm w (sl_dat (.bl _))) p
theorem ca_anyT {ns : List Int} (p : P (.dat (.bool (ns.any fun n => n != 0))) μ) : CaA K (rAnyTI K) [.dat (.tuple (ns.map .int))] μ P := fun I H xs Q sm w h k => by
  obtain ⟨x, rfl, hx⟩ := env1 h
  obtain ⟨a, ys, rfl, hs, ha⟩ := dp_tup (asd_ok (.dat _) hx)
  have e := dpa_ints ha
  subst e
  exact ⟨a, ns, rfl, SqT.of (sm _ _ hs), k _ _ μ I H (.refl sm w (sl_dat (.bl _))) p⟩
/-! ### isinstance -/
def tyD : PyData → String
  | .none => "NoneType"
  | .bool _ => "bool"
  | .int _ => "int"
  | .str _ => "str"
  | .list _ => "list"
  | .tuple _ => "tuple"
  | .dict _ => "dict"
theorem ca_isi {d : PyData} {T : String} {b : Bool} (h : kitB (tyD d) T = some b) (p : P (.dat (.bool b)) μ) : CaA K (rIsi K) [.dat d, .val (.ty T)] μ P := fun I H xs Q sm w he k => by
  obtain ⟨x, y, rfl, hx, hy⟩ := env2 he
  have ey : some y = some (.ty T) := hy
  cases ey
  have hd := asd_ok (.dat _) hx
  have t : TyX K H x (.type (tyD d)) := by
    refine .base ?_
    cases hd with
    | non => exact .non
    | bl b => exact .bl b
    | int i => exact .int i
    | str x => exact .str x
    | lst e _ => exact .lst (sm _ _ e)
    | tup e _ => exact .tup (sm _ _ e)
  exact ⟨x, .ty T, _, _, b, rfl, .ty T, t, kit_ty h, k _ _ μ I H (.refl sm w (sl_dat (.bl _))) p⟩
/-! ### list(range(n)), a dict as written -/
def EvR (K : PySem.W.Frag) (te : L2.St → Hp → (Int → Int → Hp → Prop) → Prop) (δ : List Sl) (μ : Mu) (P : Int → Int → Mu → Prop) : Prop :=
  ∀ (I H : Hp) (σ : L2.St) (Q : Int → Int → Hp → Prop), Stt K I H σ δ μ → (∀ a b μ' I' H', Go (rt μ) I H (rt μ') I' H' → Owns K I' H' μ' → P a b μ' → Q a b H') → te σ H Q
theorem er_1 {ta : TE} {P : Int → Int → Mu → Prop} (h : EvC K ta δ μ fun s μ1 => ∃ n, s = .dat (.int n) ∧ P 0 n μ1) : EvR K (tRg1 ta) δ μ P := fun I H σ Q st k =>
  h I H σ _ st fun v s μ1 I1 H1 e1 p1 => by
    obtain ⟨n, rfl, p⟩ := p1
    exact ⟨n, dp_int (asd_ok (.dat _) e1.sl), k _ _ μ1 I1 H1 e1.go e1.own p⟩
theorem rgV_rangeD (n : Nat) : AtAll K I (rgV 0 (n : Int)) (rangeD 0 n) := by
  have e1 : rgV 0 (n : Int) = ((List.range n).map fun i => ((i : Nat) : Int)).map V.int := by
    unfold rgV
    rw [List.map_map, show ((n : Int) - 0).toNat = n by omega]
    exact List.map_congr_left fun i _ => by show V.int (0 + (i : Int)) = V.int i; rw [Int.zero_add]
  have e2 : rangeD 0 n = ((List.range n).map fun i => ((i : Nat) : Int)).map PyData.int := by
    unfold rangeD
    rw [List.map_map]
    exact List.map_congr_left fun i _ => by show PyData.int (0 + (i : Int)) = PyData.int i; rw [Int.zero_add]
  rw [e1, e2]
  exact ints_dpa _
theorem ev_listRg {te : L2.St → Hp → (Int → Int → Hp → Prop) → Prop} (h : EvR K te δ μ fun a b μ1 => ∃ n : Nat, a = 0 ∧ b = n ∧ n ≤ 100000 ∧ P (.dat (.list (rangeD 0 n))) μ1) : EvC K (tLstRg te) δ μ P := by
  intro I H σ Q st k
  refine h I H σ _ st fun a b μ1 I1 H1 g1 w1 p1 => ?_
  obtain ⟨n, rfl, rfl, hn, p⟩ := p1
  refine ⟨RgOk.of_le (by omega) (by omega) (by omega) (by omega), fun l hl => ?_⟩
  exact k _ _ μ1 _ _ ((new_at g1.sub w1 hl (.lst upd_same (rgV_rangeD n))).back g1) p
/-- a dict of two as written, its keys texts -/
theorem ev_disp2 {k1 k2 : Str} {t1 t2 : TE} (h : EvC K t1 δ μ fun s1 μ1 => EvC K t2 δ μ1 fun s2 μ2 => ∃ d1 d2, AsD s1 d1 ∧ AsD s2 d2 ∧ k1 ≠ k2 ∧ ∀ p, P (.val (.ref p)) ((p, .dk [(.inr k1, d1), (.inr k2, d2)]) :: μ2)) :
    EvC K (tDisp [(tC (.str k1), t1), (tC (.str k2), t2)]) δ μ P := by
  intro I H σ Q st k p hp
  have g0 : Go (rt μ) I H (p :: rt μ) I (upd H p (.dK [])) := Go.own st.sm hp
  have g0' : Go [] I H [p] I (upd H p (.dK [])) := Go.own st.sm hp
  have w0 := owns_stay g0' st.own
  have nIp := st.sm.free hp
  refine h I _ σ _ (st.go g0 w0) fun v1 s1 μ1 I1 H1 e1 p1 => ?_
  refine p1 I1 H1 σ _ (st.go (g0.trans (e1.go.more (p :: rt μ) (fun _ m => List.mem_cons_of_mem _ m) fun _ m => .inl m)) e1.own) fun v2 s2 μ2 I2 H2 e2 p2 => ?_
  obtain ⟨d1, d2, a1, a2, ne, pp⟩ := p2
  have g12 := e1.go.trans e2.go
  have npr : p ∉ rt μ := owns_root st.own hp
  have hp2 : H2 p = some (.dK []) := g12.keep p _ upd_same npr
  have nI2 : I2 p = none := (own_stay (K := K) (ob := .dk []) g12 npr ⟨nIp, ⟨[], upd_same, rfl, .nil⟩⟩).1
  have np2 : p ∉ rt μ2 := fun m => by
    rcases g12.rts p m with z | z
    · exact npr z
    · rw [upd_same] at z; cases z
  refine ⟨hp2, [(.inr k1, v1), (.inr k2, v2)], rfl, (by show 2 ≤ 15; decide), ?_⟩
  have em : mergeK [] [((Sum.inr k1 : Key), v1), (Sum.inr k2, v2)] = [(Sum.inr k1, v1), (Sum.inr k2, v2)] := by
    have h1 : putK ([] : List (Key × V)) (Sum.inr k1) v1 = [(Sum.inr k1, v1)] := rfl
    show putK (putK ([] : List (Key × V)) (Sum.inr k1) v1) (Sum.inr k2) v2 = _
    rw [h1]
    have nk : ¬ (Sum.inr k1 : Key) = Sum.inr k2 := fun q => ne (Sum.inr.inj q)
    rw [putK_new v2 (by rw [valV_neg nk]; rfl)]
    rfl
  rw [em]
  have gA : Go (p :: rt μ) I (upd H p (.dK [])) (p :: rt μ2) I2 H2 := g12.more _ (fun _ m => List.mem_cons_of_mem _ m) fun a m => by
    rcases List.mem_cons.mp m with e | m
    · exact .inr (by rw [e]; exact List.mem_cons_self)
    · exact .inl m
  have wA : Owns K I2 H2 ((p, .dk []) :: μ2) := ⟨List.nodup_cons.mpr ⟨np2, e2.own.nd⟩, fun q hq => by
    rcases List.mem_cons.mp hq with e | hq
    · subst e; exact ⟨nI2, [], hp2, rfl, .nil⟩
    · exact e2.own.ok q hq⟩
  obtain ⟨gw, ww⟩ := owns_put (j := 0) (ob' := .dk [(.inr k1, d1), (.inr k2, d2)]) (o := .dK [(Sum.inr k1, v1), (Sum.inr k2, v2)]) e2.go.sub wA rfl fun I' H' si ho => ⟨_, ho, rfl, dpa_same si (.cons (dp_same e2.go.im (asd_ok a1 e1.sl)) (.cons (asd_ok a2 e2.sl) .nil))⟩
  have g0A : Go (rt μ) I H (p :: rt μ2) I2 H2 := g0.trans gA
  exact k _ _ _ _ _ ⟨g0A.trans gw, sl_val, ww⟩ (pp p)
/-! ### sorted -/
def rSortDI : List V → Hp → VK → Prop := fun xs H Q => ∃ (a : Addr) (kvs : List (Key × V)) (ks : List Int), xs = [.ref a] ∧ Rd H a (.dK kvs) ∧ kvs.map (·.1) = ks.map Sum.inl ∧ ks.length < 64 ∧ ∀ (ys : List Int) (p : Addr), ys.Perm ks → ys.Pairwise (· ≤ ·) → H p = none → Q (.ref p) (upd H p (.lst (ys.map V.int)))
theorem cr_sortDI {X : Cx} (hc : X.calm = true) : CallR X (.builtin "sorted") rSortDI := call_sortedDI hc
theorem ca_sortDI {a : Addr} {es : List (Key × PyData)} {ks : List Int} (hm : (a, Ob.dk es) ∈ μ) (hk : es.map (·.1) = ks.map Sum.inl) (hl : ks.length < 64) (p : ∀ ys : List Int, ys.Perm ks → ys.Pairwise (· ≤ ·) → P (.dat (.list (ys.map .int))) μ) : CaA K rSortDI [.val (.ref a)] μ P := fun I H xs Q sm w h k => by
  obtain ⟨x, rfl, hx⟩ := env1 h
  have e : some x = some (.ref a) := hx
  cases e
  obtain ⟨_, kvs, hv, e1, _⟩ := w.ok _ hm
  refine ⟨a, kvs, ks, rfl, .inl hv, e1.trans hk, hl, fun ys l h1 h2 hn => ?_⟩
  exact k _ _ μ _ _ (new_at sm w hn (.lst upd_same (ints_dpa ys))) (p ys h1 h2)
def rSortDS : List V → Hp → VK → Prop := fun xs H Q => ∃ (a : Addr) (kvs : List (Key × V)) (ks : List Str), xs = [.ref a] ∧ Rd H a (.dK kvs) ∧ kvs.map (·.1) = ks.map Sum.inr ∧ ks.length < 64 ∧ ∀ ys p, ys.Perm ks → sortedS ys = true → H p = none → Q (.ref p) (upd H p (.lst (ys.map V.str)))
theorem cr_sortDS {X : Cx} (hc : X.calm = true) : CallR X (.builtin "sorted") rSortDS := call_sortedD hc
theorem ca_sortDS {a : Addr} {es : List (Key × PyData)} {ks : List Str} (hm : (a, Ob.dk es) ∈ μ) (hk : es.map (·.1) = ks.map Sum.inr) (hl : ks.length < 64) (p : ∀ ys : List Str, ys.Perm ks → P (.dat (.list (ys.map .str))) μ) : CaA K rSortDS [.val (.ref a)] μ P := fun I H xs Q sm w h k => by
  obtain ⟨x, rfl, hx⟩ := env1 h
  have e : some x = some (.ref a) := hx
  cases e
  obtain ⟨_, kvs, hv, e1, _⟩ := w.ok _ hm
  refine ⟨a, kvs, ks, rfl, .inl hv, e1.trans hk, hl, fun ys l h1 h2 hn => ?_⟩
  exact k _ _ μ _ _ (new_at sm w hn (.lst upd_same (strs_dpa ys))) (p ys h1)
theorem ca_sortDT {a : Addr} {es : List (List Key × PyData)} {ks : List SS} (hm : (a, Ob.dt es) ∈ μ) (hk : es.map (·.1) = ks.map pairK) (hl : ks.length ≤ 1000) (p : P (.dat (.list ((sortK ks).map pairD))) μ) : CaA K rSortDT [.val (.ref a)] μ P := fun I H xs Q sm w h k => by
  obtain ⟨x, rfl, hx⟩ := env1 h
  have e : some x = some (.ref a) := hx
  cases e
  obtain ⟨nI, kvs, hv, e1, _⟩ := w.ok _ hm
  refine ⟨a, kvs, ks, rfl, .inl hv, e1.trans hk, hl, fun l bs hn hp => ?_⟩
  -- the view takes in the key tuples and the new list
  have hb : ∀ b ∈ bs, ∃ xs, H b = some (.tup xs) := fun b hm => by
    obtain ⟨j, hj, e⟩ := List.mem_iff_getElem.mp hm
    have hj2 : j < (sortK ks).length := by rw [Paired.length hp]; exact hj
    have hf := paired_get hp (List.getElem?_eq_getElem hj2) (List.getElem?_eq_getElem hj)
    rw [e] at hf
    exact ⟨_, hf⟩
  have ids : ∀ b, Decidable (b ∈ bs) := fun b => inferInstance
  let I2 : Hp := fun b => if b ∈ bs then H b else I b
  have sI : Same I I2 := fun b o e => by
    show (if b ∈ bs then H b else I b) = some o
    by_cases q : b ∈ bs
    · rw [if_pos q]; exact sm b o e
    · rw [if_neg q]; exact e
  have s2 : Same I2 H := fun b o e => by
    have e : (if b ∈ bs then H b else I b) = some o := e
    by_cases q : b ∈ bs
    · rw [if_pos q] at e; exact e
    · rw [if_neg q] at e; exact sm b o e
  have g1 : ∀ S, Go S I H S I2 H := fun S => ⟨sI, s2, fun b o e => by
    have e : (if b ∈ bs then H b else I b) = some o := e
    by_cases q : b ∈ bs
    · rw [if_pos q] at e
      obtain ⟨xs, hx⟩ := hb b q
      rw [hx] at e
      exact .inr (.inr (.inl ⟨xs, (Option.some.inj e).symm⟩))
    · rw [if_neg q] at e; exact .inl e, fun _ _ e _ => e, fun _ e => e, fun _ h => .inl h⟩
  have w2 : Owns K I2 H μ := owns_stay (g1 []) w
  have hall : ∀ {ks : List SS} {cs : List Addr}, Paired (fun (k : SS) b => H b = some (.tup [.str k.1, .str k.2])) ks cs → (∀ b ∈ cs, b ∈ bs) → AtAll K I2 (cs.map V.ref) (ks.map pairD) := by
    intro ks cs hq
    induction hq with
    | nil => intro _; exact .nil
    | @cons k b ks cs h t ih =>
      intro hs
      refine .cons (.tup (xs := [.str k.1, .str k.2]) ?_ (.cons (.str _) (.cons (.str _) .nil))) (ih fun b hm => hs b (List.mem_cons_of_mem _ hm))
      show (if b ∈ bs then H b else I b) = _
      rw [if_pos (hs b List.mem_cons_self)]
      exact h
  have ha := hall hp fun b hm => hm
  have ha' : AtAll K (upd I2 l (.lst (bs.map V.ref))) (bs.map V.ref) ((sortK ks).map pairD) := dpa_same (fun b u e => by rw [upd_ne (ne_of_none (s2 b u e) hn)]; exact e) ha
  exact k _ _ μ _ _ ((new_at s2 w2 hn (.lst upd_same ha')).back (g1 (rt μ))) p
end
end K81
/-! ## E9 -/
set_option Elab.async false
set_option linter.all false
set_option maxRecDepth 100000
set_option maxHeartbeats 4000000
/-! A def of the text with its promise, called by its name. -/
namespace K81
open PySem PySem.Spec PyProof.Rows L2

structure OkG (P : Program) (w : World) (K : PySem.W.Frag) (mg : Str → Option Value) (base : Heap) (x : Str) (k : Nat) (ps : List Str) (sp : Sp) : Prop where
  ex : ∃ fd, FnOk P w K mg base CX0 k (He.ga K x) fd ps sp ∧ Binds K fd ps [] ∧ PySem.W.keepIn K (.ref (He.ga K x)) = true
  gl : mg x = some (.ref (He.ga K x))
structure OkM (P : Program) (w : World) (K : PySem.W.Frag) (mg : Str → Option Value) (base : Heap) (x : Str) (k : Nat) (ps : List Str) (sp : Sp) : Prop where
  ex : ∃ fd, FnOk P w K mg base CX0 k (He.ma K (cS K) x) fd ps sp ∧ Binds K fd ps []
section
variable {P : Program} {w : World} {K : PySem.W.Frag} {mg : Str → Option Value} {base : Heap} {x q : Str} {st : Stmt} {ps N : List Str} {n m k : Nat}
abbrev AEp (P' : Sl → Prop) : AEnds := { nx := fun _ _ => P' (.dat .none), rt := fun s μ => ∃ s', Out μ s s' ∧ P' s' }
abbrev AEa (μ : Mu) (P' : Sl → List Ob → Mu → Prop) : AEnds := { nx := fun _ μ' => ∃ obs new, obs.length = μ.length ∧ (new ++ (rt μ).zip obs).Sublist μ' ∧ P' (.dat .none) obs new, rt := fun s μ' => ∃ obs new, obs.length = μ.length ∧ (new ++ (rt μ).zip obs).Sublist μ' ∧ P' s obs new }
abbrev BindH (x q : Str) (st : Stmt) (ps : List Str) : Prop := ∀ (kV doc pm : Value) (an : Option Addr) (cdv ct : Value) (us : List Value), us.length = ps.length → bindArgs (PySem.W.fnOf x q (defArgs st) (defBody st) (defScope st) .none kV doc pm an cdv ct) ⟨us, []⟩ = pure (ps.zip us)
theorem okG_p {F : PSp} (g : mg x = some (.ref (He.ga K x))) (f : FnP K x x st (He.ga K x)) (S : FnScope N ps (defScope st)) (hp : ps.length = n) (hN : N.length = n + m) (hb : BindH x x st ps)
    (body : ∀ (cdv : Value) (A : Around) (outer : List PySem.Env) (s : Shared) (H : Hp) (E : XK), Room k (A.deeper (envOfC x (defScope st) s.heap.objs.size (He.ga K x) cdv)) →
      ∃ t, PSs (cxOf CX0 P w K mg base N x (defScope st) (He.ga K x) cdv A outer s H E).nox (defBody st) t ∧ ∀ ss P', F ss P' → ExC K t (ss ++ List.replicate m .any) [] (AEp P')) : OkG P w K mg base x (k + 1) ps (spP K n F) := by
  obtain ⟨fd, FD⟩ := f
  refine ⟨⟨fd, FD.ok S (fun vs H Q E h => (spP_len h).trans hp.symm) fun cdv A outer s H vs Q E hr h => ?_, FD.bindsN hb, FD.kp⟩, g⟩
  obtain ⟨t, h1, h2⟩ := body cdv A outer s H E hr
  exact ⟨t, h1.nox, body_p h hN h2⟩
theorem okG_a {F : ASp} (g : mg x = some (.ref (He.ga K x))) (f : FnP K x x st (He.ga K x)) (S : FnScope N ps (defScope st)) (hp : ps.length = n) (hN : N.length = n + m) (hb : BindH x x st ps)
    (body : ∀ (cdv : Value) (A : Around) (outer : List PySem.Env) (s : Shared) (H : Hp) (E : XK), Room k (A.deeper (envOfC x (defScope st) s.heap.objs.size (He.ga K x) cdv)) →
      ∃ t, PSs (cxOf CX0 P w K mg base N x (defScope st) (He.ga K x) cdv A outer s H E).nox (defBody st) t ∧ ∀ ss μ P', F ss μ P' → ExC K t (ss ++ List.replicate m .any) μ (AEa μ P')) : OkG P w K mg base x (k + 1) ps (spA K n F) := by
  obtain ⟨fd, FD⟩ := f
  refine ⟨⟨fd, FD.ok S (fun vs H Q E h => (spA_len h).trans hp.symm) fun cdv A outer s H vs Q E hr h => ?_, FD.bindsN hb, FD.kp⟩, g⟩
  obtain ⟨t, h1, h2⟩ := body cdv A outer s H E hr
  exact ⟨t, h1.nox, body_a h hN h2⟩
theorem okM_a {F : ASp} (f : FnP K x q st (He.ma K (cS K) x)) (S : FnScope N ps (defScope st)) (hp : ps.length = n) (hN : N.length = n + m) (hb : BindH x q st ps)
    (body : ∀ (cdv : Value) (A : Around) (outer : List PySem.Env) (s : Shared) (H : Hp) (E : XK), Room k (A.deeper (envOfC q (defScope st) s.heap.objs.size (He.ma K (cS K) x) cdv)) →
      ∃ t, PSs (cxOf CX0 P w K mg base N q (defScope st) (He.ma K (cS K) x) cdv A outer s H E).nox (defBody st) t ∧ ∀ ss μ P', F ss μ P' → ExC K t (ss ++ List.replicate m .any) μ (AEa μ P')) : OkM P w K mg base x (k + 1) ps (spA K n F) := by
  obtain ⟨fd, FD⟩ := f
  refine ⟨⟨fd, FD.ok S (fun vs H Q E h => (spA_len h).trans hp.symm) fun cdv A outer s H vs Q E hr h => ?_, FD.bindsN hb⟩⟩
  obtain ⟨t, h1, h2⟩ := body cdv A outer s H E hr
  exact ⟨t, h1.nox, body_a h hN h2⟩
/-- a weaker promise -/
theorem OkG.imp {sp sp' : Sp} (h : OkG P w K mg base x k ps sp) (i : ∀ vs H Q E, sp' vs H Q E → sp vs H Q E) : OkG P w K mg base x k ps sp' :=
  let ⟨⟨fd, a, b, c⟩, g⟩ := h
  ⟨⟨fd, a.imp i, b, c⟩, g⟩
end
section
variable {X : Cx} {x : Str} {p pos apos : Pos} {k : Nat} {ps : List Str} {sp : Sp} {e o : Expr} {es : List Expr} {t : TA} {to te : TE}
theorem pe_callG (h : OkG X.prog X.w X.K X.mg X.base x k ps sp) (hr : Room k X.A) (ha : PA X (e :: es) t) (hg : Gl X x := by rfl) (hdb : (x == ("__debug__" : Str)) = false := by decide)
    (he : starEach (e :: es) X.env = (false, eval e X.env) :: starEach es X.env := by rfl) (hpl : (backTo pos (starEach es X.env)).any (·.1) = false := by rfl) :
    PE X (.Call (.Name x p) (e :: es) [] pos) (tCall sp [] E0 t) := by
  obtain ⟨⟨fd, f, b, kp⟩, g⟩ := h
  exact pe_call f hr hg g kp b .nil pass0 ha hdb he hpl
theorem pe_methG (c : Cls X.K (cS X.K)) (hm : Meth X.K (cS X.K) x (He.ma X.K (cS X.K) x)) (h : OkM X.prog X.w X.K X.mg X.base x k ps sp) (hr : Room k X.A) (ho : PE X o to) (ha : PA X (e :: es) t)
    {pl : Sem Bool} (hst : starEach (e :: es) X.env = (false, eval e X.env) :: starEach es X.env := by rfl) (hpl : (backTo pos (starEach es X.env)).any (·.1) = false := by rfl)
    (ht : eval (.Call (.Attribute o x apos) (e :: es) [] pos) X.env = (do
      let ov ← eval o X.env
      standAt apos.atName
      let (f, first) ← holding [ov] (getMethod ov x pl)
      callWith pos f first (backTo pos (starEach (e :: es) X.env)) (backToKw pos (keywordEach [] X.env))) := by rfl) :
    PE X (.Call (.Attribute o x apos) (e :: es) [] pos) (tMeth (cS X.K) x sp [] E0 to t) := by
  obtain ⟨⟨fd, f, b⟩⟩ := h
  exact pe_meth (pl := pl) ho c hm f hr b .nil pass0 ha hst hpl ht
theorem pe_methG0 (c : Cls X.K (cS X.K)) (hm : Meth X.K (cS X.K) x (He.ma X.K (cS X.K) x)) (h : OkM X.prog X.w X.K X.mg X.base x k ps sp) (hr : Room k X.A) (ho : PE X o to)
    {pl : Sem Bool} (ht : eval (.Call (.Attribute o x apos) [] [] pos) X.env = (do
      let ov ← eval o X.env
      standAt apos.atName
      let (f, first) ← holding [ov] (getMethod ov x pl)
      callWith pos f first (backTo pos (starEach [] X.env)) (backToKw pos (keywordEach [] X.env))) := by rfl) :
    PE X (.Call (.Attribute o x apos) [] [] pos) (tMeth (cS X.K) x sp [] E0 to tNil) := by
  obtain ⟨⟨fd, f, b⟩⟩ := h
  exact pe_meth0 (pl := pl) ho c hm f hr b .nil pass0 ht
theorem pe_makeG (M : Mk X.K (cS X.K) (He.ma X.K (cS X.K) "__init__")) (gl : X.mg "Session" = some (.ref (cS X.K))) (h : OkM X.prog X.w X.K X.mg X.base "__init__" k ps sp) (hr : Room (k + 1) X.A) (ha : PA X (e :: es) t) (hg : Gl X "Session" := by rfl)
    (he : starEach (e :: es) X.env = (false, eval e X.env) :: starEach es X.env := by rfl) (hpl : (backTo pos (starEach es X.env)).any (·.1) = false := by rfl) :
    PE X (.Call (.Name "Session" p) (e :: es) [] pos) (tMake (cS X.K) sp [] E0 t) := by
  obtain ⟨⟨fd, f, b⟩⟩ := h
  exact pe_make M f hr hg gl b .nil pass0 ha (by decide) he hpl
/-! the rules with the written part named -/
section
variable {K : PySem.W.Frag}
theorem k_ixT (h : X.K = K) : IxR X (rIxT K) := by subst h; exact ix_tup
theorem k_ixL (h : X.K = K) : IxR X (rIxL K) := by subst h; exact ix_list
theorem k_slL (h : X.K = K) : SlR X (rSlL K) := by subst h; exact sl_list
theorem k_slT (h : X.K = K) : SlR X (rSlA K) := by subst h; exact sl_tupA
theorem k_catA (h : X.K = K) : OpR X (binaryOp .Add) (rCatA K) := by subst h; exact op_catA
theorem k_repA (h : X.K = K) : OpR X (binaryOp .Mult) (rRepA K) := by subst h; exact op_repA
theorem k_in (h : X.K = K) : OpR X (compareOp .In) (rIn K false) := by subst h; exact op_in_seq
theorem k_nin (h : X.K = K) : OpR X (compareOp .NotIn) (rIn K true) := by subst h; exact op_notIn_seq
theorem k_eq (h : X.K = K) (hu : X.A.units + 64 < cLine) : OpR X (compareOp .Eq) (rEqD K) := by subst h; exact op_eqD hu
theorem k_ne (h : X.K = K) (hu : X.A.units + 64 < cLine) : OpR X (compareOp .NotEq) (rNeD K) := by subst h; exact op_neD hu
theorem k_len (h : X.K = K) : CallR X (.builtin "len") (rLenQ K) := by subst h; exact call_lenQ
theorem k_tup (h : X.K = K) : CallR X (.type "tuple") (rTupQ K) := by subst h; exact call_tupQ
theorem k_isi (h : X.K = K) : CallR X (.builtin "isinstance") (rIsi K) := by subst h; exact call_isi
theorem k_all (h : X.K = K) (hc : X.calm = true) : CallR X (.builtin "all") (rAll K) := by subst h; exact cr_all hc
theorem k_any (h : X.K = K) (hc : X.calm = true) : CallR X (.builtin "any") (rAny K) := by subst h; exact cr_any hc
theorem k_anyT (h : X.K = K) (hc : X.calm = true) : CallR X (.builtin "any") (rAnyTI K) := by subst h; exact cr_anyTI hc
theorem k_fld {f : Str} (h : X.K = K) (he : PE X e te) (hb : attributeBase e f X.env (eval e X.env) = eval e X.env := by rfl) : PE X (.Attribute e f pos) (tFld K te f) := by subst h; exact pe_fld he hb
theorem k_app (h : X.K = K) (ho : PE X o to) (ha : PA X (e :: es) t) (hbase : attributeBase o "append" X.env (eval o X.env) = eval o X.env := by rfl)
    (hfew : ((backTo pos (starEach (e :: es) X.env)).all (fun x => !x.1) && (backToKw pos (keywordEach [] X.env)).all (fun x => x.1.isSome)
      && decide ((e :: es).length + ([] : List Keyword).length + (if ([] : List Keyword).isEmpty then 0 else 1) < 30)) = true := by rfl)
    (hline : (apos.endLine == pos.line) = true := by rfl) (hs : starEach (e :: es) X.env = (false, eval e X.env) :: starEach es X.env := by rfl) (hplain : (backTo pos (starEach es X.env)).any (·.1) = false := by rfl) :
    PE X (.Call (.Attribute o "append" apos) (e :: es) [] pos) (tBM K "list" rAppend to t) := by
  subst h
  exact pe_bm PySem.F.plainAttrs_list PySem.F.slot_list_append PySem.F.type_list_append mt_append ho ha hbase hfew hline hs hplain
theorem k_join (h : X.K = K) (ho : PE X o to) (he : PE X e te) (hs : starEach [e] X.env = [(false, eval e X.env)] := by rfl) (hbase : attributeBase o "join" X.env (eval o X.env) = eval o X.env := by rfl) (hline : (apos.endLine == pos.line) = true := by rfl) :
    PE X (.Call (.Attribute o "join" apos) [e] [] pos) (tM1 (rJoinQ K) to te) := by
  subst h
  exact pe_m1 F.slot_str_join F.type_str_join mt_joinQ ho he hs hbase hline
theorem k_ptup {es : List Expr} {k : Nat} {t : TGs} (n : Nat) (hK : X.K = K) (hc : X.calm = true) (h : PGs X es t)
    (hn : (assignEach es X.env).length = n := by rfl) (hst : (assignEach es X.env).findIdx? (·.1) = none := by rfl) : PG X (.Tuple es k pos) (gTup K n t) := by subst hK; exact pg_tup hc h hn hst
theorem k_sfld {value : Expr} {tv : TE} {f : Str} {pos' : Pos} (h : X.K = K) (ha : PE X o to) (hv : PE X value tv) (hs : swapsWith value (some (.Attribute o f pos')) pos.line X.env = pure false := by rfl) : PS X (.Assign [.Attribute o f pos'] value pos) (sFld K to tv f) := by subst h; exact ps_fld ha hv hs
theorem k_meth (h0 : X.K = K) (c : Cls K (cS K)) (hm : Meth K (cS K) x (He.ma K (cS K) x)) (h : OkM X.prog X.w K X.mg X.base x k ps sp) (hr : Room k X.A) (ho : PE X o to) (ha : PA X (e :: es) t)
    {pl : Sem Bool} (hst : starEach (e :: es) X.env = (false, eval e X.env) :: starEach es X.env := by rfl) (hpl : (backTo pos (starEach es X.env)).any (·.1) = false := by rfl)
    (ht : eval (.Call (.Attribute o x apos) (e :: es) [] pos) X.env = (do
      let ov ← eval o X.env
      standAt apos.atName
      let (f, first) ← holding [ov] (getMethod ov x pl)
      callWith pos f first (backTo pos (starEach (e :: es) X.env)) (backToKw pos (keywordEach [] X.env))) := by rfl) :
    PE X (.Call (.Attribute o x apos) (e :: es) [] pos) (tMeth (cS K) x sp [] E0 to t) := by subst h0; exact pe_methG c hm h hr ho ha hst hpl ht
theorem k_meth0 (h0 : X.K = K) (c : Cls K (cS K)) (hm : Meth K (cS K) x (He.ma K (cS K) x)) (h : OkM X.prog X.w K X.mg X.base x k ps sp) (hr : Room k X.A) (ho : PE X o to)
    {pl : Sem Bool} (ht : eval (.Call (.Attribute o x apos) [] [] pos) X.env = (do
      let ov ← eval o X.env
      standAt apos.atName
      let (f, first) ← holding [ov] (getMethod ov x pl)
      callWith pos f first (backTo pos (starEach [] X.env)) (backToKw pos (keywordEach [] X.env))) := by rfl) :
    PE X (.Call (.Attribute o x apos) [] [] pos) (tMeth (cS K) x sp [] E0 to tNil) := by subst h0; exact pe_methG0 c hm h hr ho ht
theorem k_make (h0 : X.K = K) (M : Mk K (cS K) (He.ma K (cS K) "__init__")) (gl : X.mg "Session" = some (.ref (cS K))) (h : OkM X.prog X.w K X.mg X.base "__init__" k ps sp) (hr : Room (k + 1) X.A) (ha : PA X (e :: es) t) (hg : Gl X "Session" := by rfl)
    (he : starEach (e :: es) X.env = (false, eval e X.env) :: starEach es X.env := by rfl) (hpl : (backTo pos (starEach es X.env)).any (·.1) = false := by rfl) :
    PE X (.Call (.Name "Session" p) (e :: es) [] pos) (tMake (cS K) sp [] E0 t) := by subst h0; exact pe_makeG M gl h hr ha hg he hpl
theorem k_list {tg l : Expr} {tl : TE} (h : X.K = K) (hl : PE X l tl) : PI X tg l (iList K tl) := by subst h; exact pi_list hl
theorem k_tupI {tg l : Expr} {tl : TE} (h : X.K = K) (hl : PE X l tl) : PI X tg l (iTup K tl) := by subst h; exact pi_tup hl
end
theorem pe_splitQ (ho : PE X o to) (he : PE X e te) (hs : starEach [e] X.env = [(false, eval e X.env)] := by rfl) (hbase : attributeBase o "split" X.env (eval o X.env) = eval o X.env := by rfl) (hline : (apos.endLine == pos.line) = true := by rfl) :
    PE X (.Call (.Attribute o "split" apos) [e] [] pos) (tM1 rSplitQ to te) := pe_m1 F.slot_str_split F.type_str_split mt_splitQ ho he hs hbase hline
theorem pe_joinQ (ho : PE X o to) (he : PE X e te) (hs : starEach [e] X.env = [(false, eval e X.env)] := by rfl) (hbase : attributeBase o "join" X.env (eval o X.env) = eval o X.env := by rfl) (hline : (apos.endLine == pos.line) = true := by rfl) :
    PE X (.Call (.Attribute o "join" apos) [e] [] pos) (tM1 (rJoinQ X.K) to te) := pe_m1 F.slot_str_join F.type_str_join mt_joinQ ho he hs hbase hline
end
end K81
/-! ## E10 -/
set_option Elab.async false
set_option linter.all false
set_option maxRecDepth 100000
set_option maxHeartbeats 4000000
/-! Forms often used. -/
namespace K81
open PySem PySem.Spec PyProof.Rows L2
section
variable {K : PySem.W.Frag} {δ : List Sl} {μ : Mu} {P : Sl → Mu → Prop}
theorem EvB.mono {tt : TT} {PB PB' : Bool → Mu → Prop} (h : EvB K tt δ μ PB) (m : ∀ b μ', PB b μ' → PB' b μ') : EvB K tt δ μ PB' := fun I H σ Q st k => h I H σ Q st fun b μ' I' H' g w p => k b μ' I' H' g w (m _ _ p)
/-- an if whose test is told as a whole -/
theorem ex_ifP {tt : TT} {t u : TS} {A : AEnds} (c : Bool) (h : EvB K tt δ μ fun b μ1 => b = c ∧ μ1 = μ) (ht : c = true → ExC K t δ μ A) (hf : c = false → ExC K u δ μ A) : ExC K (tIfS tt t u) δ μ A :=
  ex_if (h.mono fun b μ1 ⟨h1, h2⟩ => by subst h1 h2; exact ⟨ht, hf⟩)
theorem ev_ifP {tt : TT} {ta tb : TE} (c : Bool) (h : EvB K tt δ μ fun b μ1 => b = c ∧ μ1 = μ) (ht : c = true → EvC K ta δ μ P) (hf : c = false → EvC K tb δ μ P) : EvC K (tIf tt ta tb) δ μ P :=
  ev_if (h.mono fun b μ1 ⟨h1, h2⟩ => by subst h1 h2; exact ⟨ht, hf⟩)
theorem et_andP {tt tu : TT} (c d : Bool) {PB : Bool → Mu → Prop} (h : EvB K tt δ μ fun b μ1 => b = c ∧ μ1 = μ) (h2 : c = true → EvB K tu δ μ fun b μ1 => b = d ∧ μ1 = μ) (p : PB (c && d) μ) : EvB K (tAnd tt tu) δ μ PB :=
  et_and (h.mono fun b μ1 ⟨h1, h3⟩ => by
    subst h1 h3
    refine ⟨fun hb => (h2 hb).mono fun b' μ2 ⟨h4, h5⟩ => ?_, fun hb => ?_⟩
    · subst h4 h5; rw [hb, Bool.true_and] at p; exact p
    · rw [hb, Bool.false_and] at p; exact p)
theorem et_orP {tt tu : TT} (c d : Bool) {PB : Bool → Mu → Prop} (h : EvB K tt δ μ fun b μ1 => b = c ∧ μ1 = μ) (h2 : c = false → EvB K tu δ μ fun b μ1 => b = d ∧ μ1 = μ) (p : PB (c || d) μ) : EvB K (tOr tt tu) δ μ PB :=
  et_or (h.mono fun b μ1 ⟨h1, h3⟩ => by
    subst h1 h3
    refine ⟨fun hb => (h2 hb).mono fun b' μ2 ⟨h4, h5⟩ => ?_, fun hb => ?_⟩
    · subst h4 h5; rw [hb, Bool.false_or] at p; exact p
    · rw [hb, Bool.true_or] at p; exact p)
theorem sz_of {n : Nat} (h : n ≤ 1000000) : n ≤ sizeLine := Nat.le_trans h (by decide)
theorem sz_lt {n : Nat} (h : n < 1000000) : n < sizeLine := Nat.lt_of_lt_of_le h (by decide)
/-- a comprehension whose items are told one by one -/
theorem lc_map {wi : TI} {te : TE} {vs : List Nat} {i : Nat} (hi : i ∈ vs) (f : Nat → PyData) (h : EvI K wi δ μ fun ds μ1 => ds.length ≤ 100000 ∧ (∀ (k : Nat) d, ds[k]? = some d → EvC K te ((wipeS δ vs).set i (.dat d)) μ1 fun s μ2 => AsD s (f k) ∧ μ2 = μ1) ∧
      P (.dat (.list ((List.range ds.length).map f))) μ1) : EvC K (tLc wi (gName i) tYes te vs) δ μ P := by
  refine ev_lc (wg_name hi) fun I H σ R st k => h I H σ R st fun J ds μ' I' H' g w wk ⟨hl, hs, p⟩ => k J ds μ' I' H' g w wk ?_
  refine ⟨fun k acc μ2 => acc = (List.range k).map f ∧ μ2 = μ' ∧ k ≤ ds.length, ⟨rfl, rfl, Nat.zero_le _⟩, fun k d acc μ2 hd hinv => tg_name fun I H σ Q st kk => ?_, fun acc μ2 hinv => ?_⟩
  · obtain ⟨rfl, rfl, hk⟩ := hinv
    have hk2 := (List.getElem?_eq_some_iff.mp hd).1
    refine kk true μ2 I H (Go.refl st.sm) st.own ⟨fun _ => (hs k d hd).mono fun s μ3 ⟨h1, h2⟩ => ?_, fun e => nomatch e⟩
    subst h2
    refine ⟨f k, h1, sz_lt (by simp; omega), ?_, rfl, by omega⟩
    rw [List.range_succ, List.map_append]
    rfl
  · obtain ⟨rfl, rfl, _⟩ := hinv
    exact p
/-- .. with a test -/
theorem lc_filter {wi : TI} {tt : TT} {te : TE} {vs : List Nat} {i : Nat} (hi : i ∈ vs) (c : PyData → Bool) (f : PyData → PyData) (h : EvI K wi δ μ fun ds μ1 => ds.length ≤ 100000 ∧ (∀ (k : Nat) d, ds[k]? = some d → EvB K tt ((wipeS δ vs).set i (.dat d)) μ1 fun b μ2 => b = c d ∧ μ2 = μ1) ∧
      (∀ (k : Nat) d, ds[k]? = some d → c d = true → EvC K te ((wipeS δ vs).set i (.dat d)) μ1 fun s μ2 => AsD s (f d) ∧ μ2 = μ1) ∧ P (.dat (.list ((ds.filter c).map f))) μ1) : EvC K (tLc wi (gName i) tt te vs) δ μ P := by
  refine ev_lc (wg_name hi) fun I H σ R st k => h I H σ R st fun J ds μ' I' H' g w wk ⟨hl, hc, hs, p⟩ => k J ds μ' I' H' g w wk ?_
  refine ⟨fun k acc μ2 => acc = ((ds.take k).filter c).map f ∧ μ2 = μ', ⟨rfl, rfl⟩, fun k d acc μ2 hd hinv => tg_name ?_, fun acc μ2 hinv => ?_⟩
  · obtain ⟨rfl, rfl⟩ := hinv
    have hk2 := (List.getElem?_eq_some_iff.mp hd)
    have et : ds.take (k + 1) = ds.take k ++ [d] := by rw [List.take_add_one, hd]; rfl
    intro I H σ Q st kk
    refine hc k d hd I H σ Q st fun b μ3 I3 H3 g3 w3 p3 => kk b μ3 I3 H3 g3 w3 ?_
    obtain ⟨rfl, rfl⟩ := p3
    refine ⟨fun hb => (hs k d hd hb).mono fun s μ3 ⟨h1, h2⟩ => ?_, fun hb => ?_⟩
    · subst h2
      refine ⟨f d, h1, sz_lt ?_, ?_, rfl⟩
      · have h1 := List.length_filter_le c (ds.take k)
        have h2 : (ds.take k).length ≤ ds.length := by rw [List.length_take]; omega
        rw [List.length_map]
        omega
      · rw [et, List.filter_append, List.map_append]
        simp [hb]
    · refine ⟨?_, rfl⟩
      rw [et, List.filter_append, List.map_append]
      simp [hb]
  · obtain ⟨rfl, rfl⟩ := hinv
    rw [List.take_length]
    exact p
/-- a call of a def that changes nothing -/
theorem cP {n : Nat} {F : PSp} {ta : TA} (h : EvA K ta δ μ fun ss μ1 => ss.length = n ∧ F ss fun s => P s μ1) : EvC K (tCall (spP K n F) [] E0 ta) δ μ P :=
  ev_callP fun I H σ Q st k => h I H σ Q st fun vs ss μ' I' H' g e w ⟨hl, f⟩ => k vs ss μ' I' H' g e w ⟨hl, ss, Subs.refl ss, f⟩
theorem cA {n : Nat} {F : ASp} {ta : TA} (js : List Nat) (nj : js.Nodup) (h : EvA K ta δ μ fun ss μ1 => ss.length = n ∧ ∃ ν, js.map (fun j => μ1[j]?) = ν.map some ∧ F ss ν fun s obs new => P s (new ++ puts μ1 js obs)) : EvC K (tCall (spA K n F) [] E0 ta) δ μ P :=
  ev_callA js nj fun I H σ Q st k => h I H σ Q st fun vs ss μ' I' H' g e w ⟨hl, ν, hp, f⟩ => k vs ss μ' I' H' g e w ⟨hl, ss, ν, Subs.refl ss, hp, f⟩
theorem cM {n : Nat} {F : ASp} {C : Addr} {m : Str} {to : TE} {ta : TA} (js : List Nat) (nj : js.Nodup) (h : EvC K to δ μ fun s μ0 => ∃ a fs, s = .val (.ref a) ∧ (a, Ob.ins C fs) ∈ μ0 ∧ fs.lookup m = none ∧
      EvA K ta δ μ0 fun ss μ1 => (s :: ss).length = n ∧ ∃ ν, js.map (fun j => μ1[j]?) = ν.map some ∧ F (s :: ss) ν fun s obs new => P s (new ++ puts μ1 js obs)) : EvC K (tMeth C m (spA K n F) [] E0 to ta) δ μ P :=
  ev_methA js nj fun I H σ Q st k => h I H σ Q st fun v s μ' I' H' e ⟨a, fs, e1, e2, e3, e4⟩ => k v s μ' I' H' e ⟨a, fs, e1, e2, e3, fun I H σ Q st k => e4 I H σ Q st fun vs ss μ' I' H' g e w ⟨hl, ν, hp, f⟩ => k vs ss μ' I' H' g e w ⟨hl, _, ν, Subs.refl _, hp, f⟩⟩
end
end K81
/-! ## E11 -/
set_option Elab.async false
set_option linter.all false
set_option maxRecDepth 100000
set_option maxHeartbeats 4000000
/-! Comparisons of data; the data of books, events, holdings. -/
namespace K81
open PySem PySem.Spec PyProof.Rows L2
section
variable {K : PySem.W.Frag} {δ : List Sl} {μ : Mu} {P : Sl → Mu → Prop}
/-- data that may be compared -/
structure Shn (n : Nat) (d : PyData) : Prop where
  lay : d.canLay0 = true
  dep : d.depth ≤ n
theorem Shn.ok {n : Nat} {d : PyData} (h : Shn n d) (hn : n ≤ 64 := by decide) : SeqAt.shaped d = true := by
  unfold SeqAt.shaped
  rw [h.lay, Bool.true_and, decide_eq_true_eq]
  exact Nat.le_trans h.dep hn
theorem shn_int {n : Nat} (i : Int) : Shn n (.int i) := ⟨by simp [PyData.canLay0], by simp [PyData.depth]⟩
theorem shn_non {n : Nat} : Shn n .none := ⟨by simp [PyData.canLay0], by simp [PyData.depth]⟩
theorem shn_bool {n : Nat} (b : Bool) : Shn n (.bool b) := ⟨by simp [PyData.canLay0], by simp [PyData.depth]⟩
theorem shn_str {n : Nat} {x : Str} (h : PyData.strOk x = true) : Shn n (.str x) := ⟨by simpa [PyData.canLay0] using h, by simp [PyData.depth]⟩
theorem canAll {ds : List PyData} : PyData.canLayAll0 ds = true ↔ ∀ d ∈ ds, d.canLay0 = true := by
  induction ds with
  | nil => simp [PyData.canLayAll0]
  | cons d ds ih => simp [PyData.canLayAll0, ih]
theorem depAll {n : Nat} {ds : List PyData} : PyData.depthAll ds ≤ n ↔ ∀ d ∈ ds, d.depth ≤ n := by
  induction ds with
  | nil => simp [PyData.depthAll]
  | cons d ds ih =>
    rw [PyData.depthAll]
    simp only [List.mem_cons, forall_eq_or_imp, ← ih]
    omega
theorem shn_tup {n : Nat} {ds : List PyData} (h : ∀ d ∈ ds, Shn n d) : Shn (n + 1) (.tuple ds) := by
  refine ⟨by rw [PyData.canLay0]; exact canAll.mpr fun d m => (h d m).lay, ?_⟩
  have := depAll.mpr fun d m => (h d m).dep
  rw [PyData.depth]
  omega
theorem shn_lst {n : Nat} {ds : List PyData} (h : ∀ d ∈ ds, Shn n d) : Shn (n + 1) (.list ds) := by
  refine ⟨by rw [PyData.canLay0]; exact canAll.mpr fun d m => (h d m).lay, ?_⟩
  have := depAll.mpr fun d m => (h d m).dep
  rw [PyData.depth]
  omega
theorem Shn.refl {n : Nat} {d : PyData} (h : Shn n d) : PyData.eqv d d = true := SeqAt.eqv_refl d h.lay
theorem op_eqi {i j : Int} (p : P (.dat (.bool (decide (i = j)))) μ) : OpA K (rEqD K) (.dat (.int i)) (.dat (.int j)) μ P := by
  refine op_eqd (.dat _) (.dat _) (shn_int (n := 5) i).ok (shn_int (n := 5) j).ok ?_
  have e : PyData.eqv (.int i) (.int j) = decide (i = j) := by
    rw [PyData.eqv]
    by_cases h : i = j <;> simp [h]
  rw [e]
  exact p
theorem op_nei {i j : Int} (p : P (.dat (.bool (!decide (i = j)))) μ) : OpA K (rNeD K) (.dat (.int i)) (.dat (.int j)) μ P := by
  refine op_ned (.dat _) (.dat _) (shn_int (n := 5) i).ok (shn_int (n := 5) j).ok ?_
  have e : PyData.eqv (.int i) (.int j) = decide (i = j) := by
    rw [PyData.eqv]
    by_cases h : i = j <;> simp [h]
  rw [e]
  exact p
theorem eqv_strs (i j : Str) : PyData.eqv (.str i) (.str j) = decide (i = j) := by
  rw [PyData.eqv]
  by_cases h : i = j
  · subst h; simp
  · simp [h]
theorem op_eqs {i j : Str} (h1 : PyData.strOk i = true) (h2 : PyData.strOk j = true) (p : P (.dat (.bool (decide (i = j)))) μ) : OpA K (rEqD K) (.dat (.str i)) (.dat (.str j)) μ P := by
  refine op_eqd (.dat _) (.dat _) (shn_str (n := 5) h1).ok (shn_str (n := 5) h2).ok ?_
  rw [eqv_strs]
  exact p
theorem op_nes {i j : Str} (h1 : PyData.strOk i = true) (h2 : PyData.strOk j = true) (p : P (.dat (.bool (!decide (i = j)))) μ) : OpA K (rNeD K) (.dat (.str i)) (.dat (.str j)) μ P := by
  refine op_ned (.dat _) (.dat _) (shn_str (n := 5) h1).ok (shn_str (n := 5) h2).ok ?_
  rw [eqv_strs]
  exact p
theorem op_eq_same {n : Nat} {d : PyData} {s1 s2 : Sl} (h1 : AsD s1 d) (h2 : AsD s2 d) (h : Shn n d) (hn : n ≤ 64) (p : P (.dat (.bool true)) μ) : OpA K (rEqD K) s1 s2 μ P := by
  refine op_eqd h1 h2 (h.ok hn) (h.ok hn) ?_
  rw [h.refl]
  exact p
theorem op_ne_same {n : Nat} {d : PyData} {s1 s2 : Sl} (h1 : AsD s1 d) (h2 : AsD s2 d) (h : Shn n d) (hn : n ≤ 64) (p : P (.dat (.bool false)) μ) : OpA K (rNeD K) s1 s2 μ P := by
  refine op_ned h1 h2 (h.ok hn) (h.ok hn) ?_
  rw [h.refl]
  exact p
theorem ca_all' {ds : List PyData} {bs : List Bool} (h : ds = bs.map .bool) (p : P (.dat (.bool (bs.all id))) μ) : CaA K (rAll K) [.dat (.list ds)] μ P := by subst h; exact ca_all p
theorem ca_any' {ds : List PyData} {bs : List Bool} (h : ds = bs.map .bool) (p : P (.dat (.bool (bs.any id))) μ) : CaA K (rAny K) [.dat (.list ds)] μ P := by subst h; exact ca_any p
end

/-! ### tables told by a map -/
section
variable {κ κ' α α' : Type} [DecidableEq κ] [DecidableEq κ'] {f : κ → κ'} {g : α → α'}
theorem valD_map (hf : ∀ a b, f a = f b → a = b) (es : List (κ × α)) (k : κ) : valD (es.map fun p => (f p.1, g p.2)) (f k) = (valD es k).map g := by
  induction es with
  | nil => rfl
  | cons p es ih =>
    rw [List.map_cons, valD_cons, valD_cons, ih]
    by_cases h : p.1 = k
    · rw [if_pos (by rw [h]), if_pos h]; rfl
    · rw [if_neg (fun z => h (hf _ _ z)), if_neg h]
theorem any_map_key (hf : ∀ a b, f a = f b → a = b) (es : List (κ × α)) (k : κ) : ((es.map fun p => (f p.1, g p.2)).any fun e => decide (e.1 = f k)) = es.any fun e => decide (e.1 = k) := by
  rw [List.any_map]
  congr 1
  funext e
  exact decide_eq_decide.mpr ⟨fun z => hf _ _ z, fun z => congrArg f z⟩
theorem putD_map (hf : ∀ a b, f a = f b → a = b) (es : List (κ × α)) (k : κ) (d : α) : putD (es.map fun p => (f p.1, g p.2)) (f k) (g d) = (putD es k d).map fun p => (f p.1, g p.2) := by
  unfold putD
  rw [any_map_key hf]
  by_cases q : (es.any fun e => decide (e.1 = k)) = true
  · rw [if_pos q, if_pos q, List.map_map, List.map_map]
    refine List.map_congr_left fun e _ => ?_
    show (if f e.1 = f k then (f e.1, g d) else (f e.1, g e.2)) = _
    by_cases h : e.1 = k
    · rw [if_pos (by rw [h])]
      simp [h]
    · rw [if_neg (fun z => h (hf _ _ z))]
      simp [h]
  · rw [if_neg q, if_neg q, List.map_append]
    rfl
theorem dropD_map (hf : ∀ a b, f a = f b → a = b) (es : List (κ × α)) (k : κ) : dropD (es.map fun p => (f p.1, g p.2)) (f k) = (dropD es k).map fun p => (f p.1, g p.2) := by
  unfold dropD
  rw [List.filter_map]
  congr 1
  refine List.filter_congr fun e _ => ?_
  show decide (f e.1 ≠ f k) = decide (e.1 ≠ k)
  exact decide_eq_decide.mpr ⟨fun z h => z (by rw [h]), fun z h => z (hf _ _ h)⟩
theorem putD_len (es : List (κ × α)) (k : κ) (d : α) : (putD es k d).length ≤ es.length + 1 := by
  unfold putD
  split
  · simp
  · simp
theorem valD_put (es : List (κ × α)) (k j : κ) (d : α) : valD (putD es k d) j = if k = j then some d else valD es j := by
  have key : ∀ es : List (κ × α), valD (es.map fun e => if e.1 = k then (e.1, d) else e) j = if k = j then (if (es.any fun e => decide (e.1 = k)) = true then some d else none) else valD es j := by
    intro es
    induction es with
    | nil => by_cases h : k = j <;> simp [h, valD]
    | cons p es ih =>
      rw [List.map_cons, valD_cons, ih, List.any_cons]
      by_cases h1 : p.1 = k
      · rw [if_pos h1]
        by_cases h2 : k = j
        · simp [h1, h2]
        · have h3 : ¬ p.1 = j := fun z => h2 (by rw [← h1, z])
          simp only [h3, if_false, h2]
          rw [valD_cons, if_neg h3]
      · rw [if_neg h1]
        by_cases h2 : k = j
        · subst h2
          have hd : decide (p.1 = k) = false := decide_eq_false h1
          rw [if_neg h1, if_pos rfl, if_pos rfl, hd, Bool.false_or]
        · simp only [h2, if_false]
          rw [valD_cons]
  have key2 : ∀ es : List (κ × α), (es.any fun e => decide (e.1 = k)) = false → valD (es ++ [(k, d)]) j = if k = j then some d else valD es j := by
    intro es
    induction es with
    | nil =>
      intro _
      rw [List.nil_append, valD_cons]
    | cons p es ih =>
      intro h
      rw [List.any_cons, Bool.or_eq_false_iff] at h
      have hk : ¬ p.1 = k := of_decide_eq_false h.1
      rw [List.cons_append, valD_cons, valD_cons, ih h.2]
      by_cases h2 : p.1 = j
      · have : ¬ k = j := fun z => hk (by rw [h2, z])
        simp [h2, this]
      · simp [h2]
  unfold putD
  by_cases q : (es.any fun e => decide (e.1 = k)) = true
  · rw [if_pos q, key es, if_pos q]
  · rw [if_neg q]
    exact key2 es (Bool.not_eq_true _ ▸ q)
theorem valD_drop (es : List (κ × α)) (k j : κ) : valD (dropD es k) j = if k = j then none else valD es j := by
  induction es with
  | nil => simp [dropD, valD]
  | cons p es ih =>
    unfold dropD at ih ⊢
    rw [List.filter_cons]
    by_cases h : p.1 = k
    · rw [if_neg (by simp [h]), ih, valD_cons]
      by_cases h2 : k = j
      · simp [h2]
      · have : ¬ p.1 = j := fun z => h2 (by rw [← h, z])
        simp [h2, this]
    · rw [if_pos (by simp [h]), valD_cons, valD_cons, ih]
      by_cases h2 : p.1 = j
      · have : ¬ k = j := fun z => h (by rw [h2, z])
        simp [h2, this]
      · simp [h2]
theorem valD_mem {es : List (κ × α)} {k : κ} {d : α} (h : valD es k = some d) : (k, d) ∈ es := by
  induction es with
  | nil => cases h
  | cons p es ih =>
    rw [valD_cons] at h
    by_cases e : p.1 = k
    · rw [if_pos e] at h
      cases h
      rw [← e]
      exact List.mem_cons_self
    · rw [if_neg e] at h
      exact List.mem_cons_of_mem _ (ih h)
theorem valD_keys {es : List (κ × α)} {k : κ} : (valD es k).isSome = true ↔ k ∈ es.map (·.1) := by
  induction es with
  | nil => simp [valD]
  | cons p es ih =>
    rw [valD_cons, List.map_cons, List.mem_cons, ← ih]
    by_cases e : p.1 = k
    · simp [e]
    · have : ¬ k = p.1 := fun z => e z.symm
      simp [e, this]
theorem valD_of_mem {es : List (κ × α)} (nd : (es.map (·.1)).Nodup) {k : κ} {d : α} (h : (k, d) ∈ es) : valD es k = some d := by
  induction es with
  | nil => cases h
  | cons p es ih =>
    rw [List.map_cons, List.nodup_cons] at nd
    rw [valD_cons]
    rcases List.mem_cons.mp h with e | h
    · subst e; rw [if_pos rfl]
    · have : ¬ p.1 = k := fun z => nd.1 (List.mem_map.mpr ⟨_, h, z.symm⟩)
      rw [if_neg this]
      exact ih nd.2 h
theorem putD_keys {es : List (κ × α)} {k : κ} {d : α} : (putD es k d).map (·.1) = if k ∈ es.map (·.1) then es.map (·.1) else es.map (·.1) ++ [k] := by
  have ha : (es.any fun e => decide (e.1 = k)) = true ↔ k ∈ es.map (·.1) := by
    rw [List.any_eq_true, List.mem_map]
    constructor
    · rintro ⟨x, h1, h2⟩; exact ⟨x, h1, of_decide_eq_true h2⟩
    · rintro ⟨x, h1, h2⟩; exact ⟨x, h1, decide_eq_true h2⟩
  unfold putD
  by_cases q : (es.any fun e => decide (e.1 = k)) = true
  · rw [if_pos q, if_pos (ha.mp q), List.map_map]
    refine List.map_congr_left fun e _ => ?_
    show (if e.1 = k then (e.1, d) else e).1 = e.1
    split <;> rfl
  · rw [if_neg q, if_neg fun z => q (ha.mpr z), List.map_append]
    rfl
theorem putD_nodup {es : List (κ × α)} {k : κ} {d : α} (h : (es.map (·.1)).Nodup) : ((putD es k d).map (·.1)).Nodup := by
  rw [putD_keys]
  by_cases q : k ∈ es.map (·.1)
  · rw [if_pos q]; exact h
  · rw [if_neg q, List.nodup_append]
    exact ⟨h, by simp, fun a ha b hb e => by
      rw [List.mem_singleton] at hb
      exact q (by rw [← hb, ← e]; exact ha)⟩
theorem dropD_nodup {es : List (κ × α)} {k : κ} (h : (es.map (·.1)).Nodup) : ((dropD es k).map (·.1)).Nodup := by
  unfold dropD
  exact h.sublist (List.Sublist.map _ List.filter_sublist)
theorem dropD_len (es : List (κ × α)) (k : κ) : (dropD es k).length ≤ es.length := List.length_filter_le _ _
theorem dropD_mem {es : List (κ × α)} {k : κ} {p : κ × α} (h : p ∈ dropD es k) : p ∈ es := (List.mem_filter.mp h).1
theorem putD_mem {es : List (κ × α)} {k : κ} {d : α} {p : κ × α} (h : p ∈ putD es k d) : p = (k, d) ∨ p ∈ es := by
  unfold putD at h
  split at h
  · obtain ⟨q, hq, e⟩ := List.mem_map.mp h
    by_cases c : q.1 = k
    · rw [if_pos c] at e
      exact .inl (by rw [← e, c])
    · rw [if_neg c] at e
      exact .inr (by rw [← e]; exact hq)
  · rcases List.mem_append.mp h with h | h
    · exact .inr h
    · exact .inl (List.mem_singleton.mp h)
end

/-! ### the data of the program -/
abbrev stk (ns : List Int) : PyData := .tuple (ns.map .int)
structure Mv where
  nm : Str
  tk : List Int
  lo : List Int
  hi : List Int
structure Bk where
  ks : List Str
  ms : List Mv
abbrev mvD (m : Mv) : PyData := .tuple [.str m.nm, stk m.tk, stk m.lo, stk m.hi]
abbrev ksD (b : Bk) : PyData := .tuple (b.ks.map .str)
abbrev msD (b : Bk) : PyData := .tuple (b.ms.map mvD)
abbrev bkD (b : Bk) : PyData := .tuple [ksD b, msD b]
abbrev Bk.n (b : Bk) : Nat := b.ks.length
inductive Ev
  | make (s w : Str) (m : Nat) (g : List Int)
  | hand (s w o : Str) (g : List Int)
  | send (s w : Str) (t : Int) (g : List Int)
  | land (s w : Str) (t : Int)
  | forge (s w : Str) (g : List Int)
abbrev Ev.sh : Ev → Str
  | .make s _ _ _ => s
  | .hand s _ _ _ => s
  | .send s _ _ _ => s
  | .land s _ _ => s
  | .forge s _ _ => s
abbrev Ev.wh : Ev → Str
  | .make _ w _ _ => w
  | .hand _ w _ _ => w
  | .send _ w _ _ => w
  | .land _ w _ => w
  | .forge _ w _ => w
abbrev Ev.kd : Ev → Str
  | .make _ _ _ _ => "make"
  | .hand _ _ _ _ => "hand"
  | .send _ _ _ _ => "send"
  | .land _ _ _ => "land"
  | .forge _ _ _ => "forge"
abbrev evL : Ev → List PyData
  | .make s w m g => [.str "make", .str s, .str w, .int m, stk g]
  | .hand s w o g => [.str "hand", .str s, .str w, .str o, stk g]
  | .send s w t g => [.str "send", .str s, .str w, .int t, stk g]
  | .land s w t => [.str "land", .str s, .str w, .int t]
  | .forge s w g => [.str "forge", .str s, .str w, stk g]
abbrev evD (e : Ev) : PyData := .tuple (evL e)
theorem kd_ok (e : Ev) : PyData.strOk e.kd = true := by
  have h : PyData.strOk "make" = true ∧ PyData.strOk "hand" = true ∧ PyData.strOk "send" = true ∧ PyData.strOk "land" = true ∧ PyData.strOk "forge" = true := by decide +kernel
  obtain ⟨h1, h2, h3, h4, h5⟩ := h
  cases e <;> assumption
theorem ev_at0 (e : Ev) : atI (evL e) 0 = some (.str e.kd) := by cases e <;> rfl
theorem ev_at1 (e : Ev) : atI (evL e) 1 = some (.str e.sh) := by cases e <;> rfl
theorem ev_at2 (e : Ev) : atI (evL e) 2 = some (.str e.wh) := by cases e <;> rfl
abbrev hD (h : List Ev) : PyData := .tuple (h.map evD)
abbrev hL (h : List Ev) : PyData := .list (h.map evD)
abbrev zr (n : Nat) : List Int := List.replicate n 0
theorem zr_map (n : Nat) : List.replicate n (PyData.int 0) = (zr n).map .int := by simp [zr]
abbrev HeldT := List (SS × List Int)
abbrev WayT := List (Int × List Int)
abbrev hdE (h : HeldT) : List (List Key × PyData) := h.map fun p => (pairK p.1, stk p.2)
abbrev wyE (w : WayT) : List (Key × PyData) := w.map fun p => ((.inl p.1 : Key), stk p.2)
theorem pairK_inj (a b : SS) (h : pairK a = pairK b) : a = b := by
  obtain ⟨a1, a2⟩ := a
  obtain ⟨b1, b2⟩ := b
  unfold pairK at h
  injection h with h1 h2
  injection h2 with h2 _
  cases h1
  cases h2
  rfl
theorem inl_inj (a b : Int) (h : (Sum.inl a : Key) = Sum.inl b) : a = b := Sum.inl.inj h
theorem held_val (h : HeldT) (k : SS) : valD (hdE h) (pairK k) = (valD h k).map stk := valD_map pairK_inj h k
theorem held_put (h : HeldT) (k : SS) (s : List Int) : putD (hdE h) (pairK k) (stk s) = hdE (putD h k s) := putD_map (g := stk) pairK_inj h k s
theorem way_val (w : WayT) (t : Int) : valD (wyE w) (.inl t) = (valD w t).map stk := valD_map inl_inj w t
theorem way_put (w : WayT) (t : Int) (s : List Int) : putD (wyE w) (.inl t) (stk s) = wyE (putD w t s) := putD_map (g := stk) inl_inj w t s
theorem way_drop (w : WayT) (t : Int) : dropD (wyE w) (.inl t) = wyE (dropD w t) := dropD_map inl_inj w t
theorem pairD_keys (k : SS) : pairD k = .tuple ((pairK k).map keyD) := rfl
end K81
/-! ## E12 -/
set_option Elab.async false
set_option linter.all false
set_option maxRecDepth 100000
set_option maxHeartbeats 4000000
/-! Comprehensions over typed lists; the dicts of holdings and of what is under way. -/
namespace K81
open PySem PySem.Spec PyProof.Rows L2
section
variable {K : PySem.W.Frag} {δ : List Sl} {μ : Mu} {P : Sl → Mu → Prop}
theorem take_get {α : Type} {h : List α} {k : Nat} {e : α} (hk : h[k]? = some e) : h.take (k + 1) = h.take k ++ [e] := by
  rw [List.take_add_one, hk]
  rfl
theorem et_yes {PB : Bool → Mu → Prop} (p : PB true μ) : EvB K tYes δ μ PB := fun I H σ Q st k => k true μ I H (Go.refl st.sm) st.own p
theorem TgA.mono {g : TG} {s : Sl} {P P' : List Sl → Mu → Prop} (h : TgA K g s δ μ P) (m : ∀ δ' μ', P δ' μ' → P' δ' μ') : TgA K g s δ μ P' := fun I H σ v Q st x k => h I H σ v Q st x fun σ' H' ⟨δ', μ', I', a, b, c, d⟩ => k σ' H' ⟨δ', μ', I', a, b, c, m _ _ d⟩
theorem EvI.mono {wi : TI} {P P' : List PyData → Mu → Prop} (h : EvI K wi δ μ P) (m : ∀ ds μ', P ds μ' → P' ds μ') : EvI K wi δ μ P' := fun I H σ R st k => h I H σ R st fun J ds μ' I' H' a b c d => k J ds μ' I' H' a b c (m _ _ d)
theorem lcA {α : Type} (l : List α) (enc : α → PyData) (c : α → Bool) (f : α → PyData) {wi : TI} {g : TG} {tt : TT} {te : TE} {vs : List Nat} (hw : WipeG g vs) (h : EvI K wi δ μ fun ds μ1 => ds = l.map enc ∧ l.length ≤ 100000 ∧
      (∀ x ∈ l, TgA K g (.dat (enc x)) (wipeS δ vs) μ1 fun δ2 μ2 => μ2 = μ1 ∧ EvB K tt δ2 μ1 fun b μ3 => b = c x ∧ μ3 = μ1 ∧ (c x = true → EvC K te δ2 μ1 fun s μ4 => AsD s (f x) ∧ μ4 = μ1)) ∧ P (.dat (.list ((l.filter c).map f))) μ1) :
    EvC K (tLc wi g tt te vs) δ μ P := by
  refine ev_lc hw (h.mono fun ds μ1 ⟨hd, hl, hs, p⟩ => ?_)
  subst hd
  refine ⟨fun k acc μ2 => acc = ((l.take k).filter c).map f ∧ μ2 = μ1, ⟨rfl, rfl⟩, fun k d acc μ2 hk hinv => ?_, fun acc μ2 hinv => ?_⟩
  · obtain ⟨rfl, rfl⟩ := hinv
    rw [List.getElem?_map] at hk
    cases hx : l[k]? with
    | none => rw [hx] at hk; cases hk
    | some x =>
      rw [hx] at hk
      cases hk
      refine (hs x (List.mem_of_getElem? hx)).mono fun δ2 μ3 ⟨e1, h1⟩ => ?_
      subst e1
      refine h1.mono fun b μ4 ⟨e2, e3, h2⟩ => ?_
      subst e2 e3
      have lt : (((l.take k).filter c).map f).length < sizeLine := sz_lt (by
        have h1 := List.length_filter_le c (l.take k)
        have h2 : (l.take k).length ≤ l.length := by rw [List.length_take]; omega
        rw [List.length_map]
        omega)
      refine ⟨fun hb => (h2 hb).mono fun s μ5 ⟨h3, h4⟩ => ⟨f x, h3, lt, ?_, h4⟩, fun hb => ⟨?_, rfl⟩⟩
      · rw [take_get hx, List.filter_append, List.map_append]
        simp [hb]
      · rw [take_get hx, List.filter_append, List.map_append]
        simp [hb]
  · obtain ⟨rfl, rfl⟩ := hinv
    rw [List.length_map, List.take_length]
    exact p
theorem lcU {α : Type} (l : List α) (enc : α → PyData) (f : α → PyData) {wi : TI} {g : TG} {te : TE} {vs : List Nat} (hw : WipeG g vs) (h : EvI K wi δ μ fun ds μ1 => ds = l.map enc ∧ l.length ≤ 100000 ∧
      (∀ x ∈ l, TgA K g (.dat (enc x)) (wipeS δ vs) μ1 fun δ2 μ2 => μ2 = μ1 ∧ EvC K te δ2 μ1 fun s μ4 => AsD s (f x) ∧ μ4 = μ1) ∧ P (.dat (.list (l.map f))) μ1) :
    EvC K (tLc wi g tYes te vs) δ μ P :=
  lcA l enc (fun _ => true) f hw (h.mono fun ds μ1 ⟨h1, h2, h3, h4⟩ => ⟨h1, h2, fun x hx => (h3 x hx).mono fun δ2 μ2 ⟨h5, h6⟩ => ⟨h5, et_yes ⟨rfl, rfl, fun _ => h6⟩⟩, by rw [List.filter_eq_self.mpr fun _ _ => rfl]; exact h4⟩)
def asdF : Sl → Option PyData
  | .dat d => some d
  | .val .non => some .none
  | _ => none
def asdsF : List Sl → Option (List PyData)
  | [] => some []
  | s :: r => match asdF s, asdsF r with
    | some d, some ds => some (d :: ds)
    | _, _ => none
theorem k_globS {X : Cx} {x : Str} {p : Pos} {s : Str} {t : Tok} (h : X.mg x = some (.str s t)) (hg : Gl X x) (hd : (x == ("__debug__" : Str)) = false := by decide) : PE X (.Name x p) (tC (.str s)) := pe_glob hg h ⟨t, rfl⟩ hd
theorem k_globI {X : Cx} {x : Str} {p : Pos} {i : Int} {t : Tok} (h : X.mg x = some (.int i t)) (hg : Gl X x) (hd : (x == ("__debug__" : Str)) = false := by decide) : PE X (.Name x p) (tC (.int i)) := pe_glob hg h ⟨t, rfl⟩ hd
theorem k_globR {X : Cx} {x : Str} {p : Pos} {a : Addr} (h : X.mg x = some (.ref a)) (hg : Gl X x) (hd : (x == ("__debug__" : Str)) = false := by decide) : PE X (.Name x p) (tC (.ref a)) := pe_glob hg h rfl hd
/-- a list of ours read, from now on read alone -/
theorem ev_varF {i j : Nat} {a : Addr} {ds : List PyData} (h : δ[i]? = some (.val (.ref a))) (hj : μ[j]? = some (a, Ob.ls ds)) (p : P (.dat (.list ds)) (μ.eraseIdx j)) : EvC K (tVar i) δ μ P := by
  intro I H σ Q st k
  obtain ⟨o, ho, hs⟩ := env_get st.env h
  cases hs
  have hm : (a, Ob.ls ds) ∈ μ := List.mem_of_getElem? hj
  obtain ⟨nI, xs, hx, hd⟩ := st.own.ok _ hm
  have nI : I a = none := nI
  have ma : a ∈ rt μ := List.mem_map.mpr ⟨_, hm, rfl⟩
  have sub : ∀ q ∈ μ.eraseIdx j, q ∈ μ := fun q hq => (List.eraseIdx_sublist μ j).subset hq
  have sI : Same I (upd I a (.lst xs)) := fun b u e => by rw [upd_ne fun q => by rw [q, nI] at e; cases e]; exact e
  have sH : Same (upd I a (.lst xs)) H := fun b u e => by
    by_cases q : b = a
    · subst q; rw [upd_same] at e; rw [← e]; exact hx
    · rw [upd_ne q] at e; exact st.sm b u e
  have nr : a ∉ rt (μ.eraseIdx j) := fun m => by
    obtain ⟨q, hq, e⟩ := List.mem_map.mp m
    obtain ⟨i2, hi2, e2⟩ := List.mem_iff_getElem.mp hq
    have hjl := (List.getElem?_eq_some_iff.mp hj).1
    have e3 : μ[j] = (a, Ob.ls ds) := (List.getElem?_eq_some_iff.mp hj).2
    rw [List.getElem_eraseIdx] at e2
    have inj : ∀ (x : Nat) (hxl : x < μ.length), μ[x].1 = a → x = j := fun x hxl hxa => by
      have e4 : (rt μ)[x]'(by simpa using hxl) = (rt μ)[j]'(by simpa using hjl) := by simp [rt, hxa, e3]
      exact (List.getElem_inj st.own.nd).mp e4
    split at e2
    · have := inj i2 _ (by rw [e2]; exact e); omega
    · have := inj (i2 + 1) _ (by rw [e2]; exact e); omega
  have go : Go (rt μ) I H (rt (μ.eraseIdx j)) (upd I a (.lst xs)) H := ⟨sI, sH, fun b u e => by
    by_cases q : b = a
    · subst q; exact .inr (.inr (.inr ma))
    · rw [upd_ne q] at e; exact .inl e, fun _ _ e _ => e, fun _ e => e, fun b m => .inl (by
      obtain ⟨q, hq, e⟩ := List.mem_map.mp m
      exact List.mem_map.mpr ⟨q, sub q hq, e⟩)⟩
  have ow : Owns K (upd I a (.lst xs)) H (μ.eraseIdx j) := ⟨st.own.nd.sublist ((List.eraseIdx_sublist μ j).map _), fun q hq => by
    obtain ⟨h1, h2⟩ := st.own.ok q (sub q hq)
    have ne : q.1 ≠ a := fun e => nr (List.mem_map.mpr ⟨q, hq, e⟩)
    refine ⟨?_, obok_same sI (fun o e => e) h2⟩
    cases t2 : q.2.isTp with
    | true =>
      cases hq2 : q.2 with
      | tp ss => trivial
      | _ => rw [hq2] at t2; cases t2
    | false => exact fre_of (by rw [upd_ne ne]; exact fre_none h1 t2)⟩
  exact ⟨.ref a, ho, k _ _ _ _ H ⟨go, sl_dat (.lst upd_same (dpa_same sI hd)), ow⟩ p⟩
theorem asd_of {s : Sl} {d : PyData} (h : asdF s = some d) : AsD s d := by
  cases s with
  | dat e => cases h; exact .dat _
  | val v => cases v <;> first | (cases h; done) | (cases h; exact .non)
  | any => cases h
  | scr l => cases h
theorem asds_of : ∀ {ss : List Sl} {ds : List PyData}, asdsF ss = some ds → AsDs ss ds
  | [], _, h => by cases h; exact .nil
  | s :: r, ds, h => by
    unfold asdsF at h
    cases e1 : asdF s with
    | none => rw [e1] at h; cases h
    | some d => cases e2 : asdsF r with
      | none => rw [e1, e2] at h; cases h
      | some es => rw [e1, e2] at h; cases h; exact .cons (asd_of e1) (asds_of e2)
theorem EvA.mono {ta : TA} {P P' : List Sl → Mu → Prop} (h : EvA K ta δ μ P) (m : ∀ s μ', P s μ' → P' s μ') : EvA K ta δ μ P' := fun I H σ Q st k => h I H σ Q st fun v s μ' I' H' a b c p => k v s μ' I' H' a b c (m _ _ p)
theorem ev_tupA {ta : TA} (h : EvA K ta δ μ fun ss μ1 => ∃ ds, asdsF ss = some ds ∧ ds.length ≤ sizeLine ∧ P (.dat (.tuple ds)) μ1) : EvC K (tTup ta) δ μ P := ev_tup (h.mono fun _ _ ⟨ds, h1, h2, h3⟩ => ⟨ds, asds_of h1, h2, h3⟩)
theorem ev_lstA {ta : TA} (h : EvA K ta δ μ fun ss μ1 => ∃ ds, asdsF ss = some ds ∧ ds.length ≤ sizeLine ∧ P (.dat (.list ds)) μ1) : EvC K (tLst ta) δ μ P := ev_lst (h.mono fun _ _ ⟨ds, h1, h2, h3⟩ => ⟨ds, asds_of h1, h2, h3⟩)
theorem ev_lstC {ta : TE} {tr : TA} (h : EvA K (tCons ta tr) δ μ fun ss μ1 => ∃ ds, asdsF ss = some ds ∧ ds.length ≤ sizeLine ∧ P (.dat (.list ds)) μ1) : EvC K (tLst (tCons ta tr)) δ μ P := ev_lstA h
theorem ev_nilO (h : ∀ p, P (.val (.ref p)) ((p, .ls []) :: μ)) : EvC K (tLst tNil) δ μ P := ev_lstO (ea_nil ⟨[], .nil, Nat.zero_le _, h⟩)
theorem ev_nilD (h : P (.dat (.list [])) μ) : EvC K (tLst tNil) δ μ P := ev_lst (ea_nil ⟨[], .nil, Nat.zero_le _, h⟩)
theorem tgs_consD {g : TG} {gs : TGs} {d : PyData} {ds : List PyData} {P : List Sl → Mu → Prop} (h : TgA K g (.dat d) δ μ fun δ' μ' => TgsA K gs (List.map Sl.dat ds) δ' μ' P) : TgsA K (gCons g gs) (List.map Sl.dat (d :: ds)) δ μ P := tgs_cons h
theorem tgs_nilD {P : List Sl → Mu → Prop} (h : P δ μ) : TgsA K gNil (List.map Sl.dat []) δ μ P := tgs_nil h
theorem rangeD_map (n : Nat) : rangeD 0 n = (List.range n).map fun k => .int ((0 : Int) + (k : Nat)) := rfl
/-- the holdings, the ways -/
theorem dic_held {a : Addr} {h : HeldT} (k : SS) (m : (a, Ob.dt (hdE h)) ∈ μ) : DicS μ a (pairD k) ((valD h k).map stk) := by
  rw [← held_val]
  exact DicS.t (pairK k) m
theorem dic_way {a : Addr} {w : WayT} (t : Int) (m : (a, Ob.dk (wyE w)) ∈ μ) : DicS μ a (.int t) ((valD w t).map stk) := by
  rw [← way_val]
  exact DicS.k (.inl t) m
def sortI (l : List Int) : List Int := l.mergeSort fun a b => decide (a ≤ b)
theorem dic_held' {a : Addr} {h : HeldT} {k : SS} {s : List Int} (hk : valD h k = some s) (m : (a, Ob.dt (hdE h)) ∈ μ) : DicS μ a (pairD k) (some (stk s)) := by
  have := dic_held k m
  rwa [hk] at this
theorem dic_way' {a : Addr} {w : WayT} {t : Int} {s : List Int} (hk : valD w t = some s) (m : (a, Ob.dk (wyE w)) ∈ μ) : DicS μ a (.int t) (some (stk s)) := by
  have := dic_way t m
  rwa [hk] at this
theorem range0 {n k : Nat} {d : PyData} (h : (rangeD 0 n)[k]? = some d) : k < n ∧ d = .int (k : Nat) := by
  obtain ⟨h1, h2⟩ := rangeD_get h
  exact ⟨h1, by rw [h2, Int.zero_add]⟩
theorem sortI_eq {ys ks : List Int} (h1 : ys.Perm ks) (h2 : ys.Pairwise (· ≤ ·)) : ys = sortI ks := by
  have p : ys.Perm (sortI ks) := h1.trans (List.mergeSort_perm ks _).symm
  have s : (sortI ks).Pairwise (· ≤ ·) := by
    have := List.pairwise_mergeSort (le := fun a b : Int => decide (a ≤ b)) (fun a b c h1 h2 => by simp at *; omega) (fun a b => by simp; omega) ks
    exact this.imp fun h => of_decide_eq_true h
  exact p.eq_of_pairwise (fun a b _ _ h1 h2 => Int.le_antisymm h1 h2) h2 s
theorem sortI_perm (ks : List Int) : (sortI ks).Perm ks := List.mergeSort_perm ks _
theorem sortK_perm (ks : List SS) : (sortK ks).Perm ks := List.mergeSort_perm ks _
theorem ca_sortW {a : Addr} {w : WayT} (hm : (a, Ob.dk (wyE w)) ∈ μ) (hl : w.length < 64) (p : P (.dat (.list ((sortI (w.map (·.1))).map .int))) μ) : CaA K rSortDI [.val (.ref a)] μ P :=
  ca_sortDI (ks := w.map (·.1)) hm (by simp) (by simpa using hl) fun ys h1 h2 => by rw [sortI_eq h1 h2]; exact p
theorem ca_sortH {a : Addr} {h : HeldT} (hm : (a, Ob.dt (hdE h)) ∈ μ) (hl : h.length ≤ 1000) (p : P (.dat (.list ((sortK (h.map (·.1))).map pairD))) μ) : CaA K rSortDT [.val (.ref a)] μ P :=
  ca_sortDT (ks := h.map (·.1)) hm (by simp) (by simpa using hl) p
theorem op_repz {n : Nat} (h1 : 1 ≤ n) (h2 : n ≤ 1000) (p : P (.dat (stk (zr n))) μ) : OpA K (rRepA K) (.dat (.tuple [.int 0])) (.dat (.int n)) μ P := op_rep0 h1 h2 (by rw [zr_map]; exact p)
theorem op_repx {x y : Int} {n : Nat} (hx : x = 0) (hy : y = n) (h1 : 1 ≤ n) (h2 : n ≤ 1000) (p : P (.dat (stk (zr n))) μ) : OpA K (rRepA K) (.dat (.tuple [.int x])) (.dat (.int y)) μ P := by subst hx hy; exact op_repz h1 h2 p
theorem ca_lenM {α : Type} {g : α → PyData} {l : List α} (p : P (.dat (.int l.length)) μ) : CaA K (rLenQ K) [.dat (.tuple (l.map g))] μ P := ca_len (.tup _) (by rw [List.length_map]; exact p)
theorem ca_lenO {α : Type} {a : Addr} {g : α → PyData} {l : List α} (hm : (a, Ob.ls (l.map g)) ∈ μ) (p : P (.dat (.int l.length)) μ) : CaA K (rLenQ K) [.val (.ref a)] μ P := ca_len (.own hm) (by rw [List.length_map]; exact p)
theorem ca_lenL {α : Type} {g : α → PyData} {l : List α} (p : P (.dat (.int l.length)) μ) : CaA K (rLenQ K) [.dat (.list (l.map g))] μ P := ca_len (.lst _) (by rw [List.length_map]; exact p)
theorem at_map {α : Type} {g : α → PyData} {l : List α} {m : Nat} {x : α} (h : l[m]? = some x) : atI (l.map g) (m : Int) = some (g x) := atI_nat (by rw [List.getElem?_map, h]; rfl)
theorem at_map0 {α : Type} {g : α → PyData} {l : List α} {m : Nat} {x : α} (h : l[m]? = some x) : atI (l.map g) ((0 : Int) + (m : Nat)) = some (g x) := by rw [Int.zero_add]; exact at_map h
theorem of_map {α : Type} {g : α → PyData} {l : List α} {k : Nat} {d : PyData} (h : (l.map g)[k]? = some d) : ∃ x, l[k]? = some x ∧ d = g x := by
  rw [List.getElem?_map] at h
  cases e : l[k]? with
  | none => rw [e] at h; cases h
  | some x => rw [e] at h; cases h; exact ⟨x, rfl, rfl⟩
end
end K81
/-! ## F1 -/
set_option Elab.async false
set_option linter.all false
set_option maxRecDepth 100000
set_option maxHeartbeats 4000000
namespace K81
open PySem PySem.Spec PyProof.Rows L2
local macro_rules | `(tactic| walk_at "asd") => `(tactic| first | exact AsD.dat _ | exact AsD.non)
local macro_rules | `(tactic| walk_at "asds") => `(tactic| ((repeat (refine AsDs.cons (by walk_at "asd") ?_)); exact AsDs.nil))
local macro_rules | `(tactic| walk_at "len") => `(tactic| exact sz_of (Nat.le_of_ble_eq_true rfl))
local macro_rules | `(tactic| walk_at "mem") => `(tactic| first | exact List.Mem.head _ | exact List.Mem.tail _ (List.Mem.head _) | exact List.Mem.tail _ (List.Mem.tail _ (List.Mem.head _)) | exact List.Mem.tail _ (List.Mem.tail _ (List.Mem.tail _ (List.Mem.head _))) | exact List.Mem.tail _ (List.Mem.tail _ (List.Mem.tail _ (List.Mem.tail _ (List.Mem.head _)))) | exact List.Mem.tail _ (List.Mem.tail _ (List.Mem.tail _ (List.Mem.tail _ (List.Mem.tail _ (List.Mem.head _))))) | exact List.Mem.tail _ (List.Mem.tail _ (List.Mem.tail _ (List.Mem.tail _ (List.Mem.tail _ (List.Mem.tail _ (List.Mem.head _)))))))
local macro_rules | `(tactic| walk_at "rd0") => `(tactic| first
  | ((with_reducible refine' ev_var ?h ?n ?_); (case h => rfl); (case n => exact fun z => nomatch z))
  | (with_reducible refine' ev_int ?_)
  | (with_reducible refine' ev_str ?_)
  | (with_reducible refine' ev_bl ?_)
  | (with_reducible refine' ev_non ?_)
  | (with_reducible refine' ev_val ?_)
  | (with_reducible refine' ev_op ?_)
  | (with_reducible refine' ev_un ?_)
  | (with_reducible refine' ev_cb ?_)
  | (with_reducible refine' ea_nil ?_)
  | (with_reducible refine' ea_cons ?_)
  | (with_reducible refine' ex_seq ?_)
  | (with_reducible refine' ex_ret ?_)
  | (with_reducible refine' ex_drop ?_)
  | (with_reducible refine' ex_asg ?_)
  | ((with_reducible refine' tg_name ?_); (try dsimp only [List.set, List.cons_append, List.nil_append, List.replicate, wipeS, List.map]))
  | (with_reducible refine' et_b ?_)
  | (with_reducible refine' et_not ?_)
  | (with_reducible refine' et_and ?_)
  | (with_reducible refine' et_or ?_)
  | (with_reducible refine' ev_isN ?_)
  | (with_reducible refine' ev_notN ?_)
  | (with_reducible refine' ev_notV ?_)
  | (with_reducible refine' ev_andV ?_)
  | (with_reducible refine' ev_orV ?_)
  | (with_reducible refine' ev_chain ?_)
  | (with_reducible refine' cP ?_)
  | (with_reducible refine' op_ii ?_)
  | (with_reducible refine' op_iib ?_)
  | (with_reducible refine' un_ii ?_)
  | (with_reducible refine' ca_int ?_)
  | (with_reducible refine' ei_rng1 ?_)
  | (with_reducible refine' ei_list ?_)
  | (with_reducible refine' ei_tup ?_)
  | (with_reducible refine' ei_str ?_)
  | (with_reducible refine' ev_tupA ?_)
  | (with_reducible refine' ev_lstC ?_)
  | (with_reducible refine' ev_split ?_)
  | (with_reducible refine' ev_append ?_)
  | (with_reducible refine' ev_join ?_)
  | (with_reducible refine' ev_slL ?_)
  | (with_reducible refine' ev_slT ?_)
  | (with_reducible refine' eo_none ?_)
  | (with_reducible refine' eo_some ?_)
  | (with_reducible refine' ca_lenM ?_)
  | (with_reducible refine' ca_lenL ?_)
  | (with_reducible refine' ca_len (.tup _) ?_)
  | (with_reducible refine' ca_len (.lst _) ?_)
  | (with_reducible refine' ca_lenS ?_)
  | ((with_reducible refine' ca_tup (.own ?hm) ?_); (case hm => walk_at "mem"))
  | ((with_reducible refine' ca_lenO ?hm ?_); (case hm => walk_at "mem"))
  | ((with_reducible refine' ca_len (.own ?hm) ?_); (case hm => walk_at "mem"))
  | (with_reducible refine' ca_tup (.lst _) ?_)
  | (with_reducible refine' ca_tup (.scr _) ?_)
  | (with_reducible refine' ev_listRg ?_)
  | (with_reducible refine' er_1 ?_)
  | ((with_reducible refine' ca_lenD ?hm ?_); (case hm => walk_at "mem"))
  | ((with_reducible refine' ca_isi ?h ?_); (case h => rfl))
  | ((with_reducible refine' ca_lenT ?h ?_); (case h => exact sz_of (by omega)))
  | (with_reducible refine' ev_fld (by assumption) (by assumption) ?_)
  | (with_reducible refine' ca_abs ?_)
  | (with_reducible refine' ca_max ?_)
  | (with_reducible refine' ca_min ?_)
  | (with_reducible refine' ca_strAT ?_)
  | (with_reducible refine' ex_next ?_)
  | (with_reducible refine' ex_cont ?_)
  | (with_reducible refine' ex_brk ?_)
  | (with_reducible refine' ex_retN ?_)
  | (with_reducible refine' ex_for ?_)
  | (with_reducible refine' ei_rng2 ?_)
  | (with_reducible refine' et_test ?_)
  | (with_reducible refine' tgs_consD ?_)
  | (with_reducible refine' tgs_nilD ?_)
  | (with_reducible refine' tgs_cons ?_)
  | (with_reducible refine' tgs_nil ?_)
  | (with_reducible refine' tg_tup rfl ?_)
  | ((with_reducible refine' op_ixT (at_map ?h) ?_); (case h => assumption))
  | ((with_reducible refine' op_ixT ?h ?_); (case h => first | rfl | exact ev_at1 _ | exact ev_at2 _))
  | ((with_reducible refine' op_ixL (at_map ?h) ?_); (case h => assumption))
  | ((with_reducible refine' op_ixL ?h ?_); (case h => rfl))
  | ((with_reducible refine' op_iiC ?h ?_); (case h => first | (show (0 : Int) < _; decide) | (show (0 : Int) < _; omega) | exact Or.inr ⟨by decide, by decide⟩ | exact ⟨by decide, by decide⟩ | exact ⟨by decide, by decide, by decide⟩ | exact ⟨by omega, by omega⟩))
  | (with_reducible refine' op_eqi ?_)
  | (with_reducible refine' op_nei ?_)
  | ((with_reducible refine' op_eqs ?h1 ?h2 ?_); (case h1 => first | assumption | decide +kernel); (case h2 => first | assumption | decide +kernel))
  | ((with_reducible refine' op_nes ?h1 ?h2 ?_); (case h1 => first | assumption | decide +kernel); (case h2 => first | assumption | decide +kernel))
  | ((with_reducible refine' ev_dget2 ?_))
  | ((with_reducible refine' ev_dget1 ?_))
  | ((with_reducible refine' ev_dget ?_))
  | ((with_reducible refine' ev_din ?_))
  | ((with_reducible refine' ev_dnotin ?_))
  | ((with_reducible refine' ev_dpop ?_))
  | (refine ⟨_, rfl, ?_⟩)
  | (refine ⟨_, _, _, rfl, (by walk_at "mem"), rfl, ?_⟩)
  | (refine ⟨_, _, rfl, (by walk_at "mem"), rfl, ?_⟩)
  | (refine ⟨.inl ⟨_, (by walk_at "mem")⟩, ?_⟩)
  | (refine ⟨.inr ⟨_, (by walk_at "mem")⟩, ?_⟩)
  | (refine ⟨⟨_, (by walk_at "mem")⟩, ?_⟩)
  | (refine ⟨(by walk_at "len"), ?_⟩)
  | (refine ⟨_, .dat _, ?_⟩)
  | (refine ⟨_, .lst _, ?_⟩)
  | (refine ⟨_, .scr _, ?_⟩)
  | ((with_reducible refine' op_repx ?hx ?hy ?h1 ?h2 ?_); (case hx => rfl); (case hy => rfl); (case h1 => first | assumption | omega); (case h2 => first | omega | exact Nat.le_trans (m := 6) (by assumption) (by decide)))
  | (refine ⟨fun _ => ?_, fun h => absurd h (by decide +kernel)⟩)
  | (refine ⟨fun h => absurd h (by decide +kernel), fun _ => ?_⟩))
local macro_rules | `(tactic| walk_at "subl") => `(tactic| first | exact List.Sublist.refl _ | exact List.nil_sublist _ | (refine List.Sublist.cons_cons _ ?_; walk_at "subl") | (refine List.Sublist.cons _ ?_; walk_at "subl"))
local macro_rules | `(tactic| walk_at "finA") => `(tactic| (refine' ⟨?o, ?n, ?hl, ?hs, ?hp⟩; (case hp => assumption); (case hl => rfl); (case hs => walk_at "subl")))
local macro_rules | `(tactic| walk_at "fin") => `(tactic| exact ⟨_, .refl _, by assumption⟩)
local macro_rules | `(tactic| walk_at "rd") => `(tactic| first | walk_at "rd0" | (with_reducible refine' ex_if ?_) | (with_reducible refine' ev_if ?_))
local macro_rules | `(tactic| walk_at "rds0") => `(tactic| repeat walk_at "rd0")
local macro_rules | `(tactic| walk_at "rds") => `(tactic| repeat walk_at "rd")
def Hold (P : Prop) (_ : P) : Prop := P
theorem getit {P : Prop} {h : P} : Hold P h := h
/-! stocks -/
def addS (a b : List Int) : List Int := List.zipWith (· + ·) a b
def subS (a b : List Int) : List Int := List.zipWith (· - ·) a b
def maxS (a b : List Int) : List Int := List.zipWith (fun x y => if y > x then y else x) a b
def bad (x y : Int) : Bool := x != -1 && (y == -1 || decide (x < y))
def covF (a b : List Int) : Bool := (List.zipWith bad a b).all (!·)
theorem zip_len {f : Int → Int → Int} {a b : List Int} (h : a.length = b.length) : (List.zipWith f a b).length = a.length := by simp [h]
theorem zip_map {α : Type} {f : Int → Int → α} (g : α → PyData) {a b : List Int} (h : a.length = b.length) : (List.range a.length).map (fun k => g (f (a.getD k 0) (b.getD k 0))) = (List.zipWith f a b).map g := by
  apply List.ext_getElem
  · simp [h]
  · intro i h1 h2
    have ha : i < a.length := by simpa using h1
    simp [ha, show i < b.length by omega]
theorem atI_stk {a : List Int} {k : Nat} (h : k < a.length) : atI (a.map PyData.int) ((0 : Int) + (k : Nat)) = some (.int (a.getD k 0)) := by
  rw [Int.zero_add]
  exact atI_nat (by simp [h])
theorem bne_int (x y : Int) : (!decide (x = y)) = (x != y) := by
  by_cases h : x = y <;> simp [h]
def fPlus : PSp := fun ss P => ∃ a b, ss = [.dat (stk a), .dat (stk b)] ∧ a.length = b.length ∧ a.length ≤ 100 ∧ P (.dat (stk (addS a b)))
abbrev NPlus : List Str := ["stock", "other", "k"]
theorem scPlus : FnScope NPlus ["stock", "other"] (defScope sPlus) := ⟨rfl, rfl, rfl, by decide +kernel, rfl, by decide +kernel, by decide +kernel⟩
abbrev OkPlus (P : Program) (w : World) (K : PySem.W.Frag) (mg : Str → Option Value) (base : Heap) : Prop := OkG P w K mg base "plus" 1 ["stock", "other"] (spP K 2 fPlus)
theorem ok_Plus {P : Program} {w : World} {K : PySem.W.Frag} {mg : Str → Option Value} {base : Heap} (T : Tx K mg)  : OkPlus P w K mg base :=
  (by exact getit : Hold (OkPlus P w K mg base) (by
    have S := scPlus
    refine okG_p (m := 1) T.gPlus T.fPlus S rfl rfl (fun _ _ _ _ _ _ us hl => match us, hl with | [_, _], _ => rfl) fun cdv A outer s H E hr => ⟨_,
      (pss_one (ps_ret (pe_callTy (k_tup (K := K) rfl) (by rfl) T.b_tuple (by decide +kernel) (pa_cons (pe_lc (own := [("k", 2)]) (tt := tYes) rfl S.nd (pi_range1 (by rfl) T.b_range (pa_cons (pe_callB (k_len (K := K) rfl) (by rfl) T.b_len (by decide +kernel) (pa_cons (pv 0) pa_nil)) pa_nil)) (blkOk_by (N := NPlus) (sc := defScope sPlus) (by decide +kernel)) (fun _ _ _ _ _ => (pg_name (i := 2) S.nd rfl (Or.inl rfl))) (fun _ _ _ _ _ => pts_nil) (fun _ _ _ _ _ => (pe_op op_add (pe_ix (k_ixT (K := K) rfl) (pv 0) (pv 2) (fun _ _ => rfl)) (pe_ix (k_ixT (K := K) rfl) (pv 1) (pv 2) (fun _ _ => rfl))))) pa_nil)))), ?_⟩
    rintro ss P' ⟨a, b, rfl, hl, h100, p⟩
    walk_at "rds"
    refine lc_map (by decide) (fun k => .int (a.getD k 0 + b.getD k 0)) ?_
    walk_at "rds"
    rw [rangeD_len]
    refine ⟨by omega, by omega, fun k d hd => ?_, ?_⟩
    · obtain ⟨hk, rfl⟩ := rangeD_get hd
      walk_at "rds"
      refine op_ixT (atI_stk hk) ?_
      walk_at "rds"
      refine op_ixT (atI_stk (by omega)) ?_
      walk_at "rds"
      exact ⟨.dat _, rfl⟩
    · walk_at "rds"
      refine ⟨_, .refl _, ?_⟩
      rw [zip_map (f := fun x y => x + y) .int hl]
      exact p))
def fLess : PSp := fun ss P => ∃ a b, ss = [.dat (stk a), .dat (stk b)] ∧ a.length = b.length ∧ a.length ≤ 100 ∧ P (.dat (stk (subS a b)))
abbrev NLess : List Str := ["stock", "other", "k"]
theorem scLess : FnScope NLess ["stock", "other"] (defScope sLess) := ⟨rfl, rfl, rfl, by decide +kernel, rfl, by decide +kernel, by decide +kernel⟩
abbrev OkLess (P : Program) (w : World) (K : PySem.W.Frag) (mg : Str → Option Value) (base : Heap) : Prop := OkG P w K mg base "less" 1 ["stock", "other"] (spP K 2 fLess)
theorem ok_Less {P : Program} {w : World} {K : PySem.W.Frag} {mg : Str → Option Value} {base : Heap} (T : Tx K mg)  : OkLess P w K mg base :=
  (by exact getit : Hold (OkLess P w K mg base) (by
    have S := scLess
    refine okG_p (m := 1) T.gLess T.fLess S rfl rfl (fun _ _ _ _ _ _ us hl => match us, hl with | [_, _], _ => rfl) fun cdv A outer s H E hr => ⟨_,
      (pss_one (ps_ret (pe_callTy (k_tup (K := K) rfl) (by rfl) T.b_tuple (by decide +kernel) (pa_cons (pe_lc (own := [("k", 2)]) (tt := tYes) rfl S.nd (pi_range1 (by rfl) T.b_range (pa_cons (pe_callB (k_len (K := K) rfl) (by rfl) T.b_len (by decide +kernel) (pa_cons (pv 0) pa_nil)) pa_nil)) (blkOk_by (N := NLess) (sc := defScope sLess) (by decide +kernel)) (fun _ _ _ _ _ => (pg_name (i := 2) S.nd rfl (Or.inl rfl))) (fun _ _ _ _ _ => pts_nil) (fun _ _ _ _ _ => (pe_op op_sub (pe_ix (k_ixT (K := K) rfl) (pv 0) (pv 2) (fun _ _ => rfl)) (pe_ix (k_ixT (K := K) rfl) (pv 1) (pv 2) (fun _ _ => rfl))))) pa_nil)))), ?_⟩
    rintro ss P' ⟨a, b, rfl, hl, h100, p⟩
    walk_at "rds"
    refine lc_map (by decide) (fun k => .int (a.getD k 0 - b.getD k 0)) ?_
    walk_at "rds"
    rw [rangeD_len]
    refine ⟨by omega, by omega, fun k d hd => ?_, ?_⟩
    · obtain ⟨hk, rfl⟩ := rangeD_get hd
      walk_at "rds"
      refine op_ixT (atI_stk hk) ?_
      walk_at "rds"
      refine op_ixT (atI_stk (by omega)) ?_
      walk_at "rds"
      exact ⟨.dat _, rfl⟩
    · walk_at "rds"
      refine ⟨_, .refl _, ?_⟩
      rw [zip_map (f := fun x y => x - y) .int hl]
      exact p))
def fGreater : PSp := fun ss P => ∃ a b, ss = [.dat (stk a), .dat (stk b)] ∧ a.length = b.length ∧ a.length ≤ 100 ∧ P (.dat (stk (maxS a b)))
abbrev NGreater : List Str := ["stock", "other", "k"]
theorem scGreater : FnScope NGreater ["stock", "other"] (defScope sGreater) := ⟨rfl, rfl, rfl, by decide +kernel, rfl, by decide +kernel, by decide +kernel⟩
abbrev OkGreater (P : Program) (w : World) (K : PySem.W.Frag) (mg : Str → Option Value) (base : Heap) : Prop := OkG P w K mg base "greater" 1 ["stock", "other"] (spP K 2 fGreater)
theorem ok_Greater {P : Program} {w : World} {K : PySem.W.Frag} {mg : Str → Option Value} {base : Heap} (T : Tx K mg)  : OkGreater P w K mg base :=
  (by exact getit : Hold (OkGreater P w K mg base) (by
    have S := scGreater
    refine okG_p (m := 1) T.gGreater T.fGreater S rfl rfl (fun _ _ _ _ _ _ us hl => match us, hl with | [_, _], _ => rfl) fun cdv A outer s H E hr => ⟨_,
      (pss_one (ps_ret (pe_callTy (k_tup (K := K) rfl) (by rfl) T.b_tuple (by decide +kernel) (pa_cons (pe_lc (own := [("k", 2)]) (tt := tYes) rfl S.nd (pi_range1 (by rfl) T.b_range (pa_cons (pe_callB (k_len (K := K) rfl) (by rfl) T.b_len (by decide +kernel) (pa_cons (pv 0) pa_nil)) pa_nil)) (blkOk_by (N := NGreater) (sc := defScope sGreater) (by decide +kernel)) (fun _ _ _ _ _ => (pg_name (i := 2) S.nd rfl (Or.inl rfl))) (fun _ _ _ _ _ => pts_nil) (fun _ _ _ _ _ => (pe_callB (call_maxQ rfl) (by rfl) T.b_max (by decide +kernel) (pa_cons (pe_ix (k_ixT (K := K) rfl) (pv 0) (pv 2) (fun _ _ => rfl)) (pa_cons (pe_ix (k_ixT (K := K) rfl) (pv 1) (pv 2) (fun _ _ => rfl)) pa_nil))))) pa_nil)))), ?_⟩
    rintro ss P' ⟨a, b, rfl, hl, h100, p⟩
    walk_at "rds"
    refine lc_map (by decide) (fun k => .int (if b.getD k 0 > a.getD k 0 then b.getD k 0 else a.getD k 0)) ?_
    walk_at "rds"
    rw [rangeD_len]
    refine ⟨by omega, by omega, fun k d hd => ?_, ?_⟩
    · obtain ⟨hk, rfl⟩ := rangeD_get hd
      walk_at "rds"
      refine op_ixT (atI_stk hk) ?_
      walk_at "rds"
      refine op_ixT (atI_stk (by omega)) ?_
      walk_at "rds"
      exact ⟨.dat _, rfl⟩
    · walk_at "rds"
      refine ⟨_, .refl _, ?_⟩
      rw [zip_map (f := fun x y => if y > x then y else x) .int hl]
      exact p))
def fCovers : PSp := fun ss P => ∃ a b, ss = [.dat (stk a), .dat (stk b)] ∧ a.length = b.length ∧ a.length ≤ 100 ∧ P (.dat (.bool (covF a b)))
theorem bad_get {a b : List Int} {k : Nat} (h : k < a.length) (hl : a.length = b.length) : (List.zipWith bad a b).take (k + 1) = (List.zipWith bad a b).take k ++ [bad (a.getD k 0) (b.getD k 0)] := by
  rw [List.take_add_one]
  congr 1
  simp [List.getElem?_zipWith, h, show k < b.length by omega]
theorem bne_dec (x y : Int) : (!decide (x = y)) = (x != y) := by by_cases h : x = y <;> simp [h]
theorem beq_dec (x y : Int) : decide (x = y) = (x == y) := by by_cases h : x = y <;> simp [h]
abbrev NCovers : List Str := ["stock", "other", "k"]
theorem scCovers : FnScope NCovers ["stock", "other"] (defScope sCovers) := ⟨rfl, rfl, rfl, by decide +kernel, rfl, by decide +kernel, by decide +kernel⟩
abbrev OkCovers (P : Program) (w : World) (K : PySem.W.Frag) (mg : Str → Option Value) (base : Heap) : Prop := OkG P w K mg base "covers" 1 ["stock", "other"] (spP K 2 fCovers)
theorem ok_Covers {P : Program} {w : World} {K : PySem.W.Frag} {mg : Str → Option Value} {base : Heap} (T : Tx K mg)  : OkCovers P w K mg base :=
  (by exact getit : Hold (OkCovers P w K mg base) (by
    have S := scCovers
    refine okG_p (m := 1) T.gCovers T.fCovers S rfl rfl (fun _ _ _ _ _ _ us hl => match us, hl with | [_, _], _ => rfl) fun cdv A outer s H E hr => ⟨_,
      (pss_cons (ps_for PassesOwn.never rfl (pi_range1 (by rfl) T.b_range (pa_cons (pe_callB (k_len (K := K) rfl) (by rfl) T.b_len (by decide +kernel) (pa_cons (pv 0) pa_nil)) pa_nil)) (pg_name (i := 2) S.nd rfl (Or.inl rfl)) (pss_one (ps_if (PW.pt (pw_and (pt_cmpR (k_ne (K := K) rfl hr.units) (pe_ix (k_ixT (K := K) rfl) (pv 0) (pv 2) (fun _ _ => rfl)) (pe_un un_neg pe_int) (nomark _)) (pw_and1 (PW.pt (pw_or (pt_cmpR (k_eq (K := K) rfl hr.units) (pe_ix (k_ixT (K := K) rfl) (pv 1) (pv 2) (fun _ _ => rfl)) (pe_un un_neg pe_int) (nomark _)) (pw_or1 (pt_cmpR op_lt (pe_ix (k_ixT (K := K) rfl) (pv 0) (pv 2) (fun _ _ => rfl)) (pe_ix (k_ixT (K := K) rfl) (pv 1) (pv 2) (fun _ _ => rfl)) (nomark _)))))))) (pss_one (ps_ret pe_bl)) pss_nil)))
      (pss_one (ps_ret pe_bl))), ?_⟩
    rintro ss P' ⟨a, b, rfl, hl, h100, p⟩
    walk_at "rds"
    rw [rangeD_len]
    refine ⟨by omega, fun k δ' μ' => (∃ z, δ' = [.dat (stk a), .dat (stk b), z]) ∧ μ' = [] ∧ ((List.zipWith bad a b).take k).all (!·) = true, ⟨⟨_, rfl⟩, rfl, rfl⟩, fun k d δ' μ' hd hinv => ?_, fun δ' μ' hinv => ?_⟩
    · obtain ⟨⟨z, rfl⟩, rfl, ha⟩ := hinv
      obtain ⟨hk, rfl⟩ := rangeD_get hd
      refine tg_name ?_
      refine ex_ifP (bad (a.getD k 0) (b.getD k 0)) ?_ (fun hb => ?_) (fun hb => ?_)
      · refine et_andP (a.getD k 0 != -1) (b.getD k 0 == -1 || decide (a.getD k 0 < b.getD k 0)) ?_ (fun _ => ?_) ⟨rfl, rfl⟩
        · walk_at "rds"
          refine op_ixT (atI_stk hk) ?_
          walk_at "rds"
          exact ⟨bne_dec _ _, rfl⟩
        · refine et_orP (b.getD k 0 == -1) (decide (a.getD k 0 < b.getD k 0)) ?_ (fun _ => ?_) ⟨rfl, rfl⟩
          · walk_at "rds"
            refine op_ixT (atI_stk (by omega)) ?_
            walk_at "rds"
            exact ⟨beq_dec _ _, rfl⟩
          · walk_at "rds"
            refine op_ixT (atI_stk hk) ?_
            walk_at "rds"
            refine op_ixT (atI_stk (by omega)) ?_
            walk_at "rds"
            exact ⟨rfl, rfl⟩
      · walk_at "rds"
        have e : covF a b = false := by
          unfold covF
          rw [List.all_eq_false]
          refine ⟨true, ?_, by simp⟩
          rw [List.mem_iff_getElem]
          refine ⟨k, by simp; omega, ?_⟩
          simp only [List.getD_eq_getElem?_getD] at hb
          simpa [hk, show k < b.length by omega] using hb
        rw [e] at p
        walk_at "fin"
      · walk_at "rds"
        refine ⟨⟨_, rfl⟩, rfl, ?_⟩
        rw [bad_get hk hl, List.all_append, ha, hb]
        rfl
    · obtain ⟨⟨z, rfl⟩, rfl, ha⟩ := hinv
      walk_at "rds"
      have e : covF a b = true := by
        unfold covF
        rw [← ha, List.take_of_length_le (by simp; omega)]
      rw [e] at p
      walk_at "fin"))
/-! ## M1 -/
/-! Plain: what histories do. -/
structure Rw where
  taker : Option SS
  take : List Int
  getter : Option SS
  give : List Int
abbrev plD : Option SS → PyData
  | none => .none
  | some k => pairD k
abbrev rowD (r : Rw) : PyData := .tuple [plD r.taker, stk r.take, plD r.getter, stk r.give]
def getH (h : HeldT) (k : SS) (n : Nat) : List Int := (valD h k).getD (zr n)
theorem getH_dat (h : HeldT) (k : SS) (n : Nat) : ((valD h k).map stk).getD (stk (zr n)) = stk (getH h k n) := by
  unfold getH
  cases valD h k <;> rfl
def posF (h : HeldT) (r : Rw) : Bool :=
  match r.taker with
  | none => true
  | some k => covF (getH h k r.take.length) r.take
def carT (h : HeldT) (r : Rw) : HeldT :=
  match r.taker with
  | none => h
  | some k => putD h k (subS (getH h k r.take.length) r.take)
def carF (h : HeldT) (r : Rw) : HeldT :=
  match r.getter with
  | none => carT h r
  | some k => putD (carT h r) k (addS (getH (carT h r) k r.give.length) r.give)
def shownF (h : HeldT) : HeldT := ((sortK (h.map (·.1))).filter fun k => ((valD h k).getD []).any (· != 0)).map fun k => (k, (valD h k).getD [])
abbrev shD (l : HeldT) : PyData := .tuple (l.map fun p => .tuple [.str p.1.1, .str p.1.2, stk p.2])
def wayF (w : WayT) : WayT := (sortI (w.map (·.1))).map fun t => (t, (valD w t).getD [])
abbrev wayD (l : WayT) : PyData := .tuple (l.map fun p => .tuple [.int p.1, stk p.2])
def sentF : List Ev → Int → Option (List Int)
  | [], _ => none
  | .send _ _ t g :: r, u => if t = u then some g else sentF r u
  | .make _ _ _ _ :: r, u => sentF r u
  | .hand _ _ _ _ :: r, u => sentF r u
  | .land _ _ _ :: r, u => sentF r u
  | .forge _ _ _ :: r, u => sentF r u
def flowG (b : Bk) (f : Int → List Int) : Ev → Rw
  | .make s p m g => ⟨some (s, p), (b.ms[m]?.map Mv.tk).getD [], some (s, p), g⟩
  | .hand s p o g => ⟨some (s, p), g, some (s, o), g⟩
  | .send s p _ g => ⟨some (s, p), g, none, zr b.n⟩
  | .land s p t => ⟨none, zr b.n, some (s, p), f t⟩
  | .forge s p g => ⟨none, zr b.n, some (s, p), g⟩
structure Wd where
  held : HeldT
  way : WayT
  tks : List Int
def flowF (b : Bk) (h : List Ev) (e : Ev) : Rw := flowG b (fun t => (sentF h t).getD []) e
def flowW (b : Bk) (w : Wd) (e : Ev) : Rw := flowG b (fun t => (valD w.way t).getD []) e
def wayE (w : WayT) : Ev → WayT
  | .send _ _ t g => putD w t g
  | .land _ _ t => dropD w t
  | _ => w
def tksE (l : List Int) : Ev → List Int
  | .send _ _ t _ => l ++ [t]
  | _ => l
def stepW (b : Bk) (w : Wd) (e : Ev) : Wd := ⟨carF w.held (flowW b w e), wayE w.way e, tksE w.tks e⟩
abbrev w0 : Wd := ⟨[], [], []⟩
def runW (b : Bk) (l : List Ev) : Wd := l.foldl (stepW b) w0
theorem runW_snoc (b : Bk) (l : List Ev) (e : Ev) : runW b (l ++ [e]) = stepW b (runW b l) e := by simp [runW]
/-! ### what is well formed -/
/-- a small letter, a digit -/
def isLow (c : Nat) : Bool := decide (97 ≤ c) && decide (c ≤ 122)
def isDig (c : Nat) : Bool := decide (48 ≤ c) && decide (c ≤ 57)
structure NmOk (x : Str) : Prop where
  len : x.cps.toList.length ≤ 12
  hd : ∃ c r, x.cps.toList = c :: r ∧ isLow c = true
  all : ∀ c ∈ x.cps.toList, isLow c = true ∨ isDig c = true
  free : x ∉ (["kinds", "nothing", "endless", "x"] : List Str)
/-- a stock of n entries from 0 to M -/
def StOk (n : Nat) (M : Int) (s : List Int) : Prop := s.length = n ∧ ∀ x ∈ s, 0 ≤ x ∧ x ≤ M
structure MvOk (n : Nat) (m : Mv) : Prop where
  nm : NmOk m.nm
  tk : StOk n 1000 m.tk
  lo : StOk n 1000 m.lo
  hi : StOk n 1000 m.hi
structure BkOk (b : Bk) : Prop where
  n1 : 1 ≤ b.n
  n6 : b.n ≤ 6
  m8 : b.ms.length ≤ 8
  ks : ∀ k ∈ b.ks, NmOk k
  kd : b.ks.Nodup
  ms : ∀ m ∈ b.ms, MvOk b.n m
  md : (b.ms.map Mv.nm).Nodup
def EvOk (b : Bk) : Ev → Prop
  | .make s p m g => NmOk s ∧ NmOk p ∧ StOk b.n 1000 g ∧ ∃ mv, b.ms[m]? = some mv ∧ covF g mv.lo = true ∧ covF mv.hi g = true
  | .hand s p o g => NmOk s ∧ NmOk p ∧ NmOk o ∧ o ≠ p ∧ g.length = b.n ∧ ∀ x ∈ g, 0 ≤ x
  | .send s p t g => NmOk s ∧ NmOk p ∧ 1 ≤ t ∧ t ≤ 1000 ∧ g.length = b.n ∧ ∀ x ∈ g, 0 ≤ x
  | .land s p t => NmOk s ∧ NmOk p ∧ 1 ≤ t ∧ t ≤ 1000
  | .forge s p g => NmOk s ∧ NmOk p ∧ StOk b.n 1000 g
def FitT (w : Wd) : Ev → Prop
  | .send _ _ t _ => t ∉ w.tks
  | .land _ _ t => (valD w.way t).isSome = true
  | _ => True
structure OkE (b : Bk) (w : Wd) (e : Ev) : Prop where
  ev : EvOk b e
  ft : FitT w e
  po : posF w.held (flowW b w e) = true
structure Hist (b : Bk) (h : List Ev) : Prop where
  len : h.length ≤ 60
  ok : ∀ k e, h[k]? = some e → OkE b (runW b (h.take k)) e
theorem Hist.snoc {b : Bk} {h : List Ev} {e : Ev} (H : Hist b h) (hl : h.length < 60) (ok : OkE b (runW b h) e) : Hist b (h ++ [e]) := by
  refine ⟨by simp; omega, fun k e' hk => ?_⟩
  by_cases hlt : k < h.length
  · rw [List.getElem?_append_left hlt] at hk
    rw [List.take_append_of_le_length (by omega)]
    exact H.ok k e' hk
  · have hk2 : k = h.length := by
      have := (List.getElem?_eq_some_iff.mp hk).1
      simp at this
      omega
    subst hk2
    simp at hk
    subst hk
    rw [List.take_left]
    exact ok
theorem Hist.nil {b : Bk} : Hist b [] := ⟨by simp, fun k e h => by simp at h⟩
theorem Hist.take {b : Bk} {h : List Ev} (H : Hist b h) (k : Nat) : Hist b (h.take k) := by
  refine ⟨by rw [List.length_take]; have := H.len; omega, fun j e hj => ?_⟩
  have hjk : j < k := by
    have := (List.getElem?_eq_some_iff.mp hj).1
    simp at this
    omega
  rw [List.getElem?_take_of_lt hjk] at hj
  rw [List.take_take, Nat.min_eq_left (by omega)]
  exact H.ok j e hj

/-! ### bounds -/
def Bd (k : Nat) : Int := 1000 * 2 ^ k
theorem Bd_succ (k : Nat) : Bd (k + 1) = Bd k + Bd k := by
  unfold Bd
  rw [Int.pow_succ]
  omega
theorem Bd_pos (k : Nat) : 1000 ≤ Bd k := by
  induction k with
  | zero => decide
  | succ k ih => rw [Bd_succ]; omega
theorem Bd_mono {j k : Nat} (h : j ≤ k) : Bd j ≤ Bd k := by
  induction h with
  | refl => exact Int.le_refl _
  | step h ih => rw [Bd_succ]; have := Bd_pos (by assumption); omega
theorem Bd_60 {k : Nat} (h : k ≤ 61) : Bd k < 10 ^ 25 := Int.lt_of_le_of_lt (Bd_mono h) (by decide)
theorem StOk.mono {n : Nat} {M M' : Int} {s : List Int} (h : StOk n M s) (hm : M ≤ M') : StOk n M' s := ⟨h.1, fun x hx => ⟨(h.2 x hx).1, Int.le_trans (h.2 x hx).2 hm⟩⟩
theorem stok_zr {n : Nat} {M : Int} (h : 0 ≤ M) : StOk n M (zr n) := ⟨by simp, fun x hx => by
  rw [List.eq_of_mem_replicate hx]
  exact ⟨Int.le_refl _, h⟩⟩
theorem zip_mem {f : Int → Int → Int} {a b : List Int} {z : Int} (h : z ∈ List.zipWith f a b) : ∃ (i : Nat) (x y : Int), a[i]? = some x ∧ b[i]? = some y ∧ z = f x y := by
  obtain ⟨i, hi, e⟩ := List.mem_iff_getElem.mp h
  rw [List.length_zipWith] at hi
  refine ⟨i, a[i]'(by omega), b[i]'(by omega), List.getElem?_eq_getElem _, List.getElem?_eq_getElem _, ?_⟩
  rw [← e, List.getElem_zipWith]
theorem stok_add {n : Nat} {M M' : Int} {a b : List Int} (ha : StOk n M a) (hb : StOk n M' b) : StOk n (M + M') (addS a b) := by
  refine ⟨by rw [addS, zip_len (by rw [ha.1, hb.1]), ha.1], fun z hz => ?_⟩
  obtain ⟨i, x, y, h1, h2, rfl⟩ := zip_mem hz
  have p1 := ha.2 x (List.mem_of_getElem? h1)
  have p2 := hb.2 y (List.mem_of_getElem? h2)
  omega
theorem covF_get {a b : List Int} (h : covF a b = true) {i : Nat} {x y : Int} (h1 : a[i]? = some x) (h2 : b[i]? = some y) : bad x y = false := by
  unfold covF at h
  rw [List.all_eq_true] at h
  have hm : bad x y ∈ List.zipWith bad a b := by
    refine List.mem_of_getElem? (i := i) ?_
    rw [List.getElem?_zipWith, h1, h2]
  simpa using h _ hm
theorem covF_le {a b : List Int} (h : covF a b = true) (ha : ∀ x ∈ a, 0 ≤ x) {i : Nat} {x y : Int} (h1 : a[i]? = some x) (h2 : b[i]? = some y) : y ≤ x := by
  have hb := covF_get h h1 h2
  have hx := ha x (List.mem_of_getElem? h1)
  unfold bad at hb
  by_cases c : x < y
  · have : (x != -1) = true := by simp; omega
    rw [this] at hb
    simp [c] at hb
  · omega
theorem covF_of_le {a b : List Int} (ha : ∀ x ∈ a, 0 ≤ x) (hb : ∀ x ∈ b, 0 ≤ x) (h : ∀ (i : Nat) x y, a[i]? = some x → b[i]? = some y → y ≤ x) : covF a b = true := by
  unfold covF
  rw [List.all_eq_true]
  intro z hz
  obtain ⟨i, hi, e⟩ := List.mem_iff_getElem.mp hz
  rw [List.length_zipWith] at hi
  rw [List.getElem_zipWith] at e
  have h1 : a[i]? = some (a[i]'(by omega)) := List.getElem?_eq_getElem _
  have h2 : b[i]? = some (b[i]'(by omega)) := List.getElem?_eq_getElem _
  have h3 := h i _ _ h1 h2
  have h4 := hb _ (List.mem_of_getElem? h2)
  rw [← e]
  unfold bad
  have : ¬ (a[i]'(by omega)) < (b[i]'(by omega)) := by omega
  have h5 : ¬ (b[i]'(by omega)) = -1 := by omega
  simp [this, h5]
theorem stok_sub {n : Nat} {M : Int} {a b : List Int} (ha : StOk n M a) (hl : b.length = n) (hb : ∀ x ∈ b, 0 ≤ x) (h : covF a b = true) : StOk n M (subS a b) := by
  refine ⟨by rw [subS, zip_len (by rw [ha.1, hl]), ha.1], fun z hz => ?_⟩
  obtain ⟨i, x, y, h1, h2, rfl⟩ := zip_mem hz
  have p1 := ha.2 x (List.mem_of_getElem? h1)
  have p2 := hb y (List.mem_of_getElem? h2)
  have p3 := covF_le h (fun x hx => (ha.2 x hx).1) h1 h2
  omega
theorem stok_cov {n : Nat} {M : Int} {a b : List Int} (ha : StOk n M a) (hl : b.length = n) (hb : ∀ x ∈ b, 0 ≤ x) (h : covF a b = true) : StOk n M b := by
  refine ⟨hl, fun y hy => ?_⟩
  obtain ⟨i, hi, e⟩ := List.mem_iff_getElem.mp hy
  have h1 : a[i]? = some (a[i]'(by rw [ha.1, ← hl]; exact hi)) := List.getElem?_eq_getElem _
  have h2 : b[i]? = some y := by rw [← e]; exact List.getElem?_eq_getElem _
  have p1 := ha.2 _ (List.mem_of_getElem? h1)
  have p2 := hb y hy
  have p3 := covF_le h (fun x hx => (ha.2 x hx).1) h1 h2
  omega
/-- what a run's state keeps -/
structure WdOk (b : Bk) (p : List Ev) (w : Wd) : Prop where
  held : ∀ q ∈ w.held, StOk b.n (Bd p.length) q.2
  hlen : w.held.length ≤ 2 * p.length
  way : ∀ q ∈ w.way, StOk b.n (Bd p.length) q.2
  wlen : w.way.length ≤ p.length
  wnd : (w.way.map (·.1)).Nodup
  hnd : (w.held.map (·.1)).Nodup
  sent : ∀ t s, valD w.way t = some s → sentF p t = some s
  tks : ∀ t, t ∈ w.tks ↔ (sentF p t).isSome = true
theorem sentF_app (p q : List Ev) (t : Int) : sentF (p ++ q) t = (sentF p t).or (sentF q t) := by
  induction p with
  | nil => rfl
  | cons e p ih =>
    cases e with
    | send s w u g =>
      rw [List.cons_append]
      show (if u = t then some g else sentF (p ++ q) t) = Option.or (if u = t then some g else sentF p t) _
      by_cases h : u = t
      · rw [if_pos h, if_pos h]; rfl
      · rw [if_neg h, if_neg h]; exact ih
    | _ => exact ih
theorem getH_ok {n : Nat} {M : Int} {h : HeldT} (hh : ∀ q ∈ h, StOk n M q.2) (hM : 0 ≤ M) (k : SS) : StOk n M (getH h k n) := by
  unfold getH
  cases e : valD h k with
  | none => exact stok_zr hM
  | some s => exact hh (k, s) (valD_mem e)
theorem wdok0 (b : Bk) : WdOk b [] w0 := ⟨by simp, by simp, by simp, by simp, by simp, by simp, by simp [valD], by simp [sentF]⟩
/-- the row of a fitting event -/
structure RwOk (b : Bk) (M : Int) (h : HeldT) (r : Rw) : Prop where
  tl : r.take.length = b.n
  tn : ∀ x ∈ r.take, 0 ≤ x
  gv : StOk b.n M r.give
theorem row_ok {b : Bk} {p : List Ev} {w : Wd} {e : Ev} (B : BkOk b) (W : WdOk b p w) (O : OkE b w e) : RwOk b (Bd p.length) w.held (flowW b w e) := by
  have hb := Bd_pos p.length
  obtain ⟨ev, ft, po⟩ := O
  cases e with
  | make s u m g =>
    obtain ⟨_, _, hg, mv, hm, _, _⟩ := ev
    have M := B.ms mv (List.mem_of_getElem? hm)
    have et : (flowW b w (.make s u m g)).take = mv.tk := by show ((b.ms[m]?.map Mv.tk).getD []) = _; rw [hm]; rfl
    refine ⟨by rw [et]; exact M.tk.1, fun x hx => ?_, hg.mono hb⟩
    rw [et] at hx
    exact (M.tk.2 x hx).1
  | hand s u o g =>
    obtain ⟨_, _, _, _, hl, hn⟩ := ev
    refine ⟨hl, hn, ?_⟩
    have po : covF (getH w.held (s, u) g.length) g = true := po
    rw [hl] at po
    exact stok_cov (getH_ok W.held (by omega) _) hl hn po
  | send s u t g =>
    obtain ⟨_, _, _, _, hl, hn⟩ := ev
    exact ⟨hl, hn, stok_zr (by omega)⟩
  | land s u t =>
    refine ⟨by simp [flowW, flowG], fun x hx => ?_, ?_⟩
    · rw [List.eq_of_mem_replicate hx]; exact Int.le_refl _
    · have ft : (valD w.way t).isSome = true := ft
      cases h : valD w.way t with
      | none => rw [h] at ft; cases ft
      | some g =>
        show StOk b.n _ ((valD w.way t).getD [])
        rw [h]
        exact W.way (t, g) (valD_mem h)
  | forge s u g =>
    obtain ⟨_, _, hg⟩ := ev
    refine ⟨by simp [flowW, flowG], fun x hx => ?_, hg.mono hb⟩
    rw [List.eq_of_mem_replicate hx]; exact Int.le_refl _
theorem carT_ok {b : Bk} {M : Int} {h : HeldT} {r : Rw} (hM : 0 ≤ M) (hh : ∀ q ∈ h, StOk b.n M q.2) (R : RwOk b M h r) (po : posF h r = true) : ∀ q ∈ carT h r, StOk b.n M q.2 := by
  intro q hq
  unfold carT at hq
  unfold posF at po
  cases ht : r.taker with
  | none => rw [ht] at hq; exact hh q hq
  | some k =>
    rw [ht] at hq po
    rcases putD_mem hq with e | hq
    · subst e
      have po : covF (getH h k r.take.length) r.take = true := po
      show StOk b.n M (subS (getH h k r.take.length) r.take)
      rw [R.tl] at po ⊢
      exact stok_sub (getH_ok hh hM k) R.tl R.tn po
    · exact hh q hq
theorem carF_ok {b : Bk} {M : Int} {h : HeldT} {r : Rw} (hM : 0 ≤ M) (hh : ∀ q ∈ h, StOk b.n M q.2) (R : RwOk b M h r) (po : posF h r = true) : ∀ q ∈ carF h r, StOk b.n (M + M) q.2 := by
  have h1 := carT_ok hM hh R po
  intro q hq
  unfold carF at hq
  cases hg : r.getter with
  | none => rw [hg] at hq; exact (h1 q hq).mono (by omega)
  | some k =>
    rw [hg] at hq
    rcases putD_mem hq with e | hq
    · subst e
      show StOk b.n (M + M) (addS (getH (carT h r) k r.give.length) r.give)
      rw [R.gv.1]
      exact stok_add (getH_ok h1 hM k) R.gv
    · exact (h1 q hq).mono (by omega)
theorem carF_len (h : HeldT) (r : Rw) : (carF h r).length ≤ h.length + 2 := by
  have h1 : (carT h r).length ≤ h.length + 1 := by
    unfold carT
    cases r.taker with
    | none => exact Nat.le_succ _
    | some k => exact putD_len _ _ _
  unfold carF
  cases r.getter with
  | none => exact Nat.le_succ_of_le h1
  | some k => exact Nat.le_trans (putD_len _ _ _) (Nat.succ_le_succ h1)
theorem carF_nd {h : HeldT} {r : Rw} (hn : (h.map (·.1)).Nodup) : ((carF h r).map (·.1)).Nodup := by
  have h1 : ((carT h r).map (·.1)).Nodup := by
    unfold carT
    cases r.taker with
    | none => exact hn
    | some k => exact putD_nodup hn
  unfold carF
  cases r.getter with
  | none => exact h1
  | some k => exact putD_nodup h1
theorem wdok_step {b : Bk} {p : List Ev} {w : Wd} {e : Ev} (B : BkOk b) (W : WdOk b p w) (O : OkE b w e) : WdOk b (p ++ [e]) (stepW b w e) := by
  have R := row_ok B W O
  have hb := Bd_pos p.length
  have hB : Bd (p ++ [e]).length = Bd p.length + Bd p.length := by rw [List.length_append]; exact Bd_succ _
  have wayOk : ∀ q ∈ wayE w.way e, StOk b.n (Bd (p ++ [e]).length) q.2 := by
    rw [hB]
    intro q hq
    cases e with
    | send s u t g =>
      rcases putD_mem hq with z | hq
      · subst z
        obtain ⟨_, _, _, _, hl, hn⟩ := O.ev
        have po : covF (getH w.held (s, u) g.length) g = true := O.po
        rw [hl] at po
        exact (stok_cov (getH_ok W.held (by omega) _) hl hn po).mono (by omega)
      · exact (W.way q hq).mono (by omega)
    | land s u t => exact (W.way q (dropD_mem hq)).mono (by omega)
    | make s u m g => exact (W.way q hq).mono (by omega)
    | hand s u o g => exact (W.way q hq).mono (by omega)
    | forge s u g => exact (W.way q hq).mono (by omega)
  refine ⟨by rw [hB]; exact carF_ok (by omega) W.held R O.po, ?_, wayOk, ?_, ?_, carF_nd W.hnd, ?_, ?_⟩
  · have := carF_len w.held (flowW b w e)
    have h2 := W.hlen
    show (carF w.held (flowW b w e)).length ≤ _
    simp
    omega
  · have h2 := W.wlen
    show (wayE w.way e).length ≤ _
    rw [List.length_append]
    cases e with
    | send s u t g => exact Nat.le_trans (putD_len _ _ _) (Nat.succ_le_succ h2)
    | land s u t => exact Nat.le_trans (dropD_len _ _) (Nat.le_succ_of_le h2)
    | make s u m g => exact Nat.le_succ_of_le h2
    | hand s u o g => exact Nat.le_succ_of_le h2
    | forge s u g => exact Nat.le_succ_of_le h2
  · show ((wayE w.way e).map (·.1)).Nodup
    cases e with
    | send s u t g => exact putD_nodup W.wnd
    | land s u t => exact dropD_nodup W.wnd
    | make s u m g => exact W.wnd
    | hand s u o g => exact W.wnd
    | forge s u g => exact W.wnd
  · intro t s hs
    rw [sentF_app]
    have hs : valD (wayE w.way e) t = some s := hs
    cases e with
    | send x u t' g =>
      have hs : valD (putD w.way t' g) t = some s := hs
      rw [valD_put] at hs
      by_cases c : t' = t
      · rw [if_pos c] at hs
        cases hs
        have hf : t' ∉ w.tks := O.ft
        rw [W.tks, c] at hf
        have : sentF p t = none := by cases h : sentF p t with
          | none => rfl
          | some v => rw [h] at hf; exact absurd rfl hf
        rw [this, Option.none_or]
        unfold sentF
        rw [if_pos c]
      · rw [if_neg c] at hs
        rw [W.sent t s hs]
        rfl
    | land x u t' =>
      have hs : valD (dropD w.way t') t = some s := hs
      rw [valD_drop] at hs
      by_cases c : t' = t
      · rw [if_pos c] at hs; cases hs
      · rw [if_neg c] at hs
        rw [W.sent t s hs]; rfl
    | make x u m g => rw [W.sent t s hs]; rfl
    | hand x u o g => rw [W.sent t s hs]; rfl
    | forge x u g => rw [W.sent t s hs]; rfl
  · intro t
    rw [sentF_app]
    have ht := W.tks t
    show t ∈ tksE w.tks e ↔ _
    cases e with
    | send x u t' g =>
      show t ∈ w.tks ++ [t'] ↔ _
      rw [List.mem_append, ht, List.mem_singleton]
      unfold sentF
      by_cases c : t' = t
      · simp [c]
      · have : ¬ t = t' := fun z => c z.symm
        cases sentF p t <;> simp [c, this, sentF]
    | make x u m g => rw [show tksE w.tks (.make x u m g) = w.tks from rfl, ht]; cases sentF p t <;> simp [sentF]
    | hand x u o g => rw [show tksE w.tks (.hand x u o g) = w.tks from rfl, ht]; cases sentF p t <;> simp [sentF]
    | land x u t' => rw [show tksE w.tks (.land x u t') = w.tks from rfl, ht]; cases sentF p t <;> simp [sentF]
    | forge x u g => rw [show tksE w.tks (.forge x u g) = w.tks from rfl, ht]; cases sentF p t <;> simp [sentF]
theorem Hist.wd {b : Bk} {h : List Ev} (B : BkOk b) (H : Hist b h) : ∀ k, k ≤ h.length → WdOk b (h.take k) (runW b (h.take k)) := by
  intro k
  induction k with
  | zero => intro _; exact wdok0 b
  | succ k ih =>
    intro hk
    have hk2 : h[k]? = some h[k] := List.getElem?_eq_getElem hk
    rw [take_get hk2, runW_snoc]
    exact wdok_step B (ih (by omega)) (H.ok k _ hk2)
theorem Hist.wd' {b : Bk} {h : List Ev} (B : BkOk b) (H : Hist b h) : WdOk b h (runW b h) := by
  have := H.wd B h.length (Nat.le_refl _)
  rwa [List.take_length] at this
/-- the flow by the history is that by what is under way -/
theorem flow_eq {b : Bk} {p q : List Ev} {w : Wd} {e : Ev} (W : WdOk b p w) (ft : FitT w e) : flowF b (p ++ q) e = flowW b w e := by
  cases e with
  | land s u t =>
    have ft : (valD w.way t).isSome = true := ft
    cases h : valD w.way t with
    | none => rw [h] at ft; cases ft
    | some g =>
      have h2 := W.sent t g h
      show Rw.mk _ _ _ ((sentF (p ++ q) t).getD []) = Rw.mk _ _ _ ((valD w.way t).getD [])
      rw [h, sentF_app, h2]
      rfl
  | _ => rfl
/-! ## F2 -/
def fFits : PSp := fun ss P => ∃ b m mv g, ss = [.dat (bkD b), .dat (.int (m : Nat)), .dat (stk g)] ∧ b.ms[m]? = some mv ∧ g.length = mv.lo.length ∧ mv.hi.length = g.length ∧ g.length ≤ 100 ∧ P (.dat (.bool (covF g mv.lo && covF mv.hi g)))
abbrev NFitsRange : List Str := ["book", "m", "gives"]
theorem scFitsRange : FnScope NFitsRange ["book", "m", "gives"] (defScope sFitsRange) := ⟨rfl, rfl, rfl, by decide +kernel, rfl, by decide +kernel, by decide +kernel⟩
abbrev OkFitsRange (P : Program) (w : World) (K : PySem.W.Frag) (mg : Str → Option Value) (base : Heap) : Prop := OkG P w K mg base "fits_range" 2 ["book", "m", "gives"] (spP K 3 fFits)
theorem ok_FitsRange {P : Program} {w : World} {K : PySem.W.Frag} {mg : Str → Option Value} {base : Heap} (T : Tx K mg) (h_Covers : OkCovers P w K mg base) : OkFitsRange P w K mg base :=
  (by exact getit : Hold (OkFitsRange P w K mg base) (by
    have S := scFitsRange
    refine okG_p (m := 0) T.gFitsRange T.fFitsRange S rfl rfl (fun _ _ _ _ _ _ us hl => match us, hl with | [_, _, _], _ => rfl) fun cdv A outer s H E hr => ⟨_,
      (pss_one (ps_ret (pe_and (pe_callG h_Covers (hr.mono (by decide)) (pa_cons (pv 2) (pa_cons (pe_ix (k_ixT (K := K) rfl) (pe_ix (k_ixT (K := K) rfl) (pe_ix (k_ixT (K := K) rfl) (pv 0) pe_int (fun _ _ => rfl)) (pv 1) (fun _ _ => rfl)) pe_int (fun _ _ => rfl)) pa_nil))) (pe_one (pe_callG h_Covers (hr.mono (by decide)) (pa_cons (pe_ix (k_ixT (K := K) rfl) (pe_ix (k_ixT (K := K) rfl) (pe_ix (k_ixT (K := K) rfl) (pv 0) pe_int (fun _ _ => rfl)) (pv 1) (fun _ _ => rfl)) pe_int (fun _ _ => rfl)) (pa_cons (pv 2) pa_nil))))))), ?_⟩
    rintro ss P' ⟨b, m, mv, g, rfl, hm, h1, h2, h3, p⟩
    walk_at "rds"
    refine ⟨rfl, _, _, rfl, h1, h3, ?_⟩
    walk_at "rds"
    refine ⟨fun hb => ?_, fun hb => ?_⟩
    · walk_at "rds"
      refine ⟨rfl, _, _, rfl, h2, by omega, ?_⟩
      rw [hb, Bool.true_and] at p
      walk_at "fin"
    · rw [hb, Bool.false_and] at p
      walk_at "fin"))
theorem sent_hit {h : List Ev} {k : Nat} {s w : Str} {t : Int} {g : List Int} (hk : h[k]? = some (.send s w t g)) (hn : sentF (h.take k) t = none) : sentF h t = some g := by
  have e : h = h.take (k + 1) ++ h.drop (k + 1) := (List.take_append_drop _ _).symm
  rw [e, take_get hk, sentF_app, sentF_app, hn]
  simp [sentF]
theorem sent_miss {h : List Ev} {k : Nat} {e : Ev} {t : Int} (hk : h[k]? = some e) (hn : sentF (h.take k) t = none) (he : ∀ s w g, e ≠ .send s w t g) : sentF (h.take (k + 1)) t = none := by
  rw [take_get hk, sentF_app, hn, Option.none_or]
  cases e with
  | send s w u g =>
    have : ¬ u = t := fun z => he s w g (by rw [z])
    simp [sentF, this]
  | _ => rfl
def fSent : PSp := fun ss P => ∃ h t s, ss = [.dat (hD h), .dat (.int t)] ∧ sentF h t = some s ∧ P (.dat (stk s))
abbrev NSentStock : List Str := ["history", "ticket", "event"]
theorem scSentStock : FnScope NSentStock ["history", "ticket"] (defScope sSentStock) := ⟨rfl, rfl, rfl, by decide +kernel, rfl, by decide +kernel, by decide +kernel⟩
abbrev OkSentStock (P : Program) (w : World) (K : PySem.W.Frag) (mg : Str → Option Value) (base : Heap) : Prop := OkG P w K mg base "sent_stock" 1 ["history", "ticket"] (spP K 2 fSent)
theorem ok_SentStock {P : Program} {w : World} {K : PySem.W.Frag} {mg : Str → Option Value} {base : Heap} (T : Tx K mg)  : OkSentStock P w K mg base :=
  (by exact getit : Hold (OkSentStock P w K mg base) (by
    have S := scSentStock
    refine okG_p (m := 1) T.gSentStock T.fSentStock S rfl rfl (fun _ _ _ _ _ _ us hl => match us, hl with | [_, _], _ => rfl) fun cdv A outer s H E hr => ⟨_,
      (pss_cons (ps_for PassesOwn.never rfl (k_tupI (K := K) rfl (pv 0)) (pg_name (i := 2) S.nd rfl (Or.inl rfl)) (pss_one (ps_if (PW.pt (pw_and (pt_cmpR (k_eq (K := K) rfl hr.units) (pe_ix (k_ixT (K := K) rfl) (pv 2) pe_int (fun _ _ => rfl)) pe_str (nomark _)) (pw_and1 (pt_cmpR (k_eq (K := K) rfl hr.units) (pe_ix (k_ixT (K := K) rfl) (pv 2) pe_int (fun _ _ => rfl)) (pv 1) (nomark _))))) (pss_one (ps_ret (pe_ix (k_ixT (K := K) rfl) (pv 2) pe_int (fun _ _ => rfl)))) pss_nil)))
      (pss_one (ps_ret pe_non))), ?_⟩
    rintro ss P' ⟨h, t, s, rfl, hs, p⟩
    walk_at "rds"
    refine ⟨fun k δ' μ' => (∃ z, δ' = [.dat (hD h), .dat (.int t), z]) ∧ μ' = [] ∧ sentF (h.take k) t = none, ⟨⟨_, rfl⟩, rfl, rfl⟩, fun k d δ' μ' hd hinv => ?_, fun δ' μ' hinv => ?_⟩
    · obtain ⟨⟨z, rfl⟩, rfl, hn⟩ := hinv
      obtain ⟨e, he, rfl⟩ := of_map hd
      cases e with
      | send a b u g =>
        walk_at "rds"
        refine ⟨fun hb => ?_, fun hb => ?_⟩
        · walk_at "rds"
          have hb := of_decide_eq_true hb
          subst hb
          rw [sent_hit he hn] at hs
          cases hs
          walk_at "fin"
        · walk_at "rds"
          exact ⟨⟨_, rfl⟩, rfl, sent_miss he hn fun s w g' z => by cases z; exact absurd rfl (of_decide_eq_false hb)⟩
      | _ =>
        walk_at "rds"
        exact ⟨⟨_, rfl⟩, rfl, sent_miss he hn fun _ _ _ z => nomatch z⟩
    · obtain ⟨⟨z, rfl⟩, rfl, hn⟩ := hinv
      rw [List.length_map, List.take_length, hs] at hn
      cases hn))

def fSentL : PSp := fun ss P => ∃ h t s, ss = [.dat (hL h), .dat (.int t)] ∧ sentF h t = some s ∧ P (.dat (stk s))
abbrev OkSentStockL (P : Program) (w : World) (K : PySem.W.Frag) (mg : Str → Option Value) (base : Heap) : Prop := OkG P w K mg base "sent_stock" 1 ["history", "ticket"] (spP K 2 fSentL)
theorem ok_SentStockL {P : Program} {w : World} {K : PySem.W.Frag} {mg : Str → Option Value} {base : Heap} (T : Tx K mg)  : OkSentStockL P w K mg base :=
  (by exact getit : Hold (OkSentStockL P w K mg base) (by
    have S := scSentStock
    refine okG_p (m := 1) T.gSentStock T.fSentStock S rfl rfl (fun _ _ _ _ _ _ us hl => match us, hl with | [_, _], _ => rfl) fun cdv A outer s H E hr => ⟨_,
      (pss_cons (ps_for PassesOwn.never rfl (k_list (K := K) rfl (pv 0)) (pg_name (i := 2) S.nd rfl (Or.inl rfl)) (pss_one (ps_if (PW.pt (pw_and (pt_cmpR (k_eq (K := K) rfl hr.units) (pe_ix (k_ixT (K := K) rfl) (pv 2) pe_int (fun _ _ => rfl)) pe_str (nomark _)) (pw_and1 (pt_cmpR (k_eq (K := K) rfl hr.units) (pe_ix (k_ixT (K := K) rfl) (pv 2) pe_int (fun _ _ => rfl)) (pv 1) (nomark _))))) (pss_one (ps_ret (pe_ix (k_ixT (K := K) rfl) (pv 2) pe_int (fun _ _ => rfl)))) pss_nil)))
      (pss_one (ps_ret pe_non))), ?_⟩
    rintro ss P' ⟨h, t, s, rfl, hs, p⟩
    walk_at "rds"
    refine ⟨fun k δ' μ' => (∃ z, δ' = [.dat (hL h), .dat (.int t), z]) ∧ μ' = [] ∧ sentF (h.take k) t = none, ⟨⟨_, rfl⟩, rfl, rfl⟩, fun k d δ' μ' hd hinv => ?_, fun δ' μ' hinv => ?_⟩
    · obtain ⟨⟨z, rfl⟩, rfl, hn⟩ := hinv
      obtain ⟨e, he, rfl⟩ := of_map hd
      cases e with
      | send a b u g =>
        walk_at "rds"
        refine ⟨fun hb => ?_, fun hb => ?_⟩
        · walk_at "rds"
          have hb := of_decide_eq_true hb
          subst hb
          rw [sent_hit he hn] at hs
          cases hs
          walk_at "fin"
        · walk_at "rds"
          exact ⟨⟨_, rfl⟩, rfl, sent_miss he hn fun s w g' z => by cases z; exact absurd rfl (of_decide_eq_false hb)⟩
      | _ =>
        walk_at "rds"
        exact ⟨⟨_, rfl⟩, rfl, sent_miss he hn fun _ _ _ z => nomatch z⟩
    · obtain ⟨⟨z, rfl⟩, rfl, hn⟩ := hinv
      rw [List.length_map, List.take_length, hs] at hn
      cases hn))
def FlOk (b : Bk) (h : List Ev) : Ev → Prop
  | .make _ _ m _ => ∃ mv, b.ms[m]? = some mv
  | .land _ _ t => ∃ s, sentF h t = some s
  | _ => True
def fFlow : PSp := fun ss P => ∃ b h k e, ss = [.dat (bkD b), .dat (hD h), .dat (.int (k : Nat))] ∧ h[k]? = some e ∧ 1 ≤ b.n ∧ b.n ≤ 6 ∧ FlOk b h e ∧ P (.dat (rowD (flowF b h e)))
abbrev NFlow : List Str := ["book", "history", "number", "event", "zero", "place"]
theorem scFlow : FnScope NFlow ["book", "history", "number"] (defScope sFlow) := ⟨rfl, rfl, rfl, by decide +kernel, rfl, by decide +kernel, by decide +kernel⟩
abbrev OkFlow (P : Program) (w : World) (K : PySem.W.Frag) (mg : Str → Option Value) (base : Heap) : Prop := OkG P w K mg base "flow" 2 ["book", "history", "number"] (spP K 3 fFlow)
theorem ok_Flow {P : Program} {w : World} {K : PySem.W.Frag} {mg : Str → Option Value} {base : Heap} (T : Tx K mg) (h_SentStock : OkSentStock P w K mg base) : OkFlow P w K mg base :=
  (by exact getit : Hold (OkFlow P w K mg base) (by
    have S := scFlow
    refine okG_p (m := 3) T.gFlow T.fFlow S rfl rfl (fun _ _ _ _ _ _ us hl => match us, hl with | [_, _, _], _ => rfl) fun cdv A outer s H E hr => ⟨_,
      (pss_cons (ps_set (i := 3) S.nd rfl (Or.inl rfl) (pe_ix (k_ixT (K := K) rfl) (pv 1) (pv 2) (fun _ _ => rfl)))
      (pss_cons (ps_set (i := 4) S.nd rfl (Or.inl rfl) (pe_op (k_repA (K := K) rfl) (pe_tup (pa_cons pe_int pa_nil)) (pe_callB (k_len (K := K) rfl) (by rfl) T.b_len (by decide +kernel) (pa_cons (pe_ix (k_ixT (K := K) rfl) (pv 0) pe_int (fun _ _ => rfl)) pa_nil))))
      (pss_cons (ps_set (i := 5) S.nd rfl (Or.inl rfl) (pe_tup (pa_cons (pe_ix (k_ixT (K := K) rfl) (pv 3) pe_int (fun _ _ => rfl)) (pa_cons (pe_ix (k_ixT (K := K) rfl) (pv 3) pe_int (fun _ _ => rfl)) pa_nil))))
      (pss_cons (ps_if (pt_cmpR (k_eq (K := K) rfl hr.units) (pe_ix (k_ixT (K := K) rfl) (pv 3) pe_int (fun _ _ => rfl)) pe_str (nomark _)) (pss_one (ps_ret (pe_tup (pa_cons (pv 5) (pa_cons (pe_ix (k_ixT (K := K) rfl) (pe_ix (k_ixT (K := K) rfl) (pe_ix (k_ixT (K := K) rfl) (pv 0) pe_int (fun _ _ => rfl)) (pe_ix (k_ixT (K := K) rfl) (pv 3) pe_int (fun _ _ => rfl)) (fun _ _ => rfl)) pe_int (fun _ _ => rfl)) (pa_cons (pv 5) (pa_cons (pe_ix (k_ixT (K := K) rfl) (pv 3) pe_int (fun _ _ => rfl)) pa_nil))))))) pss_nil)
      (pss_cons (ps_if (pt_cmpR (k_eq (K := K) rfl hr.units) (pe_ix (k_ixT (K := K) rfl) (pv 3) pe_int (fun _ _ => rfl)) pe_str (nomark _)) (pss_one (ps_ret (pe_tup (pa_cons (pv 5) (pa_cons (pe_ix (k_ixT (K := K) rfl) (pv 3) pe_int (fun _ _ => rfl)) (pa_cons (pe_tup (pa_cons (pe_ix (k_ixT (K := K) rfl) (pv 3) pe_int (fun _ _ => rfl)) (pa_cons (pe_ix (k_ixT (K := K) rfl) (pv 3) pe_int (fun _ _ => rfl)) pa_nil))) (pa_cons (pe_ix (k_ixT (K := K) rfl) (pv 3) pe_int (fun _ _ => rfl)) pa_nil))))))) pss_nil)
      (pss_cons (ps_if (pt_cmpR (k_eq (K := K) rfl hr.units) (pe_ix (k_ixT (K := K) rfl) (pv 3) pe_int (fun _ _ => rfl)) pe_str (nomark _)) (pss_one (ps_ret (pe_tup (pa_cons (pv 5) (pa_cons (pe_ix (k_ixT (K := K) rfl) (pv 3) pe_int (fun _ _ => rfl)) (pa_cons pe_non (pa_cons (pv 4) pa_nil))))))) pss_nil)
      (pss_cons (ps_if (pt_cmpR (k_eq (K := K) rfl hr.units) (pe_ix (k_ixT (K := K) rfl) (pv 3) pe_int (fun _ _ => rfl)) pe_str (nomark _)) (pss_one (ps_ret (pe_tup (pa_cons pe_non (pa_cons (pv 4) (pa_cons (pv 5) (pa_cons (pe_callG h_SentStock (hr.mono (by decide)) (pa_cons (pv 1) (pa_cons (pe_ix (k_ixT (K := K) rfl) (pv 3) pe_int (fun _ _ => rfl)) pa_nil))) pa_nil))))))) pss_nil)
      (pss_one (ps_ret (pe_tup (pa_cons pe_non (pa_cons (pv 4) (pa_cons (pv 5) (pa_cons (pe_ix (k_ixT (K := K) rfl) (pv 3) pe_int (fun _ _ => rfl)) pa_nil)))))))))))))), ?_⟩
    rintro ss P' ⟨b, h, k, e, rfl, he, n1, n6, ho, p⟩
    cases e with
    | make s w m g =>
      obtain ⟨mv, hm⟩ := ho
      have e1 : (flowF b h (.make s w m g)) = ⟨some (s, w), mv.tk, some (s, w), g⟩ := by show Rw.mk _ ((b.ms[m]?.map Mv.tk).getD []) _ _ = _; rw [hm]; rfl
      rw [e1] at p
      walk_at "rds"
      walk_at "fin"
    | hand s w o g =>
      walk_at "rds"
      walk_at "fin"
    | send s w t g =>
      walk_at "rds"
      walk_at "fin"
    | land s w t =>
      obtain ⟨x, hx⟩ := ho
      have e1 : (flowF b h (.land s w t)) = ⟨none, zr b.n, some (s, w), x⟩ := by show Rw.mk _ _ _ ((sentF h t).getD []) = _; rw [hx]; rfl
      rw [e1] at p
      walk_at "rds"
      refine ⟨rfl, _, _, _, rfl, hx, ?_⟩
      walk_at "rds"
      walk_at "fin"
    | forge s w g =>
      walk_at "rds"
      walk_at "fin"))

def fFlowL : PSp := fun ss P => ∃ b h k e, ss = [.dat (bkD b), .dat (hL h), .dat (.int (k : Nat))] ∧ h[k]? = some e ∧ 1 ≤ b.n ∧ b.n ≤ 6 ∧ FlOk b h e ∧ P (.dat (rowD (flowF b h e)))
abbrev OkFlowL (P : Program) (w : World) (K : PySem.W.Frag) (mg : Str → Option Value) (base : Heap) : Prop := OkG P w K mg base "flow" 2 ["book", "history", "number"] (spP K 3 fFlowL)
theorem ok_FlowL {P : Program} {w : World} {K : PySem.W.Frag} {mg : Str → Option Value} {base : Heap} (T : Tx K mg) (h_SentStockL : OkSentStockL P w K mg base) : OkFlowL P w K mg base :=
  (by exact getit : Hold (OkFlowL P w K mg base) (by
    have S := scFlow
    refine okG_p (m := 3) T.gFlow T.fFlow S rfl rfl (fun _ _ _ _ _ _ us hl => match us, hl with | [_, _, _], _ => rfl) fun cdv A outer s H E hr => ⟨_,
      (pss_cons (ps_set (i := 3) S.nd rfl (Or.inl rfl) (pe_ix (k_ixL (K := K) rfl) (pv 1) (pv 2) (fun _ _ => rfl)))
      (pss_cons (ps_set (i := 4) S.nd rfl (Or.inl rfl) (pe_op (k_repA (K := K) rfl) (pe_tup (pa_cons pe_int pa_nil)) (pe_callB (k_len (K := K) rfl) (by rfl) T.b_len (by decide +kernel) (pa_cons (pe_ix (k_ixT (K := K) rfl) (pv 0) pe_int (fun _ _ => rfl)) pa_nil))))
      (pss_cons (ps_set (i := 5) S.nd rfl (Or.inl rfl) (pe_tup (pa_cons (pe_ix (k_ixT (K := K) rfl) (pv 3) pe_int (fun _ _ => rfl)) (pa_cons (pe_ix (k_ixT (K := K) rfl) (pv 3) pe_int (fun _ _ => rfl)) pa_nil))))
      (pss_cons (ps_if (pt_cmpR (k_eq (K := K) rfl hr.units) (pe_ix (k_ixT (K := K) rfl) (pv 3) pe_int (fun _ _ => rfl)) pe_str (nomark _)) (pss_one (ps_ret (pe_tup (pa_cons (pv 5) (pa_cons (pe_ix (k_ixT (K := K) rfl) (pe_ix (k_ixT (K := K) rfl) (pe_ix (k_ixT (K := K) rfl) (pv 0) pe_int (fun _ _ => rfl)) (pe_ix (k_ixT (K := K) rfl) (pv 3) pe_int (fun _ _ => rfl)) (fun _ _ => rfl)) pe_int (fun _ _ => rfl)) (pa_cons (pv 5) (pa_cons (pe_ix (k_ixT (K := K) rfl) (pv 3) pe_int (fun _ _ => rfl)) pa_nil))))))) pss_nil)
      (pss_cons (ps_if (pt_cmpR (k_eq (K := K) rfl hr.units) (pe_ix (k_ixT (K := K) rfl) (pv 3) pe_int (fun _ _ => rfl)) pe_str (nomark _)) (pss_one (ps_ret (pe_tup (pa_cons (pv 5) (pa_cons (pe_ix (k_ixT (K := K) rfl) (pv 3) pe_int (fun _ _ => rfl)) (pa_cons (pe_tup (pa_cons (pe_ix (k_ixT (K := K) rfl) (pv 3) pe_int (fun _ _ => rfl)) (pa_cons (pe_ix (k_ixT (K := K) rfl) (pv 3) pe_int (fun _ _ => rfl)) pa_nil))) (pa_cons (pe_ix (k_ixT (K := K) rfl) (pv 3) pe_int (fun _ _ => rfl)) pa_nil))))))) pss_nil)
      (pss_cons (ps_if (pt_cmpR (k_eq (K := K) rfl hr.units) (pe_ix (k_ixT (K := K) rfl) (pv 3) pe_int (fun _ _ => rfl)) pe_str (nomark _)) (pss_one (ps_ret (pe_tup (pa_cons (pv 5) (pa_cons (pe_ix (k_ixT (K := K) rfl) (pv 3) pe_int (fun _ _ => rfl)) (pa_cons pe_non (pa_cons (pv 4) pa_nil))))))) pss_nil)
      (pss_cons (ps_if (pt_cmpR (k_eq (K := K) rfl hr.units) (pe_ix (k_ixT (K := K) rfl) (pv 3) pe_int (fun _ _ => rfl)) pe_str (nomark _)) (pss_one (ps_ret (pe_tup (pa_cons pe_non (pa_cons (pv 4) (pa_cons (pv 5) (pa_cons (pe_callG h_SentStockL (hr.mono (by decide)) (pa_cons (pv 1) (pa_cons (pe_ix (k_ixT (K := K) rfl) (pv 3) pe_int (fun _ _ => rfl)) pa_nil))) pa_nil))))))) pss_nil)
      (pss_one (ps_ret (pe_tup (pa_cons pe_non (pa_cons (pv 4) (pa_cons (pv 5) (pa_cons (pe_ix (k_ixT (K := K) rfl) (pv 3) pe_int (fun _ _ => rfl)) pa_nil)))))))))))))), ?_⟩
    rintro ss P' ⟨b, h, k, e, rfl, he, n1, n6, ho, p⟩
    cases e with
    | make s w m g =>
      obtain ⟨mv, hm⟩ := ho
      have e1 : (flowF b h (.make s w m g)) = ⟨some (s, w), mv.tk, some (s, w), g⟩ := by show Rw.mk _ ((b.ms[m]?.map Mv.tk).getD []) _ _ = _; rw [hm]; rfl
      rw [e1] at p
      walk_at "rds"
      walk_at "fin"
    | hand s w o g =>
      walk_at "rds"
      walk_at "fin"
    | send s w t g =>
      walk_at "rds"
      walk_at "fin"
    | land s w t =>
      obtain ⟨x, hx⟩ := ho
      have e1 : (flowF b h (.land s w t)) = ⟨none, zr b.n, some (s, w), x⟩ := by show Rw.mk _ _ _ ((sentF h t).getD []) = _; rw [hx]; rfl
      rw [e1] at p
      walk_at "rds"
      refine ⟨rfl, _, _, _, rfl, hx, ?_⟩
      walk_at "rds"
      walk_at "fin"
    | forge s w g =>
      walk_at "rds"
      walk_at "fin"))
/-! ## F3 -/
/-- held and row fit -/
structure HrOk (n : Nat) (h : HeldT) (r : Rw) : Prop where
  n1 : 1 ≤ n
  n6 : n ≤ 6
  hl : ∀ p ∈ h, p.2.length = n
  tl : r.take.length = n
  gl : r.give.length = n
theorem getH_len {n : Nat} {h : HeldT} (hh : ∀ q ∈ h, q.2.length = n) (k : SS) : (getH h k n).length = n := by
  unfold getH
  cases e : valD h k with
  | none => simp
  | some s => exact hh (k, s) (valD_mem e)
def aPossible : ASp := fun ss μ P => ∃ a n h r, ss = [.val (.ref a), .dat (rowD r)] ∧ μ = [(a, .dt (hdE h))] ∧ HrOk n h r ∧ P (.dat (.bool (posF h r))) [.dt (hdE h)] []
abbrev NIsPossible : List Str := ["held", "row", "taker", "take", "getter", "give"]
theorem scIsPossible : FnScope NIsPossible ["held", "row"] (defScope sIsPossible) := ⟨rfl, rfl, rfl, by decide +kernel, rfl, by decide +kernel, by decide +kernel⟩
abbrev OkIsPossible (P : Program) (w : World) (K : PySem.W.Frag) (mg : Str → Option Value) (base : Heap) : Prop := OkG P w K mg base "is_possible" 2 ["held", "row"] (spA K 2 aPossible)
theorem ok_IsPossible {P : Program} {w : World} {K : PySem.W.Frag} {mg : Str → Option Value} {base : Heap} (T : Tx K mg) (h_Covers : OkCovers P w K mg base) : OkIsPossible P w K mg base :=
  (by exact getit : Hold (OkIsPossible P w K mg base) (by
    have S := scIsPossible
    refine okG_a (m := 4) T.gIsPossible T.fIsPossible S rfl rfl (fun _ _ _ _ _ _ us hl => match us, hl with | [_, _], _ => rfl) fun cdv A outer s H E hr => ⟨_,
      (pss_cons (ps_asg (pv 1) (k_ptup (K := K) 4 rfl rfl (pgs_cons (pg_name (i := 2) S.nd rfl (Or.inl rfl)) (pgs_cons (pg_name (i := 3) S.nd rfl (Or.inl rfl)) (pgs_cons (pg_name (i := 4) S.nd rfl (Or.inl rfl)) (pgs_cons (pg_name (i := 5) S.nd rfl (Or.inl rfl)) pgs_nil))))))
      (pss_one (ps_ret (pe_or (pe_cmp (pc_isN (pv 2)) rfl) (pe_one (pe_callG h_Covers (hr.mono (by decide)) (pa_cons (pe_dget2 (hu_of hr) (pv 0) (pv 2) (pe_op (k_repA (K := K) rfl) (pe_tup (pa_cons pe_int pa_nil)) (pe_callB (k_len (K := K) rfl) (by rfl) T.b_len (by decide +kernel) (pa_cons (pv 3) pa_nil))) ⟨rfl, rfl, rfl, rfl⟩) (pa_cons (pv 3) pa_nil)))))))), ?_⟩
    rintro ss μ P' ⟨a, n, h, r, rfl, rfl, R, p⟩
    obtain ⟨tk, take, gt, give⟩ := r
    have n1 := R.n1
    have n6 := R.n6
    have tl : take.length = n := R.tl
    change ExC K _ [.val (.ref a), .dat (.tuple [plD tk, stk take, plD gt, stk give]), .any, .any, .any, .any] _ _
    cases tk with
    | none =>
      walk_at "rds"
      walk_at "finA"
    | some k =>
      walk_at "rds"
      rw [tl]
      walk_at "rds"
      refine ⟨_, _, _, .dat _, .dat _, dic_held k (by walk_at "mem"), ?_⟩
      rw [getH_dat]
      walk_at "rds"
      refine ⟨rfl, _, _, rfl, (getH_len R.hl k).trans tl.symm, by rw [getH_len R.hl]; omega, ?_⟩
      have e : posF h ⟨some k, take, gt, give⟩ = covF (getH h k n) take := by rw [← tl]; rfl
      rw [e] at p
      walk_at "finA"))
def aCarry : ASp := fun ss μ P => ∃ a n h r, ss = [.val (.ref a), .dat (rowD r)] ∧ μ = [(a, .dt (hdE h))] ∧ HrOk n h r ∧ h.length ≤ 1000 ∧ P (.dat .none) [.dt (hdE (carF h r))] []
theorem carT_len {n : Nat} {h : HeldT} {r : Rw} (R : HrOk n h r) : ∀ q ∈ carT h r, q.2.length = n := by
  intro q hq
  unfold carT at hq
  cases e : r.taker with
  | none => rw [e] at hq; exact R.hl q hq
  | some k =>
    rw [e] at hq
    rcases putD_mem hq with z | z
    · subst z
      show (subS (getH h k r.take.length) r.take).length = n
      rw [subS, zip_len (by rw [R.tl]; exact getH_len R.hl k), R.tl]
      exact getH_len R.hl k
    · exact R.hl q z
theorem carT_size (h : HeldT) (r : Rw) : (carT h r).length ≤ h.length + 1 := by
  unfold carT
  cases r.taker with
  | none => exact Nat.le_succ _
  | some k => exact putD_len _ _ _
abbrev NCarry : List Str := ["held", "row", "taker", "take", "getter", "give"]
theorem scCarry : FnScope NCarry ["held", "row"] (defScope sCarry) := ⟨rfl, rfl, rfl, by decide +kernel, rfl, by decide +kernel, by decide +kernel⟩
abbrev OkCarry (P : Program) (w : World) (K : PySem.W.Frag) (mg : Str → Option Value) (base : Heap) : Prop := OkG P w K mg base "carry" 2 ["held", "row"] (spA K 2 aCarry)
theorem ok_Carry {P : Program} {w : World} {K : PySem.W.Frag} {mg : Str → Option Value} {base : Heap} (T : Tx K mg) (h_Less : OkLess P w K mg base) (h_Plus : OkPlus P w K mg base) : OkCarry P w K mg base :=
  (by exact getit : Hold (OkCarry P w K mg base) (by
    have S := scCarry
    refine okG_a (m := 4) T.gCarry T.fCarry S rfl rfl (fun _ _ _ _ _ _ us hl => match us, hl with | [_, _], _ => rfl) fun cdv A outer s H E hr => ⟨_,
      (pss_cons (ps_asg (pv 1) (k_ptup (K := K) 4 rfl rfl (pgs_cons (pg_name (i := 2) S.nd rfl (Or.inl rfl)) (pgs_cons (pg_name (i := 3) S.nd rfl (Or.inl rfl)) (pgs_cons (pg_name (i := 4) S.nd rfl (Or.inl rfl)) (pgs_cons (pg_name (i := 5) S.nd rfl (Or.inl rfl)) pgs_nil))))))
      (pss_cons (ps_if (pt_cmp (pc_notN (pv 2)) rfl) (pss_one (ps_dput (hu_of hr) (pv 0) (pv 2) (pe_callG h_Less (hr.mono (by decide)) (pa_cons (pe_dget2 (hu_of hr) (pv 0) (pv 2) (pe_op (k_repA (K := K) rfl) (pe_tup (pa_cons pe_int pa_nil)) (pe_callB (k_len (K := K) rfl) (by rfl) T.b_len (by decide +kernel) (pa_cons (pv 3) pa_nil))) ⟨rfl, rfl, rfl, rfl⟩) (pa_cons (pv 3) pa_nil))) rfl)) pss_nil)
      (pss_one (ps_if (pt_cmp (pc_notN (pv 4)) rfl) (pss_one (ps_dput (hu_of hr) (pv 0) (pv 4) (pe_callG h_Plus (hr.mono (by decide)) (pa_cons (pe_dget2 (hu_of hr) (pv 0) (pv 4) (pe_op (k_repA (K := K) rfl) (pe_tup (pa_cons pe_int pa_nil)) (pe_callB (k_len (K := K) rfl) (by rfl) T.b_len (by decide +kernel) (pa_cons (pv 5) pa_nil))) ⟨rfl, rfl, rfl, rfl⟩) (pa_cons (pv 5) pa_nil))) rfl)) pss_nil)))), ?_⟩
    rintro ss μ P' ⟨a, n, h, r, rfl, rfl, R, hs, p⟩
    have cl := carT_len R
    have cs := carT_size h r
    obtain ⟨tk, take, gt, give⟩ := r
    have n1 := R.n1
    have n6 := R.n6
    have tl : take.length = n := R.tl
    have gl : give.length = n := R.gl
    change ExC K _ [.val (.ref a), .dat (.tuple [plD tk, stk take, plD gt, stk give]), .any, .any, .any, .any] _ _
    cases tk with
    | none =>
      walk_at "rds"
      have cl : ∀ q ∈ h, q.2.length = n := cl
      cases gt with
      | none =>
        walk_at "rds"
        walk_at "finA"
      | some k2 =>
        walk_at "rds"
        refine ex_dputT ?_
        walk_at "rds"
        rw [gl]
        walk_at "rds"
        refine ⟨_, _, _, .dat _, .dat _, dic_held k2 (by walk_at "mem"), ?_⟩
        rw [getH_dat]
        walk_at "rds"
        refine ⟨rfl, _, _, rfl, (getH_len cl k2).trans gl.symm, Nat.le_trans (Nat.le_of_eq (getH_len cl k2)) (by omega), ?_⟩
        walk_at "rds"
        refine ⟨0, pairK k2, _, .dat _, rfl, _, rfl, sz_lt (by rw [List.length_map]; omega), ?_⟩
        rw [held_put]
        walk_at "rds"
        have e : carF h ⟨none, take, some k2, give⟩ = putD h k2 (addS (getH h k2 n) give) := by rw [← gl]; rfl
        rw [e] at p
        walk_at "finA"
    | some k =>
      walk_at "rds"
      refine ex_dputT ?_
      walk_at "rds"
      rw [tl]
      walk_at "rds"
      refine ⟨_, _, _, .dat _, .dat _, dic_held k (by walk_at "mem"), ?_⟩
      rw [getH_dat]
      walk_at "rds"
      refine ⟨rfl, _, _, rfl, (getH_len R.hl k).trans tl.symm, by rw [getH_len R.hl]; omega, ?_⟩
      walk_at "rds"
      refine ⟨0, pairK k, _, .dat _, rfl, _, rfl, sz_lt (by rw [List.length_map]; omega), ?_⟩
      rw [held_put]
      have e1 : putD h k (subS (getH h k n) take) = carT h ⟨some k, take, gt, give⟩ := by rw [← tl]; rfl
      rw [e1]
      walk_at "rds"
      cases gt with
      | none =>
        walk_at "rds"
        walk_at "finA"
      | some k2 =>
        walk_at "rds"
        refine ex_dputT ?_
        walk_at "rds"
        rw [gl]
        walk_at "rds"
        refine ⟨_, _, _, .dat _, .dat _, dic_held k2 (by walk_at "mem"), ?_⟩
        rw [getH_dat]
        walk_at "rds"
        refine ⟨rfl, _, _, rfl, (getH_len cl k2).trans gl.symm, Nat.le_trans (Nat.le_of_eq (getH_len cl k2)) (by omega), ?_⟩
        walk_at "rds"
        refine ⟨0, pairK k2, _, .dat _, rfl, _, rfl, sz_lt (by rw [List.length_map]; omega), ?_⟩
        rw [held_put]
        walk_at "rds"
        have p : P' _ [Ob.dt (hdE (putD (carT h ⟨some k, take, some k2, give⟩) k2 (addS (getH (carT h ⟨some k, take, some k2, give⟩) k2 give.length) give)))] [] := p
        rw [gl] at p
        walk_at "finA"))
/-! ## F4 -/
theorem valD_key {κ α : Type} [DecidableEq κ] {h : List (κ × α)} {k : κ} (hk : k ∈ h.map (·.1)) : ∃ s, valD h k = some s := by
  have := valD_keys.mpr hk
  cases e : valD h k with
  | none => rw [e] at this; cases this
  | some s => exact ⟨s, rfl⟩
def aShown : ASp := fun ss μ P => ∃ a h, ss = [.val (.ref a)] ∧ μ = [(a, .dt (hdE h))] ∧ h.length ≤ 1000 ∧ P (.dat (shD (shownF h))) [.dt (hdE h)] []
abbrev NShown : List Str := ["held", "place"]
theorem scShown : FnScope NShown ["held"] (defScope sShown) := ⟨rfl, rfl, rfl, by decide +kernel, rfl, by decide +kernel, by decide +kernel⟩
abbrev OkShown (P : Program) (w : World) (K : PySem.W.Frag) (mg : Str → Option Value) (base : Heap) : Prop := OkG P w K mg base "shown" 1 ["held"] (spA K 1 aShown)
theorem ok_Shown {P : Program} {w : World} {K : PySem.W.Frag} {mg : Str → Option Value} {base : Heap} (T : Tx K mg)  : OkShown P w K mg base :=
  (by exact getit : Hold (OkShown P w K mg base) (by
    have S := scShown
    refine okG_a (m := 1) T.gShown T.fShown S rfl rfl (fun _ _ _ _ _ _ us hl => match us, hl with | [_], _ => rfl) fun cdv A outer s H E hr => ⟨_,
      (pss_one (ps_ret (pe_callTy (k_tup (K := K) rfl) (by rfl) T.b_tuple (by decide +kernel) (pa_cons (pe_lc (own := [("place", 1)]) rfl S.nd (k_list (K := K) rfl (pe_callB (cr_sortedDT rfl hr.units) (by rfl) T.b_sorted (by decide +kernel) (pa_cons (pv 0) pa_nil))) (blkOk_by (N := NShown) (sc := defScope sShown) (by decide +kernel)) (fun _ _ _ _ _ => (pg_name (i := 1) S.nd rfl (Or.inl rfl))) (fun _ _ _ _ _ => (pts_one (pt_val (pe_callB (k_anyT (K := K) rfl rfl) (by rfl) T.b_any (by decide +kernel) (pa_cons (pe_dget (hu_of hr) (pv 0) (pv 1) (fun _ _ => rfl)) pa_nil))))) (fun _ _ _ _ _ => (pe_op (k_catA (K := K) rfl) (pv 1) (pe_tup (pa_cons (pe_dget (hu_of hr) (pv 0) (pv 1) (fun _ _ => rfl)) pa_nil))))) pa_nil)))), ?_⟩
    rintro ss μ P' ⟨a, h, rfl, rfl, hl, p⟩
    walk_at "rds"
    refine lcA (sortK (h.map (·.1))) pairD (fun k => ((valD h k).getD []).any (· != 0)) (fun k => .tuple [.str k.1, .str k.2, stk ((valD h k).getD [])]) (wg_name (by decide)) ?_
    walk_at "rds"
    refine ca_sortH (by walk_at "mem") hl ?_
    walk_at "rds"
    have hlen : (sortK (h.map (·.1))).length = h.length := by rw [(sortK_perm _).length_eq, List.length_map]
    refine ⟨rfl, by omega, fun k hk => ?_, ?_⟩
    · obtain ⟨s, hs⟩ := valD_key ((sortK_perm _).mem_iff.mp hk)
      walk_at "rds"
      refine ⟨rfl, ?_⟩
      walk_at "rds"
      refine ⟨_, _, .dat _, dic_held' hs (by walk_at "mem"), ?_⟩
      walk_at "rds"
      refine ca_anyT ?_
      walk_at "rds"
      refine ⟨by rw [hs]; rfl, rfl, fun _ => ?_⟩
      walk_at "rds"
      refine ⟨_, _, .dat _, dic_held' hs (by walk_at "mem"), ?_⟩
      walk_at "rds"
      refine op_catD (by walk_at "len") ?_
      rw [hs]
      exact ⟨.dat _, rfl⟩
    · walk_at "rds"
      have e : shD (shownF h) = .tuple (((sortK (h.map (·.1))).filter fun k => ((valD h k).getD []).any (· != 0)).map fun k => .tuple [.str k.1, .str k.2, stk ((valD h k).getD [])]) := by
        unfold shownF shD
        rw [List.map_map]
        rfl
      rw [e] at p
      walk_at "finA"))
structure HAt (b : Bk) (h : List Ev) (k : Nat) (e : Ev) (w : Wd) : Prop where
  eg : h[k]? = some e
  wd : WdOk b (h.take k) w
  ok : OkE b w e
  fl : FlOk b h e
  fe : flowF b h e = flowW b w e
  hr : HrOk b.n w.held (flowW b w e)
  hl : w.held.length ≤ 120
  wl : w.way.length ≤ 60
  st : runW b (h.take (k + 1)) = stepW b w e
theorem FlOk.of {b : Bk} {p q : List Ev} {w : Wd} {e : Ev} (W : WdOk b p w) (O : OkE b w e) : FlOk b (p ++ q) e := by
  cases e with
  | make s u m g => obtain ⟨_, _, _, mv, hm, _⟩ := O.ev; exact ⟨mv, hm⟩
  | land s u t =>
    have ft : (valD w.way t).isSome = true := O.ft
    cases hv : valD w.way t with
    | none => rw [hv] at ft; cases ft
    | some g => exact ⟨g, by rw [sentF_app, W.sent t g hv]; rfl⟩
  | _ => trivial
theorem HrOk.of {b : Bk} {p : List Ev} {w : Wd} {e : Ev} (B : BkOk b) (W : WdOk b p w) (O : OkE b w e) : HrOk b.n w.held (flowW b w e) :=
  have R := row_ok B W O
  ⟨B.n1, B.n6, fun q hq => (W.held q hq).1, R.tl, R.gv.1⟩
theorem Hist.at {b : Bk} {h : List Ev} (B : BkOk b) (Hh : Hist b h) {k : Nat} (hk : k < h.length) : ∃ e, HAt b h k e (runW b (h.take k)) := by
  have he : h[k]? = some h[k] := List.getElem?_eq_getElem hk
  have W := Hh.wd B k (by omega)
  have O := Hh.ok k _ he
  have hl : (h.take k).length ≤ 60 := by rw [List.length_take]; have := Hh.len; omega
  have es : h = h.take k ++ h.drop k := (List.take_append_drop k h).symm
  have h1 := W.hlen
  have h2 := W.wlen
  refine ⟨h[k], he, W, O, ?_, ?_, HrOk.of B W O, by omega, by omega, by rw [take_get he, runW_snoc]⟩
  · have := FlOk.of (q := h.drop k) W O
    rwa [← es] at this
  · have := flow_eq (b := b) (q := h.drop k) W O.ft
    rwa [← es] at this
def fCarryOut : PSp := fun ss P => ∃ b h, ss = [.dat (bkD b), .dat (hD h)] ∧ BkOk b ∧ Hist b h ∧ P (.dat (.tuple [shD (shownF (runW b h).held), wayD (wayF (runW b h).way)]))
abbrev NCarryOut : List Str := ["book", "history", "held", "way", "number", "row", "ticket"]
theorem scCarryOut : FnScope NCarryOut ["book", "history"] (defScope sCarryOut) := ⟨rfl, rfl, rfl, by decide +kernel, rfl, by decide +kernel, by decide +kernel⟩
abbrev OkCarryOut (P : Program) (w : World) (K : PySem.W.Frag) (mg : Str → Option Value) (base : Heap) : Prop := OkG P w K mg base "carry_out" 3 ["book", "history"] (spP K 2 fCarryOut)
theorem ok_CarryOut {P : Program} {w : World} {K : PySem.W.Frag} {mg : Str → Option Value} {base : Heap} (T : Tx K mg) (h_Carry : OkCarry P w K mg base) (h_Flow : OkFlow P w K mg base) (h_IsPossible : OkIsPossible P w K mg base) (h_Shown : OkShown P w K mg base) : OkCarryOut P w K mg base :=
  (by exact getit : Hold (OkCarryOut P w K mg base) (by
    have S := scCarryOut
    refine okG_p (m := 5) T.gCarryOut T.fCarryOut S rfl rfl (fun _ _ _ _ _ _ us hl => match us, hl with | [_, _], _ => rfl) fun cdv A outer s H E hr => ⟨_,
      (pss_cons (ps_set (i := 2) S.nd rfl (Or.inl rfl) pe_dnewT)
      (pss_cons (ps_set (i := 3) S.nd rfl (Or.inr rfl) pe_dnewK)
      (pss_cons (ps_for PassesOwn.never rfl (pi_range1 (by rfl) T.b_range (pa_cons (pe_callB (k_len (K := K) rfl) (by rfl) T.b_len (by decide +kernel) (pa_cons (pv 1) pa_nil)) pa_nil)) (pg_name (i := 4) S.nd rfl (Or.inl rfl)) (pss_cons (ps_set (i := 5) S.nd rfl (Or.inl rfl) (pe_callG h_Flow (hr.mono (by decide)) (pa_cons (pv 0) (pa_cons (pv 1) (pa_cons (pv 4) pa_nil)))))
      (pss_cons (ps_if (pt_not (pt_val (pe_callG h_IsPossible (hr.mono (by decide)) (pa_cons (pv 2) (pa_cons (pv 5) pa_nil))))) (pss_one ps_never) pss_nil)
      (pss_cons (ps_expr (pe_callG h_Carry (hr.mono (by decide)) (pa_cons (pv 2) (pa_cons (pv 5) pa_nil))))
      (pss_one (ps_if (pt_cmpR (k_eq (K := K) rfl hr.units) (pe_ix (k_ixT (K := K) rfl) (pe_ix (k_ixT (K := K) rfl) (pv 1) (pv 4) (fun _ _ => rfl)) pe_int (fun _ _ => rfl)) pe_str (nomark _)) (pss_one (ps_dput (hu_of hr) (pv 3) (pe_ix (k_ixT (K := K) rfl) (pe_ix (k_ixT (K := K) rfl) (pv 1) (pv 4) (fun _ _ => rfl)) pe_int (fun _ _ => rfl)) (pe_ix (k_ixT (K := K) rfl) (pe_ix (k_ixT (K := K) rfl) (pv 1) (pv 4) (fun _ _ => rfl)) pe_int (fun _ _ => rfl)) rfl)) (pss_one (ps_if (pt_cmpR (k_eq (K := K) rfl hr.units) (pe_ix (k_ixT (K := K) rfl) (pe_ix (k_ixT (K := K) rfl) (pv 1) (pv 4) (fun _ _ => rfl)) pe_int (fun _ _ => rfl)) pe_str (nomark _)) (pss_one (ps_expr (pe_dpop1 (pv 3) (pe_ix (k_ixT (K := K) rfl) (pe_ix (k_ixT (K := K) rfl) (pv 1) (pv 4) (fun _ _ => rfl)) pe_int (fun _ _ => rfl)) ⟨rfl, rfl, rfl, rfl⟩))) pss_nil))))))))
      (pss_one (ps_ret (pe_tup (pa_cons (pe_callG h_Shown (hr.mono (by decide)) (pa_cons (pv 2) pa_nil)) (pa_cons (pe_callTy (k_tup (K := K) rfl) (by rfl) T.b_tuple (by decide +kernel) (pa_cons (pe_lc (own := [("ticket", 6)]) (tt := tYes) rfl S.nd (k_list (K := K) rfl (pe_callB (cr_sortDI rfl) (by rfl) T.b_sorted (by decide +kernel) (pa_cons (pv 3) pa_nil))) (blkOk_by (N := NCarryOut) (sc := defScope sCarryOut) (by decide +kernel)) (fun _ _ _ _ _ => (pg_name (i := 6) S.nd rfl (Or.inl rfl))) (fun _ _ _ _ _ => pts_nil) (fun _ _ _ _ _ => (pe_tup (pa_cons (pv 6) (pa_cons (pe_dget (hu_of hr) (pv 3) (pv 6) (fun _ _ => rfl)) pa_nil))))) pa_nil)) pa_nil)))))))), ?_⟩
    rintro ss P' ⟨b, h, rfl, B, Hh, p⟩
    have n1 := B.n1
    have n6 := B.n6
    have hl60 := Hh.len
    walk_at "rds"
    refine ev_dnewT fun ph => ?_
    walk_at "rds"
    refine ev_dnewK fun pw => ?_
    walk_at "rds"
    rw [rangeD_len]
    refine ⟨by omega, fun k δ' μ' => (∃ z1 z2, δ' = [.dat (bkD b), .dat (hD h), .val (.ref ph), .val (.ref pw), z1, z2, .any]) ∧ μ' = [(pw, .dk (wyE (runW b (h.take k)).way)), (ph, .dt (hdE (runW b (h.take k)).held))], ⟨⟨_, _, rfl⟩, rfl⟩, fun k d δ' μ' hd hinv => ?_, fun δ' μ' hinv => ?_⟩
    · obtain ⟨⟨z1, z2, rfl⟩, rfl⟩ := hinv
      obtain ⟨hk, rfl⟩ := range0 hd
      obtain ⟨e, X⟩ := Hh.at B hk
      generalize runW b (h.take k) = w at X
      have he := X.eg
      walk_at "rds"
      refine ⟨rfl, _, _, _, _, rfl, he, n1, n6, X.fl, ?_⟩
      rw [X.fe]
      walk_at "rds"
      refine cA [1] (by decide) ?_
      walk_at "rds"
      refine ⟨rfl, [_], rfl, _, _, _, _, rfl, rfl, X.hr, ?_⟩
      rw [X.ok.po]
      walk_at "rds"
      refine cA [1] (by decide) ?_
      walk_at "rds"
      refine ⟨rfl, [_], rfl, _, _, _, _, rfl, rfl, X.hr, by have := X.hl; omega, ?_⟩
      walk_at "rds"
      cases e with
      | send s u t g =>
        walk_at "rds"
        refine ex_dput ?_
        walk_at "rds"
        refine ⟨0, .inl t, stk g, .dat _, .dat _, _, rfl, sz_lt (by have := X.wl; simp; omega), ?_⟩
        rw [way_put]
        refine ⟨⟨_, _, rfl⟩, ?_⟩
        rw [X.st]
        rfl
      | land s u t =>
        walk_at "rds"
        have ft : (valD w.way t).isSome = true := X.ok.ft
        obtain ⟨g, hg⟩ := valD_key (valD_keys.mp ft)
        refine ⟨0, wyE w.way, .inl t, stk g, .dat _, rfl, by rw [way_val, hg]; rfl, ?_⟩
        rw [way_drop]
        refine ⟨⟨_, _, rfl⟩, ?_⟩
        rw [X.st]
        rfl
      | _ =>
        walk_at "rds"
        refine ⟨⟨_, _, rfl⟩, ?_⟩
        rw [X.st]
        rfl
    · obtain ⟨⟨z1, z2, rfl⟩, rfl⟩ := hinv
      rw [List.take_length]
      have W := Hh.wd' B
      have w1 := W.hlen
      have w2 := W.wlen
      walk_at "rds"
      refine cA [1] (by decide) ?_
      walk_at "rds"
      refine ⟨rfl, [_], rfl, _, _, rfl, rfl, by omega, ?_⟩
      walk_at "rds"
      generalize runW b h = w at *
      refine lcU (sortI (w.way.map (·.1))) .int (fun t => .tuple [.int t, stk ((valD w.way t).getD [])]) (wg_name (by decide)) ?_
      walk_at "rds"
      refine ca_sortW (by walk_at "mem") (by omega) ?_
      walk_at "rds"
      refine ⟨rfl, by rw [(sortI_perm _).length_eq, List.length_map]; omega, fun t ht => ?_, ?_⟩
      · obtain ⟨g, hg⟩ := valD_key ((sortI_perm _).mem_iff.mp ht)
        walk_at "rds"
        refine ⟨rfl, ?_⟩
        walk_at "rds"
        refine ⟨_, _, .dat _, dic_way' hg (by walk_at "mem"), ?_⟩
        walk_at "rds"
        rw [hg]
        exact ⟨.dat _, rfl⟩
      · walk_at "rds"
        have e : wayD (wayF w.way) = .tuple ((sortI (w.way.map (·.1))).map fun t => .tuple [.int t, stk ((valD w.way t).getD [])]) := by
          unfold wayF wayD
          rw [List.map_map]
          rfl
        rw [e] at p
        walk_at "fin"))
/-! ## M2 -/
/-! Plain: logs and their merging. -/
def pick (h : List Ev) (s : Str) (i : Nat) : Option (Int × Ev) := h[i]?.bind fun e => if e.sh = s then some ((i : Int), e) else none
def logAt (h : List Ev) (k : Nat) (s : Str) : List (Int × Ev) := (List.range k).filterMap (pick h s)
abbrev pairE (p : Int × Ev) : PyData := .tuple [.int p.1, evD p.2]
abbrev logD (l : List (Int × Ev)) : PyData := .tuple (l.map pairE)
abbrev LogT := List (Str × List (Int × Ev))
abbrev lgE (l : LogT) : List (Key × PyData) := l.map fun p => ((.inr p.1 : Key), logD p.2)
abbrev tbE (t : List (Int × Ev)) : List (Key × PyData) := t.map fun p => ((.inl p.1 : Key), evD p.2)
theorem pick_some {h : List Ev} {s : Str} {i : Nat} {e : Ev} (he : h[i]? = some e) (hs : e.sh = s) : pick h s i = some ((i : Int), e) := by
  unfold pick; rw [he]; show (if e.sh = s then _ else _) = _; rw [if_pos hs]
theorem pick_none {h : List Ev} {s : Str} {i : Nat} {e : Ev} (he : h[i]? = some e) (hs : ¬ e.sh = s) : pick h s i = none := by
  unfold pick; rw [he]; show (if e.sh = s then _ else _) = _; rw [if_neg hs]
theorem pick_iff {h : List Ev} {s : Str} {i : Nat} {p : Int × Ev} : pick h s i = some p ↔ p.1 = i ∧ h[i]? = some p.2 ∧ p.2.sh = s := by
  unfold pick
  cases he : h[i]? with
  | none => simp
  | some e =>
    show (if e.sh = s then some ((i : Int), e) else none) = some p ↔ _
    by_cases hs : e.sh = s
    · rw [if_pos hs]
      constructor
      · intro z; cases z; exact ⟨rfl, rfl, hs⟩
      · rintro ⟨h1, h2, h3⟩
        obtain ⟨a, b⟩ := p
        cases h2
        cases h1
        rfl
    · rw [if_neg hs]
      constructor
      · intro z; cases z
      · rintro ⟨_, h2, h3⟩
        cases h2
        exact absurd h3 hs
theorem logAt_succ {h : List Ev} {k : Nat} {s : Str} : logAt h (k + 1) s = logAt h k s ++ (pick h s k).toList := by
  unfold logAt
  rw [List.range_succ, List.filterMap_append]
  congr 1
theorem mem_logAt {h : List Ev} {k : Nat} {s : Str} {p : Int × Ev} : p ∈ logAt h k s ↔ ∃ j : Nat, j < k ∧ p.1 = j ∧ h[j]? = some p.2 ∧ p.2.sh = s := by
  unfold logAt
  rw [List.mem_filterMap]
  constructor
  · rintro ⟨j, h1, h2⟩; exact ⟨j, List.mem_range.mp h1, pick_iff.mp h2⟩
  · rintro ⟨j, h1, h2⟩; exact ⟨j, List.mem_range.mpr h1, pick_iff.mpr h2⟩
theorem logAt_asc (h : List Ev) (s : Str) : ∀ k, (logAt h k s).Pairwise fun a b => a.1 < b.1
  | 0 => by simp [logAt]
  | k + 1 => by
    rw [logAt_succ, List.pairwise_append]
    refine ⟨logAt_asc h s k, ?_, fun a ha b hb => ?_⟩
    · cases pick h s k <;> simp
    · obtain ⟨j, h1, h2, _⟩ := mem_logAt.mp ha
      have hb : pick h s k = some b := by
        cases e : pick h s k with
        | none => rw [e] at hb; cases hb
        | some c => rw [e] at hb; simp at hb; rw [hb]
      have := (pick_iff.mp hb).1
      omega
theorem logAt_len (h : List Ev) (k : Nat) (s : Str) : (logAt h k s).length ≤ k := by
  unfold logAt
  have := List.length_filterMap_le (pick h s) (List.range k)
  simpa using this
/-- the logs behind k events -/
structure LogOk (h : List Ev) (k : Nat) (l : LogT) : Prop where
  nd : (l.map (·.1)).Nodup
  len : l.length ≤ k
  val : ∀ s x, valD l s = some x → x = logAt h k s
  key : ∀ (j : Nat) e, j < k → h[j]? = some e → e.sh ∈ l.map (·.1)
theorem logok0 (h : List Ev) : LogOk h 0 [] := ⟨by simp, by simp, fun s x hx => (nomatch hx), fun j e hj => absurd hj (Nat.not_lt_zero _)⟩
theorem logok_step {h : List Ev} {k : Nat} {l : LogT} {e : Ev} (L : LogOk h k l) (he : h[k]? = some e) : LogOk h (k + 1) (putD l e.sh ((valD l e.sh).getD [] ++ [((k : Int), e)])) := by
  refine ⟨putD_nodup L.nd, Nat.le_trans (putD_len _ _ _) (Nat.succ_le_succ L.len), fun s x hx => ?_, fun j e' hj he' => ?_⟩
  · rw [valD_put] at hx
    by_cases c : e.sh = s
    · rw [if_pos c] at hx
      subst c
      cases hx
      rw [logAt_succ, pick_some he rfl]
      congr 1
      cases hv : valD l e.sh with
      | some y => exact L.val _ _ hv
      | none =>
        show [] = logAt h k e.sh
        cases hl : logAt h k e.sh with
        | nil => rfl
        | cons p r =>
          exfalso
          have hp : p ∈ logAt h k e.sh := by rw [hl]; exact List.mem_cons_self
          obtain ⟨j, h1, h2, h3, h4⟩ := mem_logAt.mp hp
          have := valD_keys.mpr (L.key j _ h1 h3)
          rw [h4, hv] at this
          cases this
    · rw [if_neg c] at hx
      rw [logAt_succ, pick_none he c]
      simpa using L.val s x hx
  · rw [putD_keys]
    by_cases hlt : j < k
    · have := L.key j e' hlt he'
      split
      · exact this
      · exact List.mem_append_left _ this
    · have : j = k := by omega
      subst this
      rw [he] at he'
      cases he'
      split
      · assumption
      · exact List.mem_append_right _ (List.mem_singleton.mpr rfl)
theorem LogOk.get {h : List Ev} {k : Nat} {l : LogT} (L : LogOk h k l) {s : Str} (hs : s ∈ l.map (·.1)) : valD l s = some (logAt h k s) := by
  obtain ⟨x, hx⟩ := valD_key hs
  rw [hx, L.val s x hx]
theorem inr_inj (a b : Str) (h : (Sum.inr a : Key) = Sum.inr b) : a = b := Sum.inr.inj h
theorem lg_val (l : LogT) (s : Str) : valD (lgE l) (.inr s) = (valD l s).map logD := valD_map inr_inj l s
theorem lg_put (l : LogT) (s : Str) (x : List (Int × Ev)) : putD (lgE l) (.inr s) (logD x) = lgE (putD l s x) := putD_map (g := logD) inr_inj l s x
theorem tb_val (t : List (Int × Ev)) (i : Int) : valD (tbE t) (.inl i) = (valD t i).map evD := valD_map inl_inj t i
theorem tb_put (t : List (Int × Ev)) (i : Int) (e : Ev) : putD (tbE t) (.inl i) (evD e) = tbE (putD t i e) := putD_map (g := evD) inl_inj t i e
section
variable {μ : Mu}
theorem dic_log {a : Addr} {l : LogT} (s : Str) (m : (a, Ob.dk (lgE l)) ∈ μ) : DicS μ a (.str s) ((valD l s).map logD) := by
  rw [← lg_val]; exact DicS.k (.inr s) m
theorem dic_tb {a : Addr} {t : List (Int × Ev)} (i : Int) (m : (a, Ob.dk (tbE t)) ∈ μ) : DicS μ a (.int i) ((valD t i).map evD) := by
  rw [← tb_val]; exact DicS.k (.inl i) m
end
/-- the table of events behind some shards, and m events of the one at hand -/
structure TbOk (h : List Ev) (done : List Str) (part : List (Int × Ev)) (t : List (Int × Ev)) : Prop where
  nd : (t.map (·.1)).Nodup
  mem : ∀ p, p ∈ t ↔ (∃ j : Nat, p.1 = j ∧ h[j]? = some p.2 ∧ p.2.sh ∈ done) ∨ p ∈ part
  len : t.length ≤ h.length
theorem tb_len {h : List Ev} {t : List (Int × Ev)} (nd : (t.map (·.1)).Nodup) (hm : ∀ p ∈ t, ∃ j : Nat, p.1 = j ∧ j < h.length) : t.length ≤ h.length := by
  have : (t.map (·.1)) ⊆ (List.range h.length).map fun (i : Nat) => (i : Int) := by
    intro x hx
    obtain ⟨p, hp, rfl⟩ := List.mem_map.mp hx
    obtain ⟨j, h1, h2⟩ := hm p hp
    exact List.mem_map.mpr ⟨j, List.mem_range.mpr h2, h1.symm⟩
  have := nd.length_le_of_subset this
  simpa using this
theorem tb_new {h : List Ev} {done : List Str} {part t : List (Int × Ev)} {i : Int} {e : Ev} (T : TbOk h done part t) (hd : e.sh ∉ done) {j : Nat} (hj : i = j) (he : h[j]? = some e) (hp : ∀ p ∈ part, p.1 < i) : valD t i = none := by
  cases hv : valD t i with
  | none => rfl
  | some e' =>
    exfalso
    rcases (T.mem _).mp (valD_mem hv) with ⟨j', h1, h2, h3⟩ | h1
    · have h1 : i = (j' : Int) := h1
      have : j' = j := by omega
      subst this
      rw [he] at h2
      cases h2
      exact hd h3
    · have := hp _ h1
      exact absurd this (Int.lt_irrefl _)
theorem tb_add {h : List Ev} {done : List Str} {part t : List (Int × Ev)} {i : Int} {e : Ev} (T : TbOk h done part t) (hn : valD t i = none) {j : Nat} (hj : i = j) (he : h[j]? = some e) (hpart : ∀ p ∈ part, ∃ j : Nat, p.1 = j ∧ j < h.length) : TbOk h done (part ++ [(i, e)]) (putD t i e) := by
  have nk : i ∉ t.map (·.1) := fun z => by
    have := valD_keys.mpr z
    rw [hn] at this
    cases this
  have ep : putD t i e = t ++ [(i, e)] := by
    unfold putD
    have : (t.any fun x => decide (x.1 = i)) = false := by
      rw [List.any_eq_false]
      intro x hx hc
      exact nk (List.mem_map.mpr ⟨x, hx, of_decide_eq_true hc⟩)
    rw [this]
    rfl
  have hm : ∀ p, p ∈ putD t i e ↔ (∃ j : Nat, p.1 = j ∧ h[j]? = some p.2 ∧ p.2.sh ∈ done) ∨ p ∈ part ++ [(i, e)] := fun p => by
    rw [ep, List.mem_append, T.mem, List.mem_append, or_assoc]
  refine ⟨putD_nodup T.nd, hm, tb_len (putD_nodup T.nd) fun p hp => ?_⟩
  rcases (hm p).mp hp with ⟨j, h1, h2, _⟩ | h1
  · exact ⟨j, h1, (List.getElem?_eq_some_iff.mp h2).1⟩
  · rcases List.mem_append.mp h1 with h1 | h1
    · exact hpart p h1
    · rw [List.mem_singleton] at h1
      subst h1
      exact ⟨j, hj, (List.getElem?_eq_some_iff.mp he).1⟩
theorem tb_done {h : List Ev} {done : List Str} {s : Str} {t : List (Int × Ev)} (T : TbOk h done (logAt h h.length s) t) : TbOk h (done ++ [s]) [] t := by
  refine ⟨T.nd, fun p => ?_, T.len⟩
  rw [T.mem, mem_logAt]
  constructor
  · rintro (⟨j, h1, h2, h3⟩ | ⟨j, h1, h2, h3, h4⟩)
    · exact .inl ⟨j, h1, h2, List.mem_append_left _ h3⟩
    · exact .inl ⟨j, h2, h3, List.mem_append_right _ (List.mem_singleton.mpr h4)⟩
  · rintro (⟨j, h1, h2, h3⟩ | h1)
    · rcases List.mem_append.mp h3 with h3 | h3
      · exact .inl ⟨j, h1, h2, h3⟩
      · exact .inr ⟨j, (List.getElem?_eq_some_iff.mp h2).1, h1, h2, List.mem_singleton.mp h3⟩
    · cases h1
theorem tb_end {h : List Ev} {done : List Str} {t : List (Int × Ev)} (T : TbOk h done [] t) (hd : ∀ (j : Nat) e, h[j]? = some e → e.sh ∈ done) : (∀ (j : Nat) e, h[j]? = some e → valD t j = some e) ∧ t.length = h.length ∧ sortI (t.map (·.1)) = (List.range h.length).map fun (i : Nat) => (i : Int) := by
  have hv : ∀ (j : Nat) e, h[j]? = some e → valD t j = some e := fun j e he => valD_of_mem T.nd ((T.mem _).mpr (.inl ⟨j, rfl, he, hd j e he⟩))
  have pm : (t.map (·.1)).Perm ((List.range h.length).map fun (i : Nat) => (i : Int)) := by
    refine (List.perm_ext_iff_of_nodup T.nd ?_).mpr fun x => ?_
    · rw [List.Nodup, List.pairwise_map]
      exact List.nodup_range.imp fun h z => h (by omega)
    · constructor
      · intro hx
        obtain ⟨p, hp, rfl⟩ := List.mem_map.mp hx
        rcases (T.mem p).mp hp with ⟨j, h1, h2, _⟩ | h1
        · exact List.mem_map.mpr ⟨j, List.mem_range.mpr (List.getElem?_eq_some_iff.mp h2).1, h1.symm⟩
        · cases h1
      · intro hx
        obtain ⟨j, hj, rfl⟩ := List.mem_map.mp hx
        have hj := List.mem_range.mp hj
        exact valD_keys.mp (by rw [hv j h[j] (List.getElem?_eq_getElem hj)]; rfl)
  refine ⟨hv, by simpa using pm.length_eq, ?_⟩
  refine (sortI_eq pm.symm ?_).symm
  rw [List.pairwise_map]
  exact List.pairwise_lt_range.imp fun h => by omega
/-! ## F5 -/
theorem strok_of {x : Str} (h : NmOk x) : PyData.strOk x = true := by
  unfold PyData.strOk
  rw [← Array.all_toList, List.all_eq_true]
  intro c hc
  rcases h.all c hc with h | h
  · unfold isLow at h; simp at h; simp; omega
  · unfold isDig at h; simp at h; simp; omega
def aLogs : ASp := fun ss μ P => ∃ h, ss = [.dat (hD h)] ∧ μ = [] ∧ h.length ≤ 60 ∧ ∀ p l, LogOk h h.length l → P (.val (.ref p)) [] [(p, .dk (lgE l))]
abbrev NLogsOf : List Str := ["history", "logs", "number", "shard"]
theorem scLogsOf : FnScope NLogsOf ["history"] (defScope sLogsOf) := ⟨rfl, rfl, rfl, by decide +kernel, rfl, by decide +kernel, by decide +kernel⟩
abbrev OkLogsOf (P : Program) (w : World) (K : PySem.W.Frag) (mg : Str → Option Value) (base : Heap) : Prop := OkG P w K mg base "logs_of" 1 ["history"] (spA K 1 aLogs)
theorem ok_LogsOf {P : Program} {w : World} {K : PySem.W.Frag} {mg : Str → Option Value} {base : Heap} (T : Tx K mg)  : OkLogsOf P w K mg base :=
  (by exact getit : Hold (OkLogsOf P w K mg base) (by
    have S := scLogsOf
    refine okG_a (m := 3) T.gLogsOf T.fLogsOf S rfl rfl (fun _ _ _ _ _ _ us hl => match us, hl with | [_], _ => rfl) fun cdv A outer s H E hr => ⟨_,
      (pss_cons (ps_set (i := 1) S.nd rfl (Or.inl rfl) pe_dnewK)
      (pss_cons (ps_for PassesOwn.never rfl (pi_range1 (by rfl) T.b_range (pa_cons (pe_callB (k_len (K := K) rfl) (by rfl) T.b_len (by decide +kernel) (pa_cons (pv 0) pa_nil)) pa_nil)) (pg_name (i := 2) S.nd rfl (Or.inl rfl)) (pss_cons (ps_set (i := 3) S.nd rfl (Or.inl rfl) (pe_ix (k_ixT (K := K) rfl) (pe_ix (k_ixT (K := K) rfl) (pv 0) (pv 2) (fun _ _ => rfl)) pe_int (fun _ _ => rfl)))
      (pss_one (ps_dput (hu_of hr) (pv 1) (pv 3) (pe_op (k_catA (K := K) rfl) (pe_dget2 (hu_of hr) (pv 1) (pv 3) (pe_tup pa_nil) ⟨rfl, rfl, rfl, rfl⟩) (pe_tup (pa_cons (pe_tup (pa_cons (pv 2) (pa_cons (pe_ix (k_ixT (K := K) rfl) (pv 0) (pv 2) (fun _ _ => rfl)) pa_nil))) pa_nil))) rfl))))
      (pss_one (ps_ret (pv 1))))), ?_⟩
    rintro ss μ P' ⟨h, rfl, rfl, hl, p⟩
    walk_at "rds"
    refine ev_dnewK fun a => ?_
    walk_at "rds"
    rw [rangeD_len]
    refine ⟨by omega, fun k δ' μ' => (∃ z1 z2 l, δ' = [.dat (hD h), .val (.ref a), z1, z2] ∧ LogOk h k l ∧ μ' = [(a, .dk (lgE l))]), ⟨_, _, [], rfl, logok0 h, rfl⟩, fun k d δ' μ' hd hinv => ?_, fun δ' μ' hinv => ?_⟩
    · obtain ⟨z1, z2, l, rfl, L, rfl⟩ := hinv
      obtain ⟨hk, rfl⟩ := range0 hd
      have he : h[k]? = some h[k] := List.getElem?_eq_getElem hk
      generalize h[k] = e at he
      walk_at "rds"
      refine ex_dput ?_
      walk_at "rds"
      refine ⟨_, _, _, .dat _, .dat _, dic_log e.sh (by walk_at "mem"), ?_⟩
      have eg : ((valD l e.sh).map logD).getD (.tuple []) = logD ((valD l e.sh).getD []) := by cases valD l e.sh <;> rfl
      rw [eg]
      walk_at "rds"
      refine op_catD (sz_lt ?_) ?_
      · rw [List.length_map]
        have : ((valD l e.sh).getD []).length ≤ k := by
          cases hv : valD l e.sh with
          | none => exact Nat.zero_le _
          | some x => rw [L.val _ _ hv]; exact logAt_len _ _ _
        simp
        omega
      walk_at "rds"
      have L2 := logok_step L he
      refine ⟨0, .inr e.sh, logD ((valD l e.sh).getD [] ++ [((k : Int), e)]), ?_, .dat _, _, rfl, sz_lt ?_, ?_⟩
      · unfold logD
        rw [List.map_append]
        exact .dat _
      · have := L.len
        simp
        omega
      · rw [lg_put]
        exact ⟨_, _, _, rfl, L2, rfl⟩
    · obtain ⟨z1, z2, l, rfl, L, rfl⟩ := hinv
      walk_at "rds"
      have p := p a l L
      walk_at "finA"))
def aMerged : ASp := fun ss μ P => ∃ a h l, ss = [.val (.ref a)] ∧ μ = [(a, .dk (lgE l))] ∧ LogOk h h.length l ∧ h.length ≤ 60 ∧ (∀ (j : Nat) e, h[j]? = some e → PyData.strOk e.sh = true) ∧ P (.dat (hD h)) [.dk (lgE l)] []
theorem rangeD_ints (n : Nat) : rangeD 0 n = ((List.range n).map fun (i : Nat) => (i : Int)).map .int := by
  unfold rangeD
  rw [List.map_map]
  exact List.map_congr_left fun i _ => by show PyData.int (0 + (i : Int)) = PyData.int i; rw [Int.zero_add]
abbrev NMerged : List Str := ["logs", "events", "shard", "last", "number", "event"]
theorem scMerged : FnScope NMerged ["logs"] (defScope sMerged) := ⟨rfl, rfl, rfl, by decide +kernel, rfl, by decide +kernel, by decide +kernel⟩
abbrev OkMerged (P : Program) (w : World) (K : PySem.W.Frag) (mg : Str → Option Value) (base : Heap) : Prop := OkG P w K mg base "merged" 1 ["logs"] (spA K 1 aMerged)
theorem ok_Merged {P : Program} {w : World} {K : PySem.W.Frag} {mg : Str → Option Value} {base : Heap} (T : Tx K mg)  : OkMerged P w K mg base :=
  (by exact getit : Hold (OkMerged P w K mg base) (by
    have S := scMerged
    refine okG_a (m := 5) T.gMerged T.fMerged S rfl rfl (fun _ _ _ _ _ _ us hl => match us, hl with | [_], _ => rfl) fun cdv A outer s H E hr => ⟨_,
      (pss_cons (ps_set (i := 1) S.nd rfl (Or.inr rfl) pe_dnewK)
      (pss_cons (ps_for PassesOwn.never rfl (k_list (K := K) rfl (pe_callB (cr_sortDS rfl) (by rfl) T.b_sorted (by decide +kernel) (pa_cons (pv 0) pa_nil))) (pg_name (i := 2) S.nd rfl (Or.inl rfl)) (pss_cons (ps_set (i := 3) S.nd rfl (Or.inl rfl) (pe_un un_neg pe_int))
      (pss_one (ps_for PassesOwn.never rfl (k_tupI (K := K) rfl (pe_dget (hu_of hr) (pv 0) (pv 2) (fun _ _ => rfl))) (k_ptup (K := K) 2 rfl rfl (pgs_cons (pg_name (i := 4) S.nd rfl (Or.inl rfl)) (pgs_cons (pg_name (i := 5) S.nd rfl (Or.inl rfl)) pgs_nil))) (pss_cons (ps_if (PW.pt (pw_or (pt_cmpR op_le (pv 4) (pv 3) (nomark _)) (pw_or (pt_cmp (pc_din (hu_of hr) (pv 4) (pv 1)) rfl) (pw_or1 (pt_cmpR (k_ne (K := K) rfl hr.units) (pe_ix (k_ixT (K := K) rfl) (pv 5) pe_int (fun _ _ => rfl)) (pv 2) (nomark _)))))) (pss_one ps_never) pss_nil)
      (pss_cons (ps_set (i := 3) S.nd rfl (Or.inl rfl) (pv 4))
      (pss_one (ps_dput (hu_of hr) (pv 1) (pv 4) (pv 5) rfl))))))))
      (pss_cons (ps_if (pt_cmpR (k_ne (K := K) rfl hr.units) (pe_callB (cr_sortDI rfl) (by rfl) T.b_sorted (by decide +kernel) (pa_cons (pv 1) pa_nil)) (pe_listRg rfl (by rfl) T.b_list (prg_1 (by rfl) T.b_range (pe_callB call_lenDk (by rfl) T.b_len (by decide +kernel) (pa_cons (pv 1) pa_nil)))) (nomark _)) (pss_one ps_never) pss_nil)
      (pss_one (ps_ret (pe_callTy (k_tup (K := K) rfl) (by rfl) T.b_tuple (by decide +kernel) (pa_cons (pe_lc (own := [("number", 4)]) (tt := tYes) rfl S.nd (pi_range1 (by rfl) T.b_range (pa_cons (pe_callB call_lenDk (by rfl) T.b_len (by decide +kernel) (pa_cons (pv 1) pa_nil)) pa_nil)) (blkOk_by (N := NMerged) (sc := defScope sMerged) (by decide +kernel)) (fun _ _ _ _ _ => (pg_name (i := 4) S.nd rfl (Or.inl rfl))) (fun _ _ _ _ _ => pts_nil) (fun _ _ _ _ _ => (pe_dget (hu_of hr) (pv 1) (pv 4) (fun _ _ => rfl)))) pa_nil))))))), ?_⟩
    rintro ss μ P' ⟨a, h, l, rfl, rfl, L, hl, hs, p⟩
    walk_at "rds"
    refine ev_dnewK fun ev => ?_
    walk_at "rds"
    refine ca_sortDS (ks := l.map (·.1)) (by walk_at "mem") (by simp) (by have := L.len; simp; omega) fun ys hy => ?_
    walk_at "rds"
    have ynd : ys.Nodup := hy.nodup_iff.mpr L.nd
    refine ⟨fun j δ' μ' => (∃ z1 z2 z3 z4 t, δ' = [.val (.ref a), .val (.ref ev), z1, z2, z3, z4] ∧ TbOk h (ys.take j) [] t ∧ μ' = [(ev, .dk (tbE t)), (a, .dk (lgE l))]), ⟨_, _, _, _, [], rfl, ⟨by simp, fun p => by simp, by simp⟩, rfl⟩, fun j d δ' μ' hd hinv => ?_, fun δ' μ' hinv => ?_⟩
    · obtain ⟨z1, z2, z3, z4, t, rfl, Tb, rfl⟩ := hinv
      obtain ⟨s, hsj, rfl⟩ := of_map hd
      have sm : s ∈ l.map (·.1) := hy.mem_iff.mp (List.mem_of_getElem? hsj)
      have snd : s ∉ ys.take j := fun z => by
        obtain ⟨i, hi, e⟩ := List.mem_iff_getElem.mp z
        rw [List.getElem_take] at e
        have h1 := List.getElem?_eq_some_iff.mp hsj
        obtain ⟨h1, h2⟩ := h1
        have := (List.getElem_inj ynd).mp (e.trans h2.symm)
        simp at hi
        omega
      walk_at "rds"
      refine ⟨_, logD (logAt h h.length s), .dat _, by have := dic_log s (μ := [(ev, .dk (tbE t)), (a, .dk (lgE l))]) (by walk_at "mem"); rw [L.get sm] at this; exact this, ?_⟩
      walk_at "rds"
      refine ⟨fun m δ' μ' => (∃ z3 z4 t la, δ' = [.val (.ref a), .val (.ref ev), .dat (.str s), .dat (.int la), z3, z4] ∧ TbOk h (ys.take j) ((logAt h h.length s).take m) t ∧ (∀ (i : Nat) p, (logAt h h.length s)[i]? = some p → m ≤ i → la < p.1) ∧ μ' = [(ev, .dk (tbE t)), (a, .dk (lgE l))]), ⟨_, _, t, -1, rfl, Tb, fun i p hp _ => ?_, rfl⟩, fun m d δ' μ' hd hinv => ?_, fun δ' μ' hinv => ?_⟩
      · obtain ⟨q, _, e, _⟩ := mem_logAt.mp (List.mem_of_getElem? hp)
        omega
      · obtain ⟨z3, z4, t, la, rfl, Tb, hla, rfl⟩ := hinv
        obtain ⟨⟨i, e⟩, hm, rfl⟩ := of_map hd
        obtain ⟨q, hq, eq, he, es⟩ := mem_logAt.mp (List.mem_of_getElem? hm)
        have es : e.sh = s := es
        have he : h[q]? = some e := he
        have so := hs q e he
        have asc : ∀ p ∈ (logAt h h.length s).take m, p.1 < i := fun p hp => by
          obtain ⟨i', hi, e'⟩ := List.mem_iff_getElem.mp hp
          rw [List.getElem_take] at e'
          simp at hi
          obtain ⟨hm1, hm2⟩ := List.getElem?_eq_some_iff.mp hm
          have := (List.pairwise_iff_getElem.mp (logAt_asc h s h.length)) i' m (by omega) hm1 (by omega)
          rw [e', hm2] at this
          exact this
        have hn := tb_new Tb (by rw [es]; exact snd) eq he asc
        walk_at "rds0"
        refine ex_ifP false ?_ (fun h => nomatch h) (fun _ => ?_)
        · refine et_orP false false ?_ (fun _ => et_orP false false ?_ (fun _ => ?_) ⟨rfl, rfl⟩) ⟨rfl, rfl⟩
          · walk_at "rds"
            have := hla m _ hm (Nat.le_refl _)
            exact ⟨decide_eq_false (by have : la < i := this; omega), rfl⟩
          · walk_at "rds"
            refine ⟨_, _, _, rfl, .dat _, dic_tb i (by walk_at "mem"), ?_⟩
            walk_at "rds"
            exact ⟨by rw [hn]; rfl, rfl⟩
          · walk_at "rds"
            refine op_ned (.dat _) (.dat _) (shn_str (n := 5) so).ok (shn_str (n := 5) (by rw [← es]; exact so)).ok ?_
            walk_at "rds"
            exact ⟨by rw [eqv_strs, es]; simp, rfl⟩
        · walk_at "rds"
          refine ex_dput ?_
          walk_at "rds"
          refine ⟨0, .inl i, evD e, .dat _, .dat _, _, rfl, sz_lt (by have := Tb.len; simp; omega), ?_⟩
          rw [tb_put]
          refine ⟨_, _, putD t i e, i, rfl, ?_, fun i' p hp hi => ?_, rfl⟩
          · rw [take_get hm]
            refine tb_add Tb hn eq he fun p hp => ?_
            obtain ⟨q', hq', e', _⟩ := mem_logAt.mp (List.mem_of_mem_take hp)
            exact ⟨q', e', hq'⟩
          · obtain ⟨hm1, hm2⟩ := List.getElem?_eq_some_iff.mp hm
            obtain ⟨hp1, hp2⟩ := List.getElem?_eq_some_iff.mp hp
            have := (List.pairwise_iff_getElem.mp (logAt_asc h s h.length)) m i' hm1 hp1 (by omega)
            rw [hm2, hp2] at this
            exact this
      · obtain ⟨z3, z4, t, la, rfl, Tb, _, rfl⟩ := hinv
        rw [List.length_map, List.take_length] at Tb
        refine ⟨_, _, _, _, t, rfl, ?_, rfl⟩
        rw [take_get hsj]
        exact tb_done Tb
    · obtain ⟨z1, z2, z3, z4, t, rfl, Tb, rfl⟩ := hinv
      rw [List.length_map, List.take_length] at Tb
      obtain ⟨tv, tn, ts⟩ := tb_end Tb fun j e he => hy.mem_iff.mpr (L.key j e (List.getElem?_eq_some_iff.mp he).1 he)
      walk_at "rds0"
      refine ex_ifP false ?_ (fun h => nomatch h) (fun _ => ?_)
      · walk_at "rds"
        refine ca_sortDI (ks := t.map (·.1)) (by walk_at "mem") (by simp) (by simp; omega) fun ys' h1 h2 => ?_
        have ey := sortI_eq h1 h2
        rw [ts] at ey
        subst ey
        walk_at "rds"
        refine ⟨t.length, rfl, by simp, by omega, ?_⟩
        rw [tn, rangeD_ints]
        refine op_ne_same (.dat _) (.dat _) (shn_lst (n := 5) fun d hd => ?_) (by decide) ?_
        · obtain ⟨x, _, rfl⟩ := List.mem_map.mp hd
          exact shn_int _
        · walk_at "rds"
          exact ⟨rfl, rfl⟩
      · walk_at "rds"
        refine lcU (List.range h.length) (fun i => .int (i : Nat)) (fun i => evD (h.getD i (.forge "" "" []))) (wg_name (by decide)) ?_
        walk_at "rds"
        refine ⟨by simp; omega, by rw [List.length_map, tn, rangeD_ints, List.map_map]; rfl, by simp; omega, fun x hx => ?_, ?_⟩
        · have hx := List.mem_range.mp hx
          have he : h[x]? = some h[x] := List.getElem?_eq_getElem hx
          have hg : h.getD x (.forge "" "" []) = h[x] := by rw [List.getD_eq_getElem?_getD, he]; rfl
          walk_at "rds"
          refine ⟨rfl, ?_⟩
          walk_at "rds"
          refine ⟨_, evD h[x], .dat _, by have := dic_tb (x : Int) (μ := [(ev, .dk (tbE t)), (a, .dk (lgE l))]) (by walk_at "mem"); rw [tv x _ he] at this; exact this, ?_⟩
          rw [hg]
          exact ⟨.dat _, rfl⟩
        · walk_at "rds"
          have e : (List.range h.length).map (fun i => evD (h.getD i (.forge "" "" []))) = h.map evD := by
            apply List.ext_getElem
            · simp
            · intro i h1 h2
              simp at h1
              simp [h1]
          rw [e]
          walk_at "finA"))
/-! ## M3 -/
/-! Plain: recalls. -/
def wayStep (h : List Ev) (w : WayT) (k : Nat) : WayT :=
  match h[k]? with
  | some e => wayE w e
  | none => w
def wayRun (h : List Ev) (l : List Nat) : WayT := l.foldl (wayStep h) []
theorem wayRun_snoc {h : List Ev} {l : List Nat} {k : Nat} {e : Ev} (he : h[k]? = some e) : wayRun h (l ++ [k]) = wayE (wayRun h l) e := by
  unfold wayRun
  rw [List.foldl_append]
  show wayStep h _ k = _
  unfold wayStep
  rw [he]
theorem wayE_len (w : WayT) (e : Ev) : (wayE w e).length ≤ w.length + 1 := by
  cases e with
  | send s u t g => exact putD_len _ _ _
  | land s u t => exact Nat.le_trans (dropD_len _ _) (Nat.le_succ _)
  | _ => exact Nat.le_succ _
theorem wayRun_len (h : List Ev) (l : List Nat) : (wayRun h l).length ≤ l.length := by
  have key : ∀ (l : List Nat) (w : WayT), (l.foldl (wayStep h) w).length ≤ w.length + l.length := by
    intro l
    induction l with
    | nil => intro w; simp
    | cons k l ih =>
      intro w
      rw [List.foldl_cons]
      refine Nat.le_trans (ih _) ?_
      have : (wayStep h w k).length ≤ w.length + 1 := by
        unfold wayStep
        cases h[k]? with
        | none => exact Nat.le_succ _
        | some e => exact wayE_len w e
      simp
      omega
  simpa [wayRun] using key l []
def WOk (h : List Ev) (l : List Nat) : Prop := ∀ (m k : Nat) s u t, l[m]? = some k → h[k]? = some (.land s u t) → (valD (wayRun h (l.take m)) t).isSome = true
theorem wok_snoc {h : List Ev} {l : List Nat} {k : Nat} (W : WOk h l) (hk : ∀ s u t, h[k]? = some (.land s u t) → (valD (wayRun h l) t).isSome = true) : WOk h (l ++ [k]) := by
  intro m j s u t hm hj
  by_cases c : m < l.length
  · rw [List.getElem?_append_left c] at hm
    rw [List.take_append_of_le_length (by omega)]
    exact W m j s u t hm hj
  · have : m = l.length := by
      have := (List.getElem?_eq_some_iff.mp hm).1
      simp at this
      omega
    subst this
    simp at hm
    subst hm
    rw [List.take_left]
    exact hk s u t hj
/-- a ticket lands once -/
theorem land_gone {b : Bk} {h : List Ev} (B : BkOk b) (H : Hist b h) {j : Nat} {s u : Str} {t : Int} (hj : h[j]? = some (.land s u t)) : ∀ k, j < k → k ≤ h.length → t ∈ (runW b (h.take k)).tks ∧ valD (runW b (h.take k)).way t = none := by
  intro k
  induction k with
  | zero => intro h; omega
  | succ k ih =>
    intro h1 h2
    obtain ⟨e, X⟩ := H.at B (show k < h.length by omega)
    rw [X.st]
    generalize runW b (h.take k) = w at *
    by_cases c : j = k
    · subst c
      have he := X.eg
      rw [hj] at he
      cases he
      refine ⟨?_, ?_⟩
      · show t ∈ w.tks
        rw [X.wd.tks]
        have ft : (valD w.way t).isSome = true := X.ok.ft
        obtain ⟨g, hg⟩ := valD_key (valD_keys.mp ft)
        rw [X.wd.sent t g hg]
        rfl
      · show valD (dropD w.way t) t = none
        rw [valD_drop, if_pos rfl]
    · obtain ⟨i1, i2⟩ := ih (by omega) (by omega)
      have ft := X.ok.ft
      cases e with
      | send s' u' t' g =>
        have ft : t' ∉ w.tks := ft
        have ne : ¬ t' = t := fun z => ft (by rw [z]; exact i1)
        exact ⟨List.mem_append_left _ i1, by show valD (putD w.way t' g) t = none; rw [valD_put, if_neg ne]; exact i2⟩
      | land s' u' t' => exact ⟨i1, by show valD (dropD w.way t') t = none; rw [valD_drop]; split <;> first | rfl | exact i2⟩
      | make s' u' m g => exact ⟨i1, i2⟩
      | hand s' u' o g => exact ⟨i1, i2⟩
      | forge s' u' g => exact ⟨i1, i2⟩
theorem land_once {b : Bk} {h : List Ev} (B : BkOk b) (H : Hist b h) {j k : Nat} {s u s' u' : Str} {t : Int} (hj : h[j]? = some (.land s u t)) (hk : h[k]? = some (.land s' u' t)) (lt : j < k) : False := by
  have hl := (List.getElem?_eq_some_iff.mp hk).1
  have h1 := (land_gone B H hj k lt (by omega)).2
  have h2 := (H.ok k _ hk).ft
  have h2 : (valD (runW b (h.take k)).way t).isSome = true := h2
  rw [h1] at h2
  cases h2
/-! ### strike -/
structure Sk where
  held : HeldT
  stands : List Nat
  struck : List Nat
  sent : List Int
def landS (s : Sk) : Ev → Bool
  | .land _ _ t => !decide (t ∈ s.sent)
  | _ => false
def condS (s : Sk) (r : Rw) (e : Ev) : Bool := landS s e || !posF s.held r
def skStep (b : Bk) (h : List Ev) (rc : List Int) (s : Sk) (k : Nat) : Sk :=
  match h[k]? with
  | none => s
  | some e =>
    if (k : Int) ∈ rc then s
    else if condS s (flowF b h e) e = true then { s with struck := s.struck ++ [k] }
    else { s with held := carF s.held (flowF b h e), stands := s.stands ++ [k], sent := tksE s.sent e }
def skRun (b : Bk) (h : List Ev) (rc : List Int) (k : Nat) : Sk := (List.range k).foldl (skStep b h rc) ⟨[], [], [], []⟩
theorem skRun_succ (b : Bk) (h : List Ev) (rc : List Int) (k : Nat) : skRun b h rc (k + 1) = skStep b h rc (skRun b h rc k) k := by
  unfold skRun
  rw [List.range_succ, List.foldl_append]
  rfl
structure SkOk (b : Bk) (h : List Ev) (k : Nat) (s : Sk) : Prop where
  hl : ∀ p ∈ s.held, p.2.length = b.n
  hn : s.held.length ≤ 2 * k
  sn : s.stands.length ≤ k
  sk : ∀ j ∈ s.stands, j < k
  kn : s.struck.length ≤ k
  tn : s.sent.length ≤ k
  wok : WOk h s.stands
  snt : ∀ t ∈ s.sent, (valD (wayRun h s.stands) t).isSome = true ∨ ∃ j ∈ s.stands, ∃ x u, h[j]? = some (.land x u t)
theorem carF_lens {n : Nat} {h : HeldT} {r : Rw} (R : HrOk n h r) : ∀ q ∈ carF h r, q.2.length = n := by
  have h1 := carT_len R
  intro q hq
  unfold carF at hq
  cases e : r.getter with
  | none => rw [e] at hq; exact h1 q hq
  | some k =>
    rw [e] at hq
    rcases putD_mem hq with z | z
    · subst z
      show (addS (getH (carT h r) k r.give.length) r.give).length = n
      rw [addS, zip_len (by rw [R.gl]; exact getH_len h1 k), R.gl]
      exact getH_len h1 k
    · exact h1 q z
theorem skok {b : Bk} {h : List Ev} {rc : List Int} (B : BkOk b) (H : Hist b h) : ∀ k, k ≤ h.length → SkOk b h k (skRun b h rc k)
  | 0, _ => ⟨fun p hp => (nomatch hp), Nat.le_refl _, Nat.le_refl _, fun p hp => (nomatch hp), Nat.le_refl _, Nat.le_refl _, fun m k s u t hm => (by simp [skRun] at hm), fun t ht => (nomatch ht)⟩
  | k + 1, hk => by
    have S := skok (rc := rc) B H k (by omega)
    obtain ⟨e, X⟩ := H.at B (show k < h.length by omega)
    rw [skRun_succ]
    generalize skRun b h rc k = s at *
    unfold skStep
    rw [X.eg]
    show SkOk b h (k + 1) (if (k : Int) ∈ rc then s else _)
    have up : SkOk b h (k + 1) s := ⟨S.hl, by have := S.hn; omega, by have := S.sn; omega, fun j hj => Nat.lt_succ_of_lt (S.sk j hj), by have := S.kn; omega, by have := S.tn; omega, S.wok, S.snt⟩
    split
    · exact up
    split
    · exact ⟨up.hl, up.hn, up.sn, up.sk, by have := S.kn; simp; omega, up.tn, up.wok, up.snt⟩
    · rename_i hc
      have R : HrOk b.n s.held (flowF b h e) := by rw [X.fe]; exact ⟨X.hr.n1, X.hr.n6, S.hl, X.hr.tl, X.hr.gl⟩
      have lands : ∀ x u t, h[k]? = some (.land x u t) → (valD (wayRun h s.stands) t).isSome = true := fun x u t hl => by
        rw [X.eg] at hl
        cases hl
        have ts : t ∈ s.sent := by
          unfold condS at hc
          by_cases c : t ∈ s.sent
          · exact c
          · exfalso; exact hc (by simp [landS, c])
        rcases S.snt t ts with z | ⟨j, hj, x', u', hj'⟩
        · exact z
        · exact (land_once B H hj' X.eg (S.sk j hj)).elim
      refine ⟨carF_lens R, ?_, by have := S.sn; simp; omega, fun j hj => ?_, up.kn, ?_, wok_snoc S.wok lands, fun t ht => ?_⟩
      · have := carF_len s.held (flowF b h e)
        have := S.hn
        show (carF s.held (flowF b h e)).length ≤ _
        omega
      · rcases List.mem_append.mp hj with hj | hj
        · exact Nat.lt_succ_of_lt (S.sk j hj)
        · rw [List.mem_singleton] at hj; omega
      · show (tksE s.sent e).length ≤ _
        have := S.tn
        cases e <;> simp [tksE] <;> omega
      · have ht : t ∈ tksE s.sent e := ht
        show (valD (wayRun h (s.stands ++ [k])) t).isSome = true ∨ ∃ j ∈ s.stands ++ [k], _
        rw [wayRun_snoc X.eg]
        have old : t ∈ s.sent → (valD (wayE (wayRun h s.stands) e) t).isSome = true ∨ ∃ j ∈ s.stands ++ [k], ∃ x u, h[j]? = some (.land x u t) := fun ho => by
          rcases S.snt t ho with z | ⟨j, hj, q⟩
          · cases e with
            | send x u t' g => left; show (valD (putD _ t' g) t).isSome = true; rw [valD_put]; split <;> first | rfl | exact z
            | land x u t' =>
              by_cases c : t' = t
              · right; subst c; exact ⟨k, List.mem_append_right _ (List.mem_singleton.mpr rfl), x, u, X.eg⟩
              · left; show (valD (dropD _ t') t).isSome = true; rw [valD_drop, if_neg c]; exact z
            | make x u m g => exact .inl z
            | hand x u o g => exact .inl z
            | forge x u g => exact .inl z
          · exact .inr ⟨j, List.mem_append_left _ hj, q⟩
        cases e with
        | send x u t' g =>
          rcases List.mem_append.mp ht with ho | ho
          · exact old ho
          · rw [List.mem_singleton] at ho
            subst ho
            left
            show (valD (putD _ t g) t).isSome = true
            rw [valD_put, if_pos rfl]
            rfl
        | land x u t' => exact old ht
        | make x u m g => exact old ht
        | hand x u o g => exact old ht
        | forge x u g => exact old ht
/-! ### refunds -/
def keptF (h : List Ev) (rc : List Int) : List Nat := (List.range h.length).filter fun (i : Nat) => !decide ((i : Int) ∈ rc)
abbrev Lk := Nat × SS × List Int
structure Lc where
  held : HeldT
  found : List Lk
def lkRow (n : Nat) (k : Nat) (h : HeldT) (r : Rw) : List Lk :=
  match r.taker with
  | some p => if r.take.any (· != 0) = true then [(k, p, maxS (zr n) (subS r.take (getH h p n)))] else []
  | none => []
def lcStep (b : Bk) (h : List Ev) (s : Lc) (k : Nat) : Lc :=
  match h[k]? with
  | none => s
  | some e => ⟨carF s.held (flowF b h e), s.found ++ lkRow b.n k s.held (flowF b h e)⟩
def lcRun (b : Bk) (h : List Ev) (l : List Nat) : Lc := l.foldl (lcStep b h) ⟨[], []⟩
theorem lcRun_snoc {b : Bk} {h : List Ev} {l : List Nat} {k : Nat} {e : Ev} (he : h[k]? = some e) : lcRun b h (l ++ [k]) = ⟨carF (lcRun b h l).held (flowF b h e), (lcRun b h l).found ++ lkRow b.n k (lcRun b h l).held (flowF b h e)⟩ := by
  unfold lcRun
  rw [List.foldl_append]
  show lcStep b h _ k = _
  unfold lcStep
  rw [he]
/-- n entries, none beyond M -/
def AbOk (n : Nat) (M : Int) (s : List Int) : Prop := s.length = n ∧ ∀ x ∈ s, -M ≤ x ∧ x ≤ M
theorem AbOk.mono {n : Nat} {M M' : Int} {s : List Int} (h : AbOk n M s) (hm : M ≤ M') : AbOk n M' s := ⟨h.1, fun x hx => by have := h.2 x hx; omega⟩
theorem StOk.ab {n : Nat} {M : Int} {s : List Int} (h : StOk n M s) : AbOk n M s := ⟨h.1, fun x hx => by have := h.2 x hx; omega⟩
theorem ab_zip {n : Nat} {M M' : Int} {a b : List Int} {f : Int → Int → Int} (ha : AbOk n M a) (hb : AbOk n M' b) (hf : ∀ x y, -M ≤ x → x ≤ M → -M' ≤ y → y ≤ M' → -(M + M') ≤ f x y ∧ f x y ≤ M + M') : AbOk n (M + M') (List.zipWith f a b) := by
  refine ⟨by rw [zip_len (by rw [ha.1, hb.1]), ha.1], fun z hz => ?_⟩
  obtain ⟨i, x, y, h1, h2, rfl⟩ := zip_mem hz
  have p1 := ha.2 x (List.mem_of_getElem? h1)
  have p2 := hb.2 y (List.mem_of_getElem? h2)
  exact hf x y p1.1 p1.2 p2.1 p2.2
theorem getH_ab {n : Nat} {M : Int} {h : HeldT} (hh : ∀ q ∈ h, AbOk n M q.2) (hM : 0 ≤ M) (k : SS) : AbOk n M (getH h k n) := by
  unfold getH
  cases e : valD h k with
  | none => exact (stok_zr hM).ab
  | some s => exact hh (k, s) (valD_mem e)
theorem row_take {b : Bk} {p : List Ev} {w : Wd} {e : Ev} (B : BkOk b) (W : WdOk b p w) (O : OkE b w e) : StOk b.n (Bd p.length) (flowW b w e).take := by
  have R := row_ok B W O
  have hb := Bd_pos p.length
  have po := O.po
  cases e with
  | make s u m g =>
    obtain ⟨_, _, _, mv, hm, _⟩ := O.ev
    have et : (flowW b w (.make s u m g)).take = mv.tk := by show ((b.ms[m]?.map Mv.tk).getD []) = _; rw [hm]; rfl
    rw [et]
    exact (B.ms mv (List.mem_of_getElem? hm)).tk.mono hb
  | hand s u o g =>
    have po : covF (getH w.held (s, u) g.length) g = true := po
    have tl : g.length = b.n := R.tl
    rw [tl] at po
    exact stok_cov (getH_ok W.held (by omega) _) R.tl R.tn po
  | send s u t g =>
    have po : covF (getH w.held (s, u) g.length) g = true := po
    have tl : g.length = b.n := R.tl
    rw [tl] at po
    exact stok_cov (getH_ok W.held (by omega) _) R.tl R.tn po
  | land s u t => exact stok_zr (by omega)
  | forge s u g => exact stok_zr (by omega)
theorem HAt.rb {b : Bk} {h : List Ev} {k : Nat} {e : Ev} {w : Wd} (B : BkOk b) (hl : h.length ≤ 60) (X : HAt b h k e w) : AbOk b.n (Bd 60) (flowF b h e).take ∧ AbOk b.n (Bd 60) (flowF b h e).give := by
  have l60 : (h.take k).length ≤ 60 := by rw [List.length_take]; omega
  rw [X.fe]
  exact ⟨((row_take B X.wd X.ok).mono (Bd_mono l60)).ab, ((row_ok B X.wd X.ok).gv.mono (Bd_mono l60)).ab⟩
def LM (k : Nat) : Int := 2 * k * Bd 60
structure LcOk (b : Bk) (k : Nat) (s : Lc) : Prop where
  hl : ∀ p ∈ s.held, AbOk b.n (LM k) p.2
  hn : s.held.length ≤ 2 * k
  fl : ∀ f ∈ s.found, AbOk b.n (10 ^ 25) f.2.2
  fn : s.found.length ≤ k
theorem LM_succ (k : Nat) : LM (k + 1) = LM k + Bd 60 + Bd 60 := by
  unfold LM
  have : ((k + 1 : Nat) : Int) = (k : Int) + 1 := by omega
  rw [this]
  generalize Bd 60 = z
  have : 2 * ((k : Int) + 1) * z = 2 * k * z + 2 * z := by rw [Int.mul_add, Int.add_mul]; rfl
  rw [this]
  omega
theorem LM_nn (k : Nat) : 0 ≤ LM k := by
  induction k with
  | zero => decide
  | succ k ih => rw [LM_succ]; have := Bd_pos 60; omega
theorem LM_mono {j k : Nat} (h : j ≤ k) : LM j ≤ LM k := by
  induction h with
  | refl => exact Int.le_refl _
  | step h ih => rw [LM_succ]; have := Bd_pos 60; omega
theorem lcok_step {b : Bk} {h : List Ev} (B : BkOk b) (H : Hist b h) {j k : Nat} {s : Lc} (hj : j < h.length) (hk : k < 60) (S : LcOk b k s) {e : Ev} (he : h[j]? = some e) :
    HrOk b.n s.held (flowF b h e) ∧ LcOk b (k + 1) ⟨carF s.held (flowF b h e), s.found ++ lkRow b.n j s.held (flowF b h e)⟩ := by
  obtain ⟨e', X⟩ := H.at B hj
  have : e' = e := by have := X.eg; rw [he] at this; cases this; rfl
  subst this
  obtain ⟨r1, r2⟩ := X.rb B H.len
  generalize hr : flowF b h e' = r at *
  have b60 := Bd_pos 60
  have lk := LM_nn k
  have R : HrOk b.n s.held r := ⟨B.n1, B.n6, fun p hp => (S.hl p hp).1, r1.1, r2.1⟩
  have zsub : ∀ (M M' : Int) x y, -M ≤ x → x ≤ M → -M' ≤ y → y ≤ M' → -(M + M') ≤ x - y ∧ x - y ≤ M + M' := fun M M' x y _ _ _ _ => by omega
  have zadd : ∀ (M M' : Int) x y, -M ≤ x → x ≤ M → -M' ≤ y → y ≤ M' → -(M + M') ≤ x + y ∧ x + y ≤ M + M' := fun M M' x y _ _ _ _ => by omega
  have c1 : ∀ p ∈ carT s.held r, AbOk b.n (LM k + Bd 60) p.2 := by
    intro q hq
    unfold carT at hq
    cases ht : r.taker with
    | none => rw [ht] at hq; exact (S.hl q hq).mono (by omega)
    | some p =>
      rw [ht] at hq
      rcases putD_mem hq with z | z
      · subst z
        show AbOk b.n _ (subS (getH s.held p r.take.length) r.take)
        rw [r1.1]
        exact ab_zip (getH_ab S.hl lk p) r1 (zsub _ _)
      · exact (S.hl q z).mono (by omega)
  refine ⟨R, ⟨?_, ?_, ?_, ?_⟩⟩
  · intro q hq
    have hq : q ∈ carF s.held r := hq
    rw [LM_succ]
    unfold carF at hq
    cases hg : r.getter with
    | none => rw [hg] at hq; exact (c1 q hq).mono (by omega)
    | some p =>
      rw [hg] at hq
      rcases putD_mem hq with z | z
      · subst z
        show AbOk b.n _ (addS (getH (carT s.held r) p r.give.length) r.give)
        rw [r2.1]
        exact ab_zip (getH_ab c1 (by omega) p) r2 (zadd _ _)
      · exact (c1 q z).mono (by omega)
  · have := carF_len s.held r
    have := S.hn
    show (carF s.held r).length ≤ _
    omega
  · intro f hf
    rcases List.mem_append.mp hf with hf | hf
    · exact S.fl f hf
    · unfold lkRow at hf
      cases ht : r.taker with
      | none => rw [ht] at hf; cases hf
      | some p =>
        rw [ht] at hf
        have hf : f ∈ (if r.take.any (· != 0) = true then [(j, p, maxS (zr b.n) (subS r.take (getH s.held p b.n)))] else []) := hf
        split at hf
        · rw [List.mem_singleton] at hf
          subst hf
          have a1 := ab_zip (f := fun x y => x - y) r1 (getH_ab S.hl lk p) (zsub _ _)
          have a2 := ab_zip (f := fun x y => if y > x then y else x) (M := 0) (stok_zr (n := b.n) (Int.le_refl 0)).ab a1 (fun x y _ _ _ _ => by split <;> omega)
          refine AbOk.mono a2 ?_
          have : LM k ≤ LM 60 := LM_mono (by omega)
          have : Bd 60 + LM 60 ≤ 10 ^ 25 := by decide
          omega
        · cases hf
  · have := S.fn
    have : (lkRow b.n j s.held r).length ≤ 1 := by
      unfold lkRow
      cases r.taker with
      | none => exact Nat.zero_le _
      | some p => show (if _ then _ else _ : List Lk).length ≤ 1; split <;> simp
    show (s.found ++ lkRow b.n j s.held r).length ≤ _
    rw [List.length_append]
    omega
theorem kept_lt {h : List Ev} {rc : List Int} {j : Nat} (hj : j ∈ keptF h rc) : j < h.length := List.mem_range.mp (List.mem_filter.mp hj).1
theorem kept_len (h : List Ev) (rc : List Int) : (keptF h rc).length ≤ h.length := by
  have := List.length_filter_le (fun (i : Nat) => !decide ((i : Int) ∈ rc)) (List.range h.length)
  simpa [keptF] using this
theorem lcok {b : Bk} {h : List Ev} {rc : List Int} (B : BkOk b) (H : Hist b h) : ∀ m, m ≤ (keptF h rc).length → LcOk b m (lcRun b h ((keptF h rc).take m))
  | 0, _ => ⟨fun p hp => by simp [lcRun] at hp, by simp [lcRun], fun p hp => by simp [lcRun] at hp, by simp [lcRun]⟩
  | m + 1, hm => by
    have S := lcok (rc := rc) B H m (by omega)
    have hg : (keptF h rc)[m]? = some (keptF h rc)[m] := List.getElem?_eq_getElem hm
    have hlt := kept_lt (List.getElem_mem hm)
    have hl := kept_len h rc
    have h60 := H.len
    rw [take_get hg, lcRun_snoc (List.getElem?_eq_getElem hlt)]
    exact (lcok_step B H hlt (by omega) S (List.getElem?_eq_getElem hlt)).2
def dueStep (d : HeldT) (f : Lk) : HeldT := putD d f.2.1 (maxS ((valD d f.2.1).getD f.2.2) f.2.2)
def dueF (l : List Lk) : HeldT := l.foldl dueStep []
theorem dueF_snoc (l : List Lk) (f : Lk) : dueF (l ++ [f]) = dueStep (dueF l) f := by simp [dueF]
theorem due_ok {n : Nat} {M : Int} {l : List Lk} (hl : ∀ f ∈ l, AbOk n M f.2.2) : (∀ p ∈ dueF l, AbOk n M p.2) ∧ (dueF l).length ≤ l.length := by
  have key : ∀ (l : List Lk) (d : HeldT), (∀ f ∈ l, AbOk n M f.2.2) → (∀ p ∈ d, AbOk n M p.2) → (∀ p ∈ l.foldl dueStep d, AbOk n M p.2) ∧ (l.foldl dueStep d).length ≤ d.length + l.length := by
    intro l
    induction l with
    | nil => intro d _ hd; exact ⟨hd, by simp⟩
    | cons f l ih =>
      intro d hl hd
      have hf := hl f List.mem_cons_self
      have := ih (dueStep d f) (fun g hg => hl g (List.mem_cons_of_mem _ hg)) fun p hp => by
        rcases putD_mem hp with z | z
        · subst z
          have ha : AbOk n M ((valD d f.2.1).getD f.2.2) := by
            cases e : valD d f.2.1 with
            | none => exact hf
            | some s => exact hd _ (valD_mem e)
          refine ⟨by show (maxS _ _).length = n; rw [maxS, zip_len (by rw [ha.1, hf.1]), ha.1], fun z hz => ?_⟩
          obtain ⟨i, x, y, h1, h2, rfl⟩ := zip_mem hz
          have p1 := ha.2 x (List.mem_of_getElem? h1)
          have p2 := hf.2 y (List.mem_of_getElem? h2)
          split <;> omega
        · exact hd p z
      refine ⟨this.1, Nat.le_trans this.2 ?_⟩
      have : (dueStep d f).length ≤ d.length + 1 := putD_len _ _ _
      simp
      omega
  have := key l [] hl (fun p hp => nomatch hp)
  simpa [dueF] using this
def lacksF (b : Bk) (h : List Ev) (rc : List Int) : List Lk := (lcRun b h (keptF h rc)).found
def refundsF (b : Bk) (h : List Ev) (rc : List Int) : HeldT := shownF (dueF (lacksF b h rc))
theorem shown_ab {n : Nat} {M : Int} {d : HeldT} (hd : ∀ p ∈ d, AbOk n M p.2) : ∀ p ∈ shownF d, AbOk n M p.2 := by
  intro p hp
  unfold shownF at hp
  obtain ⟨k, hk, rfl⟩ := List.mem_map.mp hp
  obtain ⟨s, hs⟩ := valD_key ((sortK_perm _).mem_iff.mp (List.mem_filter.mp hk).1)
  show AbOk n M ((valD d k).getD [])
  rw [hs]
  exact hd _ (valD_mem hs)
theorem refunds_ab {b : Bk} {h : List Ev} {rc : List Int} (B : BkOk b) (H : Hist b h) : ∀ p ∈ refundsF b h rc, AbOk b.n (10 ^ 25) p.2 := by
  have S := lcok (rc := rc) B H _ (Nat.le_refl _)
  rw [List.take_length] at S
  exact shown_ab (due_ok S.fl).1
structure RcOk (h : List Ev) (rc : List Int) : Prop where
  mem : ∀ r ∈ rc, ∃ k : Nat, r = k ∧ ∃ s u g, h[k]? = some (.forge s u g)
  asc : rc.Pairwise (· < ·)
  ne : rc ≠ []
  len : rc.length ≤ 60
/-! ## F6 -/
def fNumber : PSp := fun ss P => ∃ v l m, ss = [.dat (.int v), .dat (.int l), .dat (.int m)] ∧ P (.dat (.bool (decide (l ≤ v) && decide (v ≤ m))))
abbrev NIsNumber : List Str := ["value", "least", "most"]
theorem scIsNumber : FnScope NIsNumber ["value", "least", "most"] (defScope sIsNumber) := ⟨rfl, rfl, rfl, by decide +kernel, rfl, by decide +kernel, by decide +kernel⟩
abbrev OkIsNumber (P : Program) (w : World) (K : PySem.W.Frag) (mg : Str → Option Value) (base : Heap) : Prop := OkG P w K mg base "is_number" 1 ["value", "least", "most"] (spP K 3 fNumber)
theorem ok_IsNumber {P : Program} {w : World} {K : PySem.W.Frag} {mg : Str → Option Value} {base : Heap} (T : Tx K mg)  : OkIsNumber P w K mg base :=
  (by exact getit : Hold (OkIsNumber P w K mg base) (by
    have S := scIsNumber
    refine okG_p (m := 0) T.gIsNumber T.fIsNumber S rfl rfl (fun _ _ _ _ _ _ us hl => match us, hl with | [_, _, _], _ => rfl) fun cdv A outer s H E hr => ⟨_,
      (pss_cons (ps_if (PW.pt (pw_or (pt_not (pt_val (pe_callB (k_isi (K := K) rfl) (by rfl) T.b_isinstance (by decide +kernel) (pa_cons (pv 0) (pa_cons (pe_bltn (v := .ty "int") (by rfl) T.b_int (by decide +kernel) rfl) pa_nil))))) (pw_or (pt_val (pe_callB (k_isi (K := K) rfl) (by rfl) T.b_isinstance (by decide +kernel) (pa_cons (pv 0) (pa_cons (pe_bltn (v := .ty "bool") (by rfl) T.b_bool (by decide +kernel) rfl) pa_nil)))) (pw_or1 (pt_cmpR op_lt (pv 0) (pv 1) (nomark _)))))) (pss_one (ps_ret pe_bl)) pss_nil)
      (pss_one (ps_ret (pe_or (pe_cmp (pc_isN (pv 2)) rfl) (pe_one (pe_cmpR op_le (pv 0) (pv 2) (nomark _))))))), ?_⟩
    rintro ss P' ⟨v, l, m, rfl, p⟩
    walk_at "rds"
    refine ⟨fun hb => ?_, fun hb => ?_⟩
    · walk_at "rds"
      have hb := of_decide_eq_true hb
      have e : (decide (l ≤ v) && decide (v ≤ m)) = false := by rw [decide_eq_false (by omega)]; rfl
      rw [e] at p
      walk_at "fin"
    · walk_at "rds"
      have hb := of_decide_eq_false hb
      have e : (decide (l ≤ v) && decide (v ≤ m)) = decide (v ≤ m) := by rw [decide_eq_true (by omega)]; rfl
      rw [e] at p
      walk_at "fin"))
def fKept : PSp := fun ss P => ∃ h rc, ss = [.dat (hD h), .dat (stk rc)] ∧ h.length ≤ 60 ∧ P (.dat (.list ((keptF h rc).map fun (i : Nat) => .int i)))
abbrev NKeptNumbers : List Str := ["history", "left_out", "number"]
theorem scKeptNumbers : FnScope NKeptNumbers ["history", "left_out"] (defScope sKeptNumbers) := ⟨rfl, rfl, rfl, by decide +kernel, rfl, by decide +kernel, by decide +kernel⟩
abbrev OkKeptNumbers (P : Program) (w : World) (K : PySem.W.Frag) (mg : Str → Option Value) (base : Heap) : Prop := OkG P w K mg base "kept_numbers" 1 ["history", "left_out"] (spP K 2 fKept)
theorem ok_KeptNumbers {P : Program} {w : World} {K : PySem.W.Frag} {mg : Str → Option Value} {base : Heap} (T : Tx K mg)  : OkKeptNumbers P w K mg base :=
  (by exact getit : Hold (OkKeptNumbers P w K mg base) (by
    have S := scKeptNumbers
    refine okG_p (m := 1) T.gKeptNumbers T.fKeptNumbers S rfl rfl (fun _ _ _ _ _ _ us hl => match us, hl with | [_, _], _ => rfl) fun cdv A outer s H E hr => ⟨_,
      (pss_one (ps_ret (pe_lc (own := [("number", 2)]) rfl S.nd (pi_range1 (by rfl) T.b_range (pa_cons (pe_callB (k_len (K := K) rfl) (by rfl) T.b_len (by decide +kernel) (pa_cons (pv 0) pa_nil)) pa_nil)) (blkOk_by (N := NKeptNumbers) (sc := defScope sKeptNumbers) (by decide +kernel)) (fun _ _ _ _ _ => (pg_name (i := 2) S.nd rfl (Or.inl rfl))) (fun _ _ _ _ _ => (pts_one (pt_cmpR (k_nin (K := K) rfl) (pv 2) (pv 1) (by rfl)))) (fun _ _ _ _ _ => (pv 2))))), ?_⟩
    rintro ss P' ⟨h, rc, rfl, hl, p⟩
    walk_at "rds"
    refine lcA (List.range h.length) (fun i => .int (i : Nat)) (fun (i : Nat) => !decide ((i : Int) ∈ rc)) (fun i => .int (i : Nat)) (wg_name (by decide)) ?_
    walk_at "rds"
    refine ⟨by omega, by rw [rangeD_ints, List.map_map]; rfl, by simp; omega, fun i hi => ?_, ?_⟩
    · walk_at "rds"
      refine ⟨rfl, ?_⟩
      walk_at "rds"
      refine op_inI (.tup _) ?_
      walk_at "rds"
      refine ⟨rfl, rfl, fun _ => ?_⟩
      walk_at "rds"
      exact ⟨.dat _, rfl⟩
    · walk_at "fin"))
def fWayOf : PSp := fun ss P => ∃ h l, ss = [.dat (hD h), .dat (.list ((l : List Nat).map fun (i : Nat) => .int i))] ∧ (∀ j ∈ l, j < h.length) ∧ l.length ≤ 60 ∧ WOk h l ∧ ∀ x, P (.dat (.tuple x))
abbrev NWayOf : List Str := ["history", "stands", "way", "number", "ticket"]
theorem scWayOf : FnScope NWayOf ["history", "stands"] (defScope sWayOf) := ⟨rfl, rfl, rfl, by decide +kernel, rfl, by decide +kernel, by decide +kernel⟩
abbrev OkWayOf (P : Program) (w : World) (K : PySem.W.Frag) (mg : Str → Option Value) (base : Heap) : Prop := OkG P w K mg base "way_of" 1 ["history", "stands"] (spP K 2 fWayOf)
theorem ok_WayOf {P : Program} {w : World} {K : PySem.W.Frag} {mg : Str → Option Value} {base : Heap} (T : Tx K mg)  : OkWayOf P w K mg base :=
  (by exact getit : Hold (OkWayOf P w K mg base) (by
    have S := scWayOf
    refine okG_p (m := 3) T.gWayOf T.fWayOf S rfl rfl (fun _ _ _ _ _ _ us hl => match us, hl with | [_, _], _ => rfl) fun cdv A outer s H E hr => ⟨_,
      (pss_cons (ps_set (i := 2) S.nd rfl (Or.inr rfl) pe_dnewK)
      (pss_cons (ps_for PassesOwn.never rfl (k_list (K := K) rfl (pv 1)) (pg_name (i := 3) S.nd rfl (Or.inl rfl)) (pss_one (ps_if (pt_cmpR (k_eq (K := K) rfl hr.units) (pe_ix (k_ixT (K := K) rfl) (pe_ix (k_ixT (K := K) rfl) (pv 0) (pv 3) (fun _ _ => rfl)) pe_int (fun _ _ => rfl)) pe_str (nomark _)) (pss_one (ps_dput (hu_of hr) (pv 2) (pe_ix (k_ixT (K := K) rfl) (pe_ix (k_ixT (K := K) rfl) (pv 0) (pv 3) (fun _ _ => rfl)) pe_int (fun _ _ => rfl)) (pe_ix (k_ixT (K := K) rfl) (pe_ix (k_ixT (K := K) rfl) (pv 0) (pv 3) (fun _ _ => rfl)) pe_int (fun _ _ => rfl)) rfl)) (pss_one (ps_if (pt_cmpR (k_eq (K := K) rfl hr.units) (pe_ix (k_ixT (K := K) rfl) (pe_ix (k_ixT (K := K) rfl) (pv 0) (pv 3) (fun _ _ => rfl)) pe_int (fun _ _ => rfl)) pe_str (nomark _)) (pss_one (ps_expr (pe_dpop1 (pv 2) (pe_ix (k_ixT (K := K) rfl) (pe_ix (k_ixT (K := K) rfl) (pv 0) (pv 3) (fun _ _ => rfl)) pe_int (fun _ _ => rfl)) ⟨rfl, rfl, rfl, rfl⟩))) pss_nil)))))
      (pss_one (ps_ret (pe_callTy (k_tup (K := K) rfl) (by rfl) T.b_tuple (by decide +kernel) (pa_cons (pe_lc (own := [("ticket", 4)]) (tt := tYes) rfl S.nd (k_list (K := K) rfl (pe_callB (cr_sortDI rfl) (by rfl) T.b_sorted (by decide +kernel) (pa_cons (pv 2) pa_nil))) (blkOk_by (N := NWayOf) (sc := defScope sWayOf) (by decide +kernel)) (fun _ _ _ _ _ => (pg_name (i := 4) S.nd rfl (Or.inl rfl))) (fun _ _ _ _ _ => pts_nil) (fun _ _ _ _ _ => (pe_tup (pa_cons (pv 4) (pa_cons (pe_dget (hu_of hr) (pv 2) (pv 4) (fun _ _ => rfl)) pa_nil))))) pa_nil)))))), ?_⟩
    rintro ss P' ⟨h, l, rfl, hlt, hl, W, p⟩
    walk_at "rds"
    refine ev_dnewK fun pw => ?_
    walk_at "rds"
    refine ⟨fun k δ' μ' => (∃ z1 z2, δ' = [.dat (hD h), .dat (.list (l.map fun (i : Nat) => .int i)), .val (.ref pw), z1, z2] ∧ μ' = [(pw, .dk (wyE (wayRun h (l.take k))))]), ⟨_, _, rfl, rfl⟩, fun k d δ' μ' hd hinv => ?_, fun δ' μ' hinv => ?_⟩
    · obtain ⟨z1, z2, rfl, rfl⟩ := hinv
      obtain ⟨j, hj, rfl⟩ := of_map hd
      have hjl := hlt j (List.mem_of_getElem? hj)
      have he : h[j]? = some h[j] := List.getElem?_eq_getElem hjl
      generalize h[j] = e at he
      have hn : wayRun h (l.take (k + 1)) = wayE (wayRun h (l.take k)) e := by rw [take_get hj, wayRun_snoc he]
      have hlen := wayRun_len h (l.take k)
      have hlen2 : (l.take k).length ≤ 60 := by rw [List.length_take]; omega
      have hw := W k j
      generalize wayRun h (l.take k) = w at *
      walk_at "rds"
      cases e with
      | send s u t g =>
        walk_at "rds"
        refine ex_dput ?_
        walk_at "rds"
        refine ⟨0, .inl t, stk g, .dat _, .dat _, _, rfl, sz_lt (by simp; omega), ?_⟩
        rw [way_put]
        exact ⟨_, _, rfl, by rw [hn]; rfl⟩
      | land s u t =>
        walk_at "rds"
        obtain ⟨g, hg⟩ := valD_key (valD_keys.mp (hw s u t hj he))
        refine ⟨0, wyE w, .inl t, stk g, .dat _, rfl, by rw [way_val, hg]; rfl, ?_⟩
        rw [way_drop]
        exact ⟨_, _, rfl, by rw [hn]; rfl⟩
      | _ =>
        walk_at "rds"
        exact ⟨_, _, rfl, by rw [hn]; rfl⟩
    · obtain ⟨z1, z2, rfl, rfl⟩ := hinv
      rw [List.length_map, List.take_length]
      have hlen := wayRun_len h l
      generalize wayRun h l = w at *
      walk_at "rds"
      refine lcU (sortI (w.map (·.1))) .int (fun t => .tuple [.int t, stk ((valD w t).getD [])]) (wg_name (by decide)) ?_
      walk_at "rds"
      refine ca_sortW (by walk_at "mem") (by omega) ?_
      walk_at "rds"
      refine ⟨rfl, by rw [(sortI_perm _).length_eq, List.length_map]; omega, fun t ht => ?_, ?_⟩
      · obtain ⟨g, hg⟩ := valD_key ((sortI_perm _).mem_iff.mp ht)
        walk_at "rds"
        refine ⟨rfl, ?_⟩
        walk_at "rds"
        refine ⟨_, _, .dat _, dic_way' hg (by walk_at "mem"), ?_⟩
        walk_at "rds"
        rw [hg]
        exact ⟨.dat _, rfl⟩
      · walk_at "rds"
        exact ⟨_, .refl _, p _⟩))
def fRecall : PSp := fun ss P => ∃ b h rc, ss = [.dat (bkD b), .dat (hD h), .dat (stk rc)] ∧ RcOk h rc ∧ P (.dat (.bool true))
abbrev NIsRecall : List Str := ["book", "history", "value", "k", "number"]
theorem scIsRecall : FnScope NIsRecall ["book", "history", "value"] (defScope sIsRecall) := ⟨rfl, rfl, rfl, by decide +kernel, rfl, by decide +kernel, by decide +kernel⟩
abbrev OkIsRecall (P : Program) (w : World) (K : PySem.W.Frag) (mg : Str → Option Value) (base : Heap) : Prop := OkG P w K mg base "is_recall" 2 ["book", "history", "value"] (spP K 3 fRecall)
theorem ok_IsRecall {P : Program} {w : World} {K : PySem.W.Frag} {mg : Str → Option Value} {base : Heap} (T : Tx K mg) (h_IsNumber : OkIsNumber P w K mg base) : OkIsRecall P w K mg base :=
  (by exact getit : Hold (OkIsRecall P w K mg base) (by
    have S := scIsRecall
    refine okG_p (m := 2) T.gIsRecall T.fIsRecall S rfl rfl (fun _ _ _ _ _ _ us hl => match us, hl with | [_, _, _], _ => rfl) fun cdv A outer s H E hr => ⟨_,
      (pss_cons (ps_if (PW.pt (pw_or (pt_not (pt_val (pe_callB (k_isi (K := K) rfl) (by rfl) T.b_isinstance (by decide +kernel) (pa_cons (pv 2) (pa_cons (pe_bltn (v := .ty "tuple") (by rfl) T.b_tuple (by decide +kernel) rfl) pa_nil))))) (pw_or1 (pt_not (pt_val (pe_callB (k_all (K := K) rfl rfl) (by rfl) T.b_all (by decide +kernel) (pa_cons (pe_lc (own := [("number", 4)]) (tt := tYes) rfl S.nd (k_tupI (K := K) rfl (pv 2)) (blkOk_by (N := NIsRecall) (sc := defScope sIsRecall) (by decide +kernel)) (fun _ _ _ _ _ => (pg_name (i := 4) S.nd rfl (Or.inl rfl))) (fun _ _ _ _ _ => pts_nil) (fun _ _ _ _ _ => (pe_callG h_IsNumber (hr.mono (by decide)) (pa_cons (pv 4) (pa_cons pe_int (pa_cons (pe_op op_sub (pe_callB (k_len (K := K) rfl) (by rfl) T.b_len (by decide +kernel) (pa_cons (pv 1) pa_nil)) pe_int) pa_nil)))))) pa_nil))))))) (pss_one (ps_ret pe_bl)) pss_nil)
      (pss_cons (ps_if (pt_val (pe_callB (k_any (K := K) rfl rfl) (by rfl) T.b_any (by decide +kernel) (pa_cons (pe_lc (own := [("k", 3)]) (tt := tYes) rfl S.nd (pi_range1 (by rfl) T.b_range (pa_cons (pe_op op_sub (pe_callB (k_len (K := K) rfl) (by rfl) T.b_len (by decide +kernel) (pa_cons (pv 2) pa_nil)) pe_int) pa_nil)) (blkOk_by (N := NIsRecall) (sc := defScope sIsRecall) (by decide +kernel)) (fun _ _ _ _ _ => (pg_name (i := 3) S.nd rfl (Or.inl rfl))) (fun _ _ _ _ _ => pts_nil) (fun _ _ _ _ _ => (pe_cmpR op_ge (pe_ix (k_ixT (K := K) rfl) (pv 2) (pv 3) (fun _ _ => rfl)) (pe_ix (k_ixT (K := K) rfl) (pv 2) (pe_op op_add (pv 3) pe_int) (fun _ _ => rfl)) (nomark _)))) pa_nil))) (pss_one (ps_ret pe_bl)) pss_nil)
      (pss_one (ps_ret (pe_callB (k_all (K := K) rfl rfl) (by rfl) T.b_all (by decide +kernel) (pa_cons (pe_lc (own := [("number", 4)]) (tt := tYes) rfl S.nd (k_tupI (K := K) rfl (pv 2)) (blkOk_by (N := NIsRecall) (sc := defScope sIsRecall) (by decide +kernel)) (fun _ _ _ _ _ => (pg_name (i := 4) S.nd rfl (Or.inl rfl))) (fun _ _ _ _ _ => pts_nil) (fun _ _ _ _ _ => (pe_cmpR (k_eq (K := K) rfl hr.units) (pe_ix (k_ixT (K := K) rfl) (pe_ix (k_ixT (K := K) rfl) (pv 1) (pv 4) (fun _ _ => rfl)) pe_int (fun _ _ => rfl)) pe_str (nomark _)))) pa_nil)))))), ?_⟩
    rintro ss P' ⟨b, h, rc, rfl, R, p⟩
    have hl := R.len
    walk_at "rds0"
    refine ex_ifP false ?_ (fun h => nomatch h) (fun _ => ?_)
    · refine et_orP false false ?_ (fun _ => ?_) ⟨rfl, rfl⟩
      · walk_at "rds"
        exact ⟨rfl, rfl⟩
      · walk_at "rds"
        refine lcU rc .int (fun _ => .bool true) (wg_name (by decide)) ?_
        walk_at "rds"
        refine ⟨rfl, by omega, fun r hr => ?_, ?_⟩
        · obtain ⟨k, rfl, s, u, g, hk⟩ := R.mem r hr
          have hlt := (List.getElem?_eq_some_iff.mp hk).1
          walk_at "rds"
          refine ⟨rfl, ?_⟩
          walk_at "rds"
          refine ⟨rfl, _, _, _, rfl, ?_⟩
          rw [decide_eq_true (by omega), decide_eq_true (by omega)]
          exact ⟨.dat _, rfl⟩
        · walk_at "rds"
          refine ca_all' (bs := rc.map fun _ => true) (by rw [List.map_map]; rfl) ?_
          walk_at "rds"
          refine ⟨?_, rfl⟩
          have : (rc.map fun _ => true).all id = true := by rw [List.all_eq_true]; intro x hx; obtain ⟨_, _, rfl⟩ := List.mem_map.mp hx; rfl
          rw [this]
          rfl
    walk_at "rds0"
    refine ex_ifP false ?_ (fun h => nomatch h) (fun _ => ?_)
    · have hne : 1 ≤ rc.length := by cases rc with
        | nil => exact absurd rfl R.ne
        | cons _ _ => simp
      walk_at "rds"
      refine lcU (List.range (rc.length - 1)) (fun i => .int (i : Nat)) (fun _ => .bool false) (wg_name (by decide)) ?_
      walk_at "rds"
      refine ⟨rc.length - 1, by rw [show ((rc.length : Int) - 1) = ((rc.length - 1 : Nat) : Int) by omega], by omega, by rw [rangeD_ints, List.map_map]; rfl, by simp; omega, fun k hk => ?_, ?_⟩
      · have hk := List.mem_range.mp hk
        have h1 : rc[k]? = some rc[k] := List.getElem?_eq_getElem (by omega)
        have h2 : rc[k + 1]? = some rc[k + 1] := List.getElem?_eq_getElem (by omega)
        have h3 : rc[k] < rc[k + 1] := List.pairwise_iff_getElem.mp R.asc k (k + 1) (by omega) (by omega) (by omega)
        generalize rc[k] = x at *
        generalize rc[k + 1] = y at *
        walk_at "rds"
        refine ⟨rfl, ?_⟩
        walk_at "rds"
        rw [decide_eq_false (by omega)]
        exact ⟨.dat _, rfl⟩
      · walk_at "rds"
        refine ca_any' (bs := (List.range (rc.length - 1)).map fun _ => false) (by rw [List.map_map]; rfl) ?_
        walk_at "rds"
        refine ⟨?_, rfl⟩
        rw [List.any_eq_false]
        intro x hx
        obtain ⟨_, _, rfl⟩ := List.mem_map.mp hx
        simp
    · walk_at "rds"
      refine lcU rc .int (fun _ => .bool true) (wg_name (by decide)) ?_
      walk_at "rds"
      refine ⟨rfl, by omega, fun r hr => ?_, ?_⟩
      · obtain ⟨k, rfl, s, u, g, hk⟩ := R.mem r hr
        walk_at "rds"
        refine ⟨rfl, ?_⟩
        walk_at "rds"
        refine ⟨?_, rfl⟩
        rw [decide_eq_true rfl]
        exact .dat _
      · walk_at "rds"
        refine ca_all' (bs := rc.map fun _ => true) (by rw [List.map_map]; rfl) ?_
        have : (rc.map fun _ => true).all id = true := by rw [List.all_eq_true]; intro x hx; obtain ⟨_, _, rfl⟩ := List.mem_map.mp hx; rfl
        rw [this]
        walk_at "fin"))
/-! ## F7 -/
abbrev natD (l : List Nat) : List PyData := l.map fun (i : Nat) => .int i
def fStrike : PSp := fun ss P => ∃ b h rc, ss = [.dat (bkD b), .dat (hD h), .dat (stk rc)] ∧ BkOk b ∧ Hist b h ∧ ∀ x y, P (.dat (.tuple [.tuple (natD (skRun b h rc h.length).struck), x, y]))
abbrev NStrike : List Str := ["book", "history", "recall", "held", "stands", "struck", "sent", "number", "event", "row"]
theorem scStrike : FnScope NStrike ["book", "history", "recall"] (defScope sStrike) := ⟨rfl, rfl, rfl, by decide +kernel, rfl, by decide +kernel, by decide +kernel⟩
abbrev OkStrike (P : Program) (w : World) (K : PySem.W.Frag) (mg : Str → Option Value) (base : Heap) : Prop := OkG P w K mg base "strike" 3 ["book", "history", "recall"] (spP K 3 fStrike)
theorem ok_Strike {P : Program} {w : World} {K : PySem.W.Frag} {mg : Str → Option Value} {base : Heap} (T : Tx K mg) (h_Carry : OkCarry P w K mg base) (h_Flow : OkFlow P w K mg base) (h_IsPossible : OkIsPossible P w K mg base) (h_Shown : OkShown P w K mg base) (h_WayOf : OkWayOf P w K mg base) : OkStrike P w K mg base :=
  (by exact getit : Hold (OkStrike P w K mg base) (by
    have S := scStrike
    refine okG_p (m := 7) T.gStrike T.fStrike S rfl rfl (fun _ _ _ _ _ _ us hl => match us, hl with | [_, _, _], _ => rfl) fun cdv A outer s H E hr => ⟨_,
      (pss_cons (ps_set (i := 3) S.nd rfl (Or.inl rfl) pe_dnewT)
      (pss_cons (ps_set (i := 4) S.nd rfl (Or.inl rfl) (pe_lst pa_nil))
      (pss_cons (ps_set (i := 5) S.nd rfl (Or.inl rfl) (pe_lst pa_nil))
      (pss_cons (ps_set (i := 6) S.nd rfl (Or.inl rfl) (pe_lst pa_nil))
      (pss_cons (ps_for PassesOwn.never rfl (pi_range1 (by rfl) T.b_range (pa_cons (pe_callB (k_len (K := K) rfl) (by rfl) T.b_len (by decide +kernel) (pa_cons (pv 1) pa_nil)) pa_nil)) (pg_name (i := 7) S.nd rfl (Or.inl rfl)) (pss_cons (ps_set (i := 8) S.nd rfl (Or.inl rfl) (pe_ix (k_ixT (K := K) rfl) (pv 1) (pv 7) (fun _ _ => rfl)))
      (pss_cons (ps_set (i := 9) S.nd rfl (Or.inl rfl) (pe_callG h_Flow (hr.mono (by decide)) (pa_cons (pv 0) (pa_cons (pv 1) (pa_cons (pv 7) pa_nil)))))
      (pss_cons (ps_if (pt_cmpR (k_in (K := K) rfl) (pv 7) (pv 2) (by rfl)) (pss_one ps_continue) pss_nil)
      (pss_cons (ps_if (PW.pt (pw_or (PW.pt (pw_and (pt_cmpR (k_eq (K := K) rfl hr.units) (pe_ix (k_ixT (K := K) rfl) (pv 8) pe_int (fun _ _ => rfl)) pe_str (nomark _)) (pw_and1 (pt_cmpR (k_nin (K := K) rfl) (pe_ix (k_ixT (K := K) rfl) (pv 8) pe_int (fun _ _ => rfl)) (pv 6) (by rfl))))) (pw_or1 (pt_not (pt_val (pe_callG h_IsPossible (hr.mono (by decide)) (pa_cons (pv 3) (pa_cons (pv 9) pa_nil)))))))) (pss_cons (ps_expr (k_app (K := K) rfl (pv 5) (pa_cons (pv 7) pa_nil)))
      (pss_one ps_continue)) pss_nil)
      (pss_cons (ps_expr (pe_callG h_Carry (hr.mono (by decide)) (pa_cons (pv 3) (pa_cons (pv 9) pa_nil))))
      (pss_cons (ps_expr (k_app (K := K) rfl (pv 4) (pa_cons (pv 7) pa_nil)))
      (pss_one (ps_if (pt_cmpR (k_eq (K := K) rfl hr.units) (pe_ix (k_ixT (K := K) rfl) (pv 8) pe_int (fun _ _ => rfl)) pe_str (nomark _)) (pss_one (ps_expr (k_app (K := K) rfl (pv 6) (pa_cons (pe_ix (k_ixT (K := K) rfl) (pv 8) pe_int (fun _ _ => rfl)) pa_nil)))) pss_nil)))))))))
      (pss_one (ps_ret (pe_tup (pa_cons (pe_callTy (k_tup (K := K) rfl) (by rfl) T.b_tuple (by decide +kernel) (pa_cons (pv 5) pa_nil)) (pa_cons (pe_callG h_Shown (hr.mono (by decide)) (pa_cons (pv 3) pa_nil)) (pa_cons (pe_callG h_WayOf (hr.mono (by decide)) (pa_cons (pv 1) (pa_cons (pv 4) pa_nil))) pa_nil))))))))))), ?_⟩
    rintro ss P' ⟨b, h, rc, rfl, B, Hh, p⟩
    have n1 := B.n1
    have n6 := B.n6
    have hl60 := Hh.len
    walk_at "rds"
    refine ev_dnewT fun ph => ?_
    walk_at "rds"
    refine ev_nilO fun ast => ?_
    walk_at "rds"
    refine ev_nilO fun ask => ?_
    walk_at "rds"
    refine ev_nilO fun asn => ?_
    walk_at "rds"
    rw [rangeD_len]
    refine ⟨by omega, fun k δ' μ' => (∃ z1 z2 z3, δ' = [.dat (bkD b), .dat (hD h), .dat (stk rc), .val (.ref ph), .val (.ref ast), .val (.ref ask), .val (.ref asn), z1, z2, z3]) ∧ μ' = [(asn, .ls ((skRun b h rc k).sent.map .int)), (ask, .ls (natD (skRun b h rc k).struck)), (ast, .ls (natD (skRun b h rc k).stands)), (ph, .dt (hdE (skRun b h rc k).held))], ⟨⟨_, _, _, rfl⟩, rfl⟩, fun k d δ' μ' hd hinv => ?_, fun δ' μ' hinv => ?_⟩
    · obtain ⟨⟨z1, z2, z3, rfl⟩, rfl⟩ := hinv
      obtain ⟨hk, rfl⟩ := range0 hd
      obtain ⟨e, X⟩ := Hh.at B hk
      have S := skok (rc := rc) B Hh k (by omega)
      have es : skRun b h rc (k + 1) = (if (k : Int) ∈ rc then skRun b h rc k else if condS (skRun b h rc k) (flowF b h e) e = true then { skRun b h rc k with struck := (skRun b h rc k).struck ++ [k] } else { skRun b h rc k with held := carF (skRun b h rc k).held (flowF b h e), stands := (skRun b h rc k).stands ++ [k], sent := tksE (skRun b h rc k).sent e }) := by
        rw [skRun_succ]
        unfold skStep
        rw [X.eg]
      have R : HrOk b.n (skRun b h rc k).held (flowF b h e) := by rw [X.fe]; exact ⟨X.hr.n1, X.hr.n6, S.hl, X.hr.tl, X.hr.gl⟩
      have he := X.eg
      generalize skRun b h rc k = s at *
      walk_at "rds0"
      refine ⟨rfl, _, _, _, _, rfl, he, n1, n6, X.fl, ?_⟩
      walk_at "rds0"
      refine ex_ifP (decide ((k : Int) ∈ rc)) ?_ (fun hb => ?_) (fun hb => ?_)
      · walk_at "rds"
        refine op_inI (.tup _) ?_
        walk_at "rds"
        exact ⟨rfl, rfl⟩
      · walk_at "rds"
        rw [if_pos (of_decide_eq_true hb)] at es
        exact ⟨⟨_, _, _, rfl⟩, by rw [es]⟩
      walk_at "rds0"
      rw [if_neg (of_decide_eq_false hb)] at es
      refine ex_ifP (condS s (flowF b h e) e) ?_ (fun hc => ?_) (fun hc => ?_)
      · refine et_orP (landS s e) (!posF s.held (flowF b h e)) ?_ (fun _ => ?_) ⟨rfl, rfl⟩
        · cases e with
          | land x u t =>
            walk_at "rds"
            refine op_inI (.own (by walk_at "mem")) ?_
            walk_at "rds"
            exact ⟨rfl, rfl⟩
          | _ =>
            walk_at "rds"
            exact ⟨rfl, rfl⟩
        · walk_at "rds"
          refine cA [3] (by decide) ?_
          walk_at "rds"
          refine ⟨rfl, [_], rfl, _, _, _, _, rfl, rfl, R, ?_⟩
          walk_at "rds"
          exact ⟨rfl, rfl⟩
      · rw [if_pos hc] at es
        walk_at "rds"
        refine ⟨1, natD s.struck, _, ⟨_, rfl, .dat _⟩, rfl, sz_lt (by have := S.kn; simp; omega), ?_⟩
        walk_at "rds"
        exact ⟨⟨_, _, _, rfl⟩, by rw [es]; simp [natD]⟩
      · rw [if_neg (by rw [hc]; decide)] at es
        walk_at "rds"
        refine cA [3] (by decide) ?_
        walk_at "rds"
        refine ⟨rfl, [_], rfl, _, _, _, _, rfl, rfl, R, by have := S.hn; omega, ?_⟩
        walk_at "rds"
        refine ⟨2, natD s.stands, _, ⟨_, rfl, .dat _⟩, rfl, sz_lt (by have := S.sn; simp; omega), ?_⟩
        cases e with
        | send x u t g =>
          walk_at "rds"
          refine ⟨0, s.sent.map .int, _, ⟨_, rfl, .dat _⟩, rfl, sz_lt (by have := S.tn; simp; omega), ?_⟩
          walk_at "rds"
          exact ⟨⟨_, _, _, rfl⟩, by rw [es]; simp [natD, tksE]; rfl⟩
        | _ =>
          walk_at "rds"
          exact ⟨⟨_, _, _, rfl⟩, by rw [es]; simp [natD, tksE]; rfl⟩
    · obtain ⟨⟨z1, z2, z3, rfl⟩, rfl⟩ := hinv
      have S := skok (rc := rc) B Hh h.length (Nat.le_refl _)
      walk_at "rds"
      refine cA [3] (by decide) ?_
      walk_at "rds"
      refine ⟨rfl, [_], rfl, _, _, rfl, rfl, by have := S.hn; omega, ?_⟩
      refine ea_cons (cP ?_)
      refine ea_cons (ev_var rfl (fun z => nomatch z) ?_)
      refine ea_cons (ev_varF (j := 2) rfl rfl ?_)
      walk_at "rds"
      refine ⟨rfl, _, _, rfl, S.sk, by have := S.sn; omega, S.wok, fun x => ?_⟩
      walk_at "rds"
      exact ⟨_, .refl _, p _ _⟩))
abbrev lkD (f : Lk) : PyData := .tuple [.int (f.1 : Nat), pairD f.2.1, stk f.2.2]
def fLacks : PSp := fun ss P => ∃ b h rc, ss = [.dat (bkD b), .dat (hD h), .dat (stk rc)] ∧ BkOk b ∧ Hist b h ∧ P (.dat (.list ((lacksF b h rc).map lkD)))
abbrev NLacks : List Str := ["book", "history", "left_out", "held", "zero", "found", "number", "row"]
theorem scLacks : FnScope NLacks ["book", "history", "left_out"] (defScope sLacks) := ⟨rfl, rfl, rfl, by decide +kernel, rfl, by decide +kernel, by decide +kernel⟩
abbrev OkLacks (P : Program) (w : World) (K : PySem.W.Frag) (mg : Str → Option Value) (base : Heap) : Prop := OkG P w K mg base "lacks" 3 ["book", "history", "left_out"] (spP K 3 fLacks)
theorem ok_Lacks {P : Program} {w : World} {K : PySem.W.Frag} {mg : Str → Option Value} {base : Heap} (T : Tx K mg) (h_Carry : OkCarry P w K mg base) (h_Flow : OkFlow P w K mg base) (h_Greater : OkGreater P w K mg base) (h_KeptNumbers : OkKeptNumbers P w K mg base) (h_Less : OkLess P w K mg base) : OkLacks P w K mg base :=
  (by exact getit : Hold (OkLacks P w K mg base) (by
    have S := scLacks
    refine okG_p (m := 5) T.gLacks T.fLacks S rfl rfl (fun _ _ _ _ _ _ us hl => match us, hl with | [_, _, _], _ => rfl) fun cdv A outer s H E hr => ⟨_,
      (pss_cons (ps_set (i := 3) S.nd rfl (Or.inl rfl) pe_dnewT)
      (pss_cons (ps_set (i := 4) S.nd rfl (Or.inl rfl) (pe_op (k_repA (K := K) rfl) (pe_tup (pa_cons pe_int pa_nil)) (pe_callB (k_len (K := K) rfl) (by rfl) T.b_len (by decide +kernel) (pa_cons (pe_ix (k_ixT (K := K) rfl) (pv 0) pe_int (fun _ _ => rfl)) pa_nil))))
      (pss_cons (ps_set (i := 5) S.nd rfl (Or.inl rfl) (pe_lst pa_nil))
      (pss_cons (ps_for PassesOwn.never rfl (k_list (K := K) rfl (pe_callG h_KeptNumbers (hr.mono (by decide)) (pa_cons (pv 1) (pa_cons (pv 2) pa_nil)))) (pg_name (i := 6) S.nd rfl (Or.inl rfl)) (pss_cons (ps_set (i := 7) S.nd rfl (Or.inl rfl) (pe_callG h_Flow (hr.mono (by decide)) (pa_cons (pv 0) (pa_cons (pv 1) (pa_cons (pv 6) pa_nil)))))
      (pss_cons (ps_if (PW.pt (pw_and (pt_cmp (pc_notN (pe_ix (k_ixT (K := K) rfl) (pv 7) pe_int (fun _ _ => rfl))) rfl) (pw_and1 (pt_val (pe_callB (k_anyT (K := K) rfl rfl) (by rfl) T.b_any (by decide +kernel) (pa_cons (pe_ix (k_ixT (K := K) rfl) (pv 7) pe_int (fun _ _ => rfl)) pa_nil)))))) (pss_one (ps_expr (k_app (K := K) rfl (pv 5) (pa_cons (pe_tup (pa_cons (pv 6) (pa_cons (pe_ix (k_ixT (K := K) rfl) (pv 7) pe_int (fun _ _ => rfl)) (pa_cons (pe_callG h_Greater (hr.mono (by decide)) (pa_cons (pv 4) (pa_cons (pe_callG h_Less (hr.mono (by decide)) (pa_cons (pe_ix (k_ixT (K := K) rfl) (pv 7) pe_int (fun _ _ => rfl)) (pa_cons (pe_dget2 (hu_of hr) (pv 3) (pe_ix (k_ixT (K := K) rfl) (pv 7) pe_int (fun _ _ => rfl)) (pv 4) ⟨rfl, rfl, rfl, rfl⟩) pa_nil))) pa_nil))) pa_nil)))) pa_nil)))) pss_nil)
      (pss_one (ps_expr (pe_callG h_Carry (hr.mono (by decide)) (pa_cons (pv 3) (pa_cons (pv 7) pa_nil))))))))
      (pss_one (ps_ret (pv 5))))))), ?_⟩
    rintro ss P' ⟨b, h, rc, rfl, B, Hh, p⟩
    have n1 := B.n1
    have n6 := B.n6
    have hl60 := Hh.len
    walk_at "rds"
    refine ev_dnewT fun ph => ?_
    walk_at "rds"
    refine ev_nilO fun af => ?_
    walk_at "rds"
    refine ⟨rfl, _, _, rfl, hl60, ?_⟩
    walk_at "rds"
    have kl := kept_len h rc
    refine ⟨fun m δ' μ' => (∃ z1 z2, δ' = [.dat (bkD b), .dat (hD h), .dat (stk rc), .val (.ref ph), .dat (stk (zr b.n)), .val (.ref af), z1, z2]) ∧ μ' = [(af, .ls ((lcRun b h ((keptF h rc).take m)).found.map lkD)), (ph, .dt (hdE (lcRun b h ((keptF h rc).take m)).held))], ⟨⟨_, _, rfl⟩, rfl⟩, fun m d δ' μ' hd hinv => ?_, fun δ' μ' hinv => ?_⟩
    · obtain ⟨⟨z1, z2, rfl⟩, rfl⟩ := hinv
      obtain ⟨j, hj, rfl⟩ := of_map hd
      have hml := (List.getElem?_eq_some_iff.mp hj).1
      have hlt := kept_lt (List.mem_of_getElem? hj)
      obtain ⟨e, X⟩ := Hh.at B hlt
      have he := X.eg
      have S := lcok (rc := rc) B Hh m (by omega)
      have es := lcRun_snoc (b := b) (l := (keptF h rc).take m) he
      rw [← take_get hj] at es
      generalize lcRun b h ((keptF h rc).take m) = s at *
      obtain ⟨R, S2⟩ := lcok_step B Hh hlt (by omega) S he
      have hf := X.fl
      have r1 := (X.rb B Hh.len).1
      walk_at "rds0"
      refine ⟨rfl, _, _, _, _, rfl, he, n1, n6, hf, ?_⟩
      generalize flowF b h e = r at *
      obtain ⟨tk, take, gt, give⟩ := r
      have tl : take.length = b.n := R.tl
      cases tk with
      | none =>
        walk_at "rds"
        refine cA [1] (by decide) ?_
        walk_at "rds"
        refine ⟨rfl, [_], rfl, _, _, _, ⟨none, take, gt, give⟩, rfl, rfl, R, by have := S.hn; omega, ?_⟩
        walk_at "rds"
        exact ⟨⟨_, _, rfl⟩, by rw [es]; simp [lkRow]; rfl⟩
      | some p =>
        walk_at "rds"
        refine ca_anyT ?_
        walk_at "rds"
        refine ⟨fun hb => ?_, fun hb => ?_⟩
        · have hrow : lkRow b.n j s.held ⟨some p, take, gt, give⟩ = [(j, p, maxS (zr b.n) (subS take (getH s.held p b.n)))] := by
            show (if take.any (· != 0) = true then _ else _ : List Lk) = _
            rw [if_pos hb]
          rw [hrow] at es
          have hl : ∀ p ∈ s.held, p.2.length = b.n := fun q hq => (S.hl q hq).1
          have ln : b.n ≤ 100 := by omega
          walk_at "rds"
          refine ⟨_, _, _, .dat _, .dat _, dic_held p (by walk_at "mem"), ?_⟩
          rw [show (zr b.ks.length) = zr b.n from rfl, getH_dat]
          walk_at "rds"
          refine ⟨rfl, _, _, rfl, tl.trans (getH_len hl p).symm, (by show take.length ≤ 100; omega), ?_⟩
          walk_at "rds"
          refine ⟨rfl, _, _, rfl, by rw [subS, zip_len (tl.trans (getH_len hl p).symm), tl]; simp, by simp; omega, ?_⟩
          walk_at "rds"
          refine ⟨0, s.found.map lkD, _, ⟨_, rfl, .dat _⟩, rfl, sz_lt (by have := S.fn; simp; omega), ?_⟩
          walk_at "rds"
          refine cA [1] (by decide) ?_
          walk_at "rds"
          refine ⟨rfl, [_], rfl, _, _, _, ⟨some p, take, gt, give⟩, rfl, rfl, R, by have := S.hn; omega, ?_⟩
          walk_at "rds"
          exact ⟨⟨_, _, rfl⟩, by rw [es]; simp; rfl⟩
        · have hrow : lkRow b.n j s.held ⟨some p, take, gt, give⟩ = [] := by
            show (if take.any (· != 0) = true then _ else _ : List Lk) = _
            rw [if_neg (by rw [hb]; decide)]
          rw [hrow] at es
          walk_at "rds"
          refine cA [1] (by decide) ?_
          walk_at "rds"
          refine ⟨rfl, [_], rfl, _, _, _, ⟨some p, take, gt, give⟩, rfl, rfl, R, by have := S.hn; omega, ?_⟩
          walk_at "rds"
          exact ⟨⟨_, _, rfl⟩, by rw [es]; simp; rfl⟩
    · obtain ⟨⟨z1, z2, rfl⟩, rfl⟩ := hinv
      rw [List.length_map, List.take_length]
      walk_at "rds"
      exact ⟨_, .lst (by walk_at "mem"), p⟩))
def fLeast : PSp := fun ss P => ∃ b h rc, ss = [.dat (bkD b), .dat (hD h), .dat (stk rc)] ∧ BkOk b ∧ Hist b h ∧ P (.dat (shD (refundsF b h rc)))
abbrev NLeastRefunds : List Str := ["book", "history", "left_out", "due", "number", "place", "lack"]
theorem scLeastRefunds : FnScope NLeastRefunds ["book", "history", "left_out"] (defScope sLeastRefunds) := ⟨rfl, rfl, rfl, by decide +kernel, rfl, by decide +kernel, by decide +kernel⟩
abbrev OkLeastRefunds (P : Program) (w : World) (K : PySem.W.Frag) (mg : Str → Option Value) (base : Heap) : Prop := OkG P w K mg base "least_refunds" 4 ["book", "history", "left_out"] (spP K 3 fLeast)
theorem ok_LeastRefunds {P : Program} {w : World} {K : PySem.W.Frag} {mg : Str → Option Value} {base : Heap} (T : Tx K mg) (h_Greater : OkGreater P w K mg base) (h_Lacks : OkLacks P w K mg base) (h_Shown : OkShown P w K mg base) : OkLeastRefunds P w K mg base :=
  (by exact getit : Hold (OkLeastRefunds P w K mg base) (by
    have S := scLeastRefunds
    refine okG_p (m := 4) T.gLeastRefunds T.fLeastRefunds S rfl rfl (fun _ _ _ _ _ _ us hl => match us, hl with | [_, _, _], _ => rfl) fun cdv A outer s H E hr => ⟨_,
      (pss_cons (ps_set (i := 3) S.nd rfl (Or.inl rfl) pe_dnewT)
      (pss_cons (ps_for PassesOwn.never rfl (k_list (K := K) rfl (pe_callG h_Lacks (hr.mono (by decide)) (pa_cons (pv 0) (pa_cons (pv 1) (pa_cons (pv 2) pa_nil))))) (k_ptup (K := K) 3 rfl rfl (pgs_cons (pg_name (i := 4) S.nd rfl (Or.inl rfl)) (pgs_cons (pg_name (i := 5) S.nd rfl (Or.inl rfl)) (pgs_cons (pg_name (i := 6) S.nd rfl (Or.inl rfl)) pgs_nil)))) (pss_one (ps_dput (hu_of hr) (pv 3) (pv 5) (pe_callG h_Greater (hr.mono (by decide)) (pa_cons (pe_dget2 (hu_of hr) (pv 3) (pv 5) (pv 6) ⟨rfl, rfl, rfl, rfl⟩) (pa_cons (pv 6) pa_nil))) rfl)))
      (pss_one (ps_ret (pe_callG h_Shown (hr.mono (by decide)) (pa_cons (pv 3) pa_nil)))))), ?_⟩
    rintro ss P' ⟨b, h, rc, rfl, B, Hh, p⟩
    walk_at "rds"
    refine ev_dnewT fun ph => ?_
    walk_at "rds"
    refine ⟨rfl, _, _, _, rfl, B, Hh, ?_⟩
    walk_at "rds"
    have n1 := B.n1
    have n6 := B.n6
    have S := lcok (rc := rc) B Hh _ (Nat.le_refl _)
    have kl := kept_len h rc
    have hl60 := Hh.len
    rw [List.take_length] at S
    unfold refundsF at p
    have fl := S.fl
    have fn := S.fn
    have efd : lacksF b h rc = (lcRun b h (keptF h rc)).found := rfl
    rw [← efd] at fl fn
    generalize lacksF b h rc = fs at *
    refine ⟨fun m δ' μ' => (∃ z1 z2 z3, δ' = [.dat (bkD b), .dat (hD h), .dat (stk rc), .val (.ref ph), z1, z2, z3]) ∧ μ' = [(ph, .dt (hdE (dueF (fs.take m))))], ⟨⟨_, _, _, rfl⟩, rfl⟩, fun m d δ' μ' hd hinv => ?_, fun δ' μ' hinv => ?_⟩
    · obtain ⟨⟨z1, z2, z3, rfl⟩, rfl⟩ := hinv
      obtain ⟨⟨j, q, lk⟩, hj, rfl⟩ := of_map hd
      have es : dueF (fs.take (m + 1)) = dueStep (dueF (fs.take m)) (j, q, lk) := by rw [take_get hj, dueF_snoc]
      have D := due_ok (l := fs.take m) fun f hf => fl f (List.mem_of_mem_take hf)
      have hml := (List.getElem?_eq_some_iff.mp hj).1
      have dl : (dueF (fs.take m)).length ≤ 60 := by have := D.2; rw [List.length_take] at this; omega
      have hq : AbOk b.n (10 ^ 25) lk := fl _ (List.mem_of_getElem? hj)
      have D1 := D.1
      generalize dueF (fs.take m) = du at *
      walk_at "rds"
      refine ex_dputT ?_
      walk_at "rds"
      refine ⟨_, _, _, .dat _, .dat _, dic_held q (by walk_at "mem"), ?_⟩
      have eg : ((valD du q).map stk).getD (stk lk) = stk ((valD du q).getD lk) := by cases valD du q <;> rfl
      rw [eg]
      have al : ((valD du q).getD lk).length = b.n := by
        cases e : valD du q with
        | none => exact hq.1
        | some s => exact (D1 _ (valD_mem e)).1
      walk_at "rds"
      refine ⟨rfl, _, _, rfl, al.trans hq.1.symm, by rw [al]; omega, ?_⟩
      walk_at "rds"
      refine ⟨0, pairK q, _, .dat _, rfl, _, rfl, sz_lt (by simp; omega), ?_⟩
      rw [held_put]
      exact ⟨⟨_, _, _, rfl⟩, by rw [es]; rfl⟩
    · obtain ⟨⟨z1, z2, z3, rfl⟩, rfl⟩ := hinv
      rw [List.length_map, List.take_length]
      have D := due_ok (l := fs) fl
      walk_at "rds"
      refine cA [0] (by decide) ?_
      walk_at "rds"
      refine ⟨rfl, [_], rfl, _, _, rfl, rfl, by have := D.2; omega, ?_⟩
      walk_at "fin"))
abbrev NRefunds : List Str := ["book", "history", "recall"]
theorem scRefunds : FnScope NRefunds ["book", "history", "recall"] (defScope sRefunds) := ⟨rfl, rfl, rfl, by decide +kernel, rfl, by decide +kernel, by decide +kernel⟩
abbrev OkRefunds (P : Program) (w : World) (K : PySem.W.Frag) (mg : Str → Option Value) (base : Heap) : Prop := OkG P w K mg base "refunds" 5 ["book", "history", "recall"] (spP K 3 fLeast)
theorem ok_Refunds {P : Program} {w : World} {K : PySem.W.Frag} {mg : Str → Option Value} {base : Heap} (T : Tx K mg) (h_LeastRefunds : OkLeastRefunds P w K mg base) : OkRefunds P w K mg base :=
  (by exact getit : Hold (OkRefunds P w K mg base) (by
    have S := scRefunds
    refine okG_p (m := 0) T.gRefunds T.fRefunds S rfl rfl (fun _ _ _ _ _ _ us hl => match us, hl with | [_, _, _], _ => rfl) fun cdv A outer s H E hr => ⟨_,
      (pss_one (ps_ret (pe_callG h_LeastRefunds (hr.mono (by decide)) (pa_cons (pv 0) (pa_cons (pv 1) (pa_cons (pv 2) pa_nil)))))), ?_⟩
    rintro ss P' ⟨b, h, rc, rfl, B, Hh, p⟩
    walk_at "rds"
    refine ⟨rfl, _, _, _, rfl, B, Hh, ?_⟩
    walk_at "fin"))
/-! ## M4 -/
/-! Plain: the texts of stocks and lines. -/
open TL (tl)
abbrev spT : Str := " "
abbrev plT : Str := " + "
theorem tl_sp : tl spT = [32] := by decide +kernel
theorem tl_pl : tl plT = [32, 43, 32] := by decide +kernel
theorem sp_256 : spT.cps.all (· < 256) = true := by decide +kernel
theorem pl_256 : plT.cps.all (· < 256) = true := by decide +kernel
def FreeS (x : Str) : Prop := 32 ∉ tl x
def Asc (x : Str) : Prop := ∀ c ∈ tl x, c < 128
theorem Asc.ok {x : Str} (h : Asc x) : PyData.strOk x = true := by
  unfold PyData.strOk
  rw [← Array.all_toList, List.all_eq_true]
  intro c hc
  have := h c hc
  simp
  omega
theorem Asc.app {x y : Str} (h : Asc x) (g : Asc y) : Asc (x ++ y) := by
  intro c hc
  rw [TL.tl_append] at hc
  rcases List.mem_append.mp hc with z | z
  · exact h c z
  · exact g c z
theorem low_lt {c : Nat} (h : isLow c = true) : 97 ≤ c ∧ c ≤ 122 := by unfold isLow at h; simpa using h
theorem dig_lt {c : Nat} (h : isDig c = true) : 48 ≤ c ∧ c ≤ 57 := by unfold isDig at h; simpa using h
theorem NmOk.asc {x : Str} (h : NmOk x) : Asc x := fun c hc => by
  rcases h.all c hc with z | z
  · have := low_lt z; omega
  · have := dig_lt z; omega
theorem NmOk.fs {x : Str} (h : NmOk x) : FreeS x := fun hc => by
  rcases h.all _ hc with z | z
  · have := low_lt z; omega
  · have := dig_lt z; omega
theorem len_app (a b : Str) : (a ++ b).length = a.length + b.length := by rw [TL.len_tl, TL.len_tl, TL.len_tl, TL.tl_append, List.length_append]
theorem NmOk.le {x : Str} (h : NmOk x) : x.length ≤ 12 := by rw [TL.len_tl]; exact h.len
/-! ### joining -/
theorem join_tl (y : Str) (ps : List Str) : tl (Txt.join y ps) = TL.joinL (tl y) (ps.map tl) := by rw [TL.join_eq, TL.tl_join]
theorem joinL_app (S : List Nat) : ∀ {a b : List (List Nat)}, a ≠ [] → b ≠ [] → TL.joinL S (a ++ b) = TL.joinL S a ++ (S ++ TL.joinL S b)
  | [], _, h, _ => absurd rfl h
  | [p], q :: r, _, _ => rfl
  | p :: q :: r, b, _, hb => by
    show p ++ (S ++ TL.joinL S (q :: (r ++ b))) = p ++ (S ++ TL.joinL S (q :: r)) ++ (S ++ TL.joinL S b)
    have := joinL_app S (a := q :: r) (b := b) (by simp) hb
    rw [List.cons_append] at this
    rw [this]
    simp
  | [p], [], _, h => absurd rfl h
theorem joinL_join (S : List Nat) (a : List (List Nat)) {b : List (List Nat)} (hb : b ≠ []) : TL.joinL S (a ++ [TL.joinL S b]) = TL.joinL S (a ++ b) := by
  cases a with
  | nil => rfl
  | cons p r => rw [joinL_app S (by simp) (by simp), joinL_app S (by simp) hb]; rfl
theorem join_join (y : Str) (a : List Str) {b : List Str} (hb : b ≠ []) : Txt.join y (a ++ [Txt.join y b]) = Txt.join y (a ++ b) := by
  apply TL.ext_tl
  rw [join_tl, join_tl, List.map_append, List.map_append, List.map_singleton, join_tl]
  exact joinL_join _ _ (by simpa using hb)
theorem joinL_len (S : List Nat) {M : Nat} : ∀ {ps : List (List Nat)}, (∀ p ∈ ps, p.length ≤ M) → (TL.joinL S ps).length ≤ ps.length * (M + S.length)
  | [], _ => by simp [TL.joinL]
  | [p], h => by
    have := h p List.mem_cons_self
    show p.length ≤ _
    simp
    omega
  | p :: q :: r, h => by
    have h1 := h p List.mem_cons_self
    have h2 := joinL_len S (ps := q :: r) fun x hx => h x (List.mem_cons_of_mem _ hx)
    show (p ++ (S ++ TL.joinL S (q :: r))).length ≤ _
    rw [List.length_append, List.length_append, List.length_cons, Nat.add_mul]
    omega
theorem join_len (y : Str) {M : Nat} {ps : List Str} (h : ∀ p ∈ ps, p.length ≤ M) : (Txt.join y ps).length ≤ ps.length * (M + y.length) := by
  rw [TL.len_tl, join_tl, TL.len_tl y]
  have := joinL_len (tl y) (M := M) (ps := ps.map tl) fun p hp => by
    obtain ⟨x, hx, rfl⟩ := List.mem_map.mp hp
    rw [← TL.len_tl]
    exact h x hx
  rwa [List.length_map] at this
theorem joinL_mem {S : List Nat} {c : Nat} : ∀ {ps : List (List Nat)}, c ∈ TL.joinL S ps → c ∈ S ∨ ∃ p ∈ ps, c ∈ p
  | [], h => nomatch h
  | [p], h => .inr ⟨p, List.mem_cons_self, h⟩
  | p :: q :: r, h => by
    have h : c ∈ p ++ (S ++ TL.joinL S (q :: r)) := h
    rcases List.mem_append.mp h with h | h
    · exact .inr ⟨p, List.mem_cons_self, h⟩
    · rcases List.mem_append.mp h with h | h
      · exact .inl h
      · rcases joinL_mem h with h | ⟨x, hx, h⟩
        · exact .inl h
        · exact .inr ⟨x, List.mem_cons_of_mem _ hx, h⟩
theorem join_asc {y : Str} {ps : List Str} (hy : Asc y) (h : ∀ p ∈ ps, Asc p) : Asc (Txt.join y ps) := by
  intro c hc
  rw [join_tl] at hc
  rcases joinL_mem hc with z | ⟨p, hp, hc⟩
  · exact hy c z
  · obtain ⟨x, hx, rfl⟩ := List.mem_map.mp hp
    exact h x hx c hc
theorem asc_sp : Asc spT := by intro c hc; rw [tl_sp] at hc; simp at hc; omega
theorem asc_pl : Asc plT := by intro c hc; rw [tl_pl] at hc; simp at hc; omega
theorem split_words {ps : List Str} (hn : ps ≠ []) (h : ∀ p ∈ ps, FreeS p) : Txt.split (Txt.join spT ps) spT = ps := TL.split_join tl_sp sp_256 hn h
/-- an item: digits, a space, a kind -/
structure ItOk (p : Str × Str) : Prop where
  w : FreeS p.1
  k : FreeS p.2
  hd : ∃ c r, tl p.2 = c :: r ∧ c ≠ 43
  al : Asc p.1
  ak : Asc p.2
  wl : p.1.length ≤ 40
  kl : p.2.length ≤ 12
def itT (p : Str × Str) : Str := p.1 ++ spT ++ p.2
theorem it_tl (p : Str × Str) : tl (itT p) = tl p.1 ++ 32 :: tl p.2 := by
  unfold itT
  rw [TL.tl_append, TL.tl_append, tl_sp]
  simp
theorem it_pre {p : Str × Str} (h : ItOk p) (q : List Nat) : ∀ i, i < (tl (itT p)).length → TL.pre [32, 43, 32] ((tl (itT p) ++ q).drop i) = false := by
  intro i hi
  have hlt : i < (tl (itT p) ++ q).length := by rw [List.length_append]; omega
  have e : (tl (itT p) ++ q).drop i = (tl (itT p) ++ q)[i] :: (tl (itT p) ++ q).drop (i + 1) := List.drop_eq_getElem_cons hlt
  have e2 : (tl (itT p) ++ q)[i] = (tl (itT p))[i] := List.getElem_append_left hi
  rw [e, e2]
  by_cases hc : (tl (itT p))[i] = 32
  · -- only the space between
    obtain ⟨c, r, hk, hne⟩ := h.hd
    have hpos : i = (tl p.1).length := by
      have hx := it_tl p
      have hi2 : i < (tl p.1 ++ 32 :: tl p.2).length := by rw [← hx]; exact hi
      have hc3 : (tl p.1 ++ 32 :: tl p.2)[i]? = some 32 := by rw [← hx, List.getElem?_eq_getElem hi, hc]
      obtain ⟨_, hc2⟩ := List.getElem?_eq_some_iff.mp hc3
      by_cases h1 : i < (tl p.1).length
      · rw [List.getElem_append_left h1] at hc2
        exact absurd (hc2 ▸ List.getElem_mem h1) h.w
      · by_cases h2 : i = (tl p.1).length
        · exact h2
        · rw [List.getElem_append_right (by omega)] at hc2
          have h3 : ∃ m, i - (tl p.1).length = m + 1 := ⟨i - (tl p.1).length - 1, by omega⟩
          obtain ⟨m, hm⟩ := h3
          simp only [hm, List.getElem_cons_succ] at hc2
          exact absurd (hc2 ▸ List.getElem_mem _) h.k
    rw [hc]
    have e3 : (tl (itT p) ++ q).drop (i + 1) = c :: (r ++ q) := by
      rw [it_tl, hpos, hk]
      rw [show (tl p.1).length + 1 = (tl p.1 ++ [32]).length by simp]
      rw [show tl p.1 ++ 32 :: c :: r ++ q = (tl p.1 ++ [32]) ++ (c :: (r ++ q)) by simp]
      exact List.drop_left
    rw [e3]
    unfold TL.pre
    simp [hne]
  · exact TL.pre_of_head _ _ hc
theorem spl_items : ∀ {l : List (Str × Str)}, l ≠ [] → (∀ p ∈ l, ItOk p) → TL.spl [32, 43, 32] 0 [] (TL.joinL [32, 43, 32] ((l.map itT).map tl)) = (l.map itT).map tl
  | [], h, _ => absurd rfl h
  | [p], _, h => by
    have := TL.spl_last (S := [32, 43, 32]) (p := tl (itT p)) (acc := []) fun i hi => by
      have := it_pre (h p List.mem_cons_self) [] i hi
      rwa [List.append_nil] at this
    simpa [TL.joinL] using this
  | p :: q :: r, _, h => by
    have h1 := TL.spl_part (S := [32, 43, 32]) (p := tl (itT p)) (rest := TL.joinL [32, 43, 32] (((q :: r).map itT).map tl)) (acc := []) (by simp) fun i hi => it_pre (h p List.mem_cons_self) _ i hi
    have h2 := spl_items (l := q :: r) (by simp) fun x hx => h x (List.mem_cons_of_mem _ hx)
    show TL.spl [32, 43, 32] 0 [] (tl (itT p) ++ ([32, 43, 32] ++ TL.joinL [32, 43, 32] (((q :: r).map itT).map tl))) = _
    rw [h1, h2]
    rfl
theorem split_items {l : List (Str × Str)} (hn : l ≠ []) (h : ∀ p ∈ l, ItOk p) : Txt.split (Txt.join plT (l.map itT)) plT = l.map itT := by
  refine TL.map_tl_inj ?_
  rw [TL.split_spl _ plT (by rw [tl_pl]; simp) (TL.kind_ok pl_256), join_tl, tl_pl]
  exact spl_items hn h
theorem split_item {p : Str × Str} (h : ItOk p) : Txt.split (itT p) spT = [p.1, p.2] := by
  have e : itT p = Txt.join spT [p.1, p.2] := by
    apply TL.ext_tl
    rw [it_tl, join_tl, tl_sp]
    rfl
  rw [e]
  exact split_words (by simp) fun x hx => by
    simp at hx
    rcases hx with rfl | rfl
    · exact h.w
    · exact h.k
/-! ### printing a stock -/
def wrF (x : Int) : Option Str := if x = -1 then some "endless" else if x > 0 then some (numT x) else none
def pIt : List Str → List (Option Str) → List (Str × Str)
  | k :: ks, some w :: is => (w, k) :: pIt ks is
  | _ :: ks, none :: is => pIt ks is
  | _, _ => []
def joinI (l : List (Str × Str)) : Str := if l = [] then "nothing" else Txt.join plT (l.map itT)
def printF (ks : List Str) (s : List Int) : Str := joinI (pIt ks (s.map wrF))
theorem pIt_range : ∀ (ks : List Str) (is : List (Option Str)), ks.length = is.length → ((List.range ks.length).filter fun k => (is.getD k none).isSome).map (fun k => (is.getD k none).getD "" ++ spT ++ ks.getD k "") = (pIt ks is).map itT
  | [], [], _ => rfl
  | k :: ks, i :: is, h => by
    have ih := pIt_range ks is (by simpa using h)
    rw [List.length_cons, List.range_succ_eq_map, List.filter_cons, List.filter_map]
    have e1 : ((fun k => ((i :: is).getD k none).isSome) ∘ Nat.succ) = fun k => (is.getD k none).isSome := by funext m; simp
    have e2 : ((fun m => ((i :: is).getD m none).getD "" ++ spT ++ (k :: ks).getD m "") ∘ Nat.succ) = fun m => (is.getD m none).getD "" ++ spT ++ ks.getD m "" := by funext m; simp
    cases i with
    | none =>
      rw [if_neg (by simp), e1, List.map_map, e2, ih]
      rfl
    | some w =>
      rw [if_pos (by simp), e1, List.map_cons, List.map_map, e2, ih]
      rfl
  | [], _ :: _, h => by simp at h
  | _ :: _, [], h => by simp at h
theorem num_tl {x : Int} (h : 0 ≤ x) : tl (numT x) = TL.numL x.toNat := by
  have e : x = ((x.toNat : Nat) : Int) := by omega
  show tl (Str.ofString (toString x)) = _
  rw [e]
  exact TL.tl_num _
theorem num_fs {x : Int} (h : 0 ≤ x) : FreeS (numT x) := by
  unfold FreeS
  rw [num_tl h]
  exact TL.numL_free (.inl (by decide))
theorem num_asc {x : Int} (h : 0 ≤ x) : Asc (numT x) := fun c hc => by
  rw [num_tl h] at hc
  have := TL.numL_digits _ c hc
  omega
theorem num_len {x : Int} {k : Nat} (h : 0 ≤ x) (hk : 0 < k) (hx : x < 10 ^ k) : (numT x).length ≤ k := by
  rw [TL.len_tl, num_tl h]
  refine TL.numL_len hk ?_
  have : ((x.toNat : Nat) : Int) < ((10 ^ k : Nat) : Int) := by
    rw [Int.toNat_of_nonneg h, Int.natCast_pow]
    exact hx
  exact Int.ofNat_lt.mp this
theorem num_log {x : Int} (h : -(10 ^ 30) ≤ x) (h2 : x ≤ 10 ^ 30) : x.natAbs.log2 < 1920 := by
  have : x.natAbs ≤ 10 ^ 30 := by omega
  have h3 : x.natAbs < 2 ^ 1920 := Nat.lt_of_le_of_lt this (Nat.lt_of_lt_of_le (show 10 ^ 30 < 2 ^ 100 by decide) (Nat.pow_le_pow_right (by decide) (by decide)))
  by_cases h0 : x.natAbs = 0
  · rw [h0]; decide
  · exact (Nat.log2_lt h0).mpr h3
theorem end_fs : FreeS "endless" ∧ Asc "endless" ∧ ("endless" : Str).length ≤ 40 := by
  have : (¬ 32 ∈ tl "endless") ∧ (tl "endless").all (· < 128) = true ∧ ("endless" : Str).length ≤ 40 := by decide +kernel
  exact ⟨this.1, fun c hc => by simpa using List.all_eq_true.mp this.2.1 c hc, this.2.2⟩
theorem wr_ok {x : Int} {w : Str} (h : -(10 ^ 25) ≤ x) (h2 : x ≤ 10 ^ 25) (hw : wrF x = some w) : FreeS w ∧ Asc w ∧ w.length ≤ 40 := by
  unfold wrF at hw
  split at hw
  · cases hw; exact end_fs
  · split at hw
    · cases hw
      exact ⟨num_fs (by omega), num_asc (by omega), Nat.le_trans (num_len (k := 26) (by omega) (by decide) (Int.lt_of_le_of_lt h2 (by decide))) (by decide)⟩
    · cases hw
theorem pIt_mem : ∀ {ks : List Str} {is : List (Option Str)} {p : Str × Str}, p ∈ pIt ks is → p.2 ∈ ks ∧ some p.1 ∈ is
  | k :: ks, some w :: is, p, h => by
    rcases List.mem_cons.mp h with e | h
    · subst e; exact ⟨List.mem_cons_self, List.mem_cons_self⟩
    · have := pIt_mem h
      exact ⟨List.mem_cons_of_mem _ this.1, List.mem_cons_of_mem _ this.2⟩
  | k :: ks, none :: is, p, h => by
    have := pIt_mem (ks := ks) (is := is) h
    exact ⟨List.mem_cons_of_mem _ this.1, List.mem_cons_of_mem _ this.2⟩
  | [], _, p, h => by cases h
  | _ :: _, [], p, h => by cases h
theorem pIt_len : ∀ (ks : List Str) (is : List (Option Str)), (pIt ks is).length ≤ ks.length
  | k :: ks, some w :: is => by
    show (pIt ks is).length + 1 ≤ ks.length + 1
    have := pIt_len ks is
    omega
  | k :: ks, none :: is => Nat.le_succ_of_le (pIt_len ks is)
  | [], _ => Nat.le_refl _
  | _ :: _, [] => Nat.zero_le _
theorem nm_item {k : Str} (h : NmOk k) : ∃ c r, tl k = c :: r ∧ c ≠ 43 := by
  obtain ⟨c, r, e, hl⟩ := h.hd
  have := low_lt hl
  exact ⟨c, r, e, by omega⟩
theorem items_ok {ks : List Str} {s : List Int} {n : Nat} (hk : ∀ k ∈ ks, NmOk k) (hs : AbOk n (10 ^ 25) s) : ∀ p ∈ pIt ks (s.map wrF), ItOk p := fun p hp => by
  obtain ⟨h1, h2⟩ := pIt_mem hp
  obtain ⟨x, hx, e⟩ := List.mem_map.mp h2
  have hx2 := hs.2 x hx
  obtain ⟨w1, w2, w3⟩ := wr_ok hx2.1 hx2.2 e
  have N := hk _ h1
  exact ⟨w1, N.fs, nm_item N, w2, N.asc, w3, N.le⟩
theorem it_len {p : Str × Str} (h : ItOk p) : (itT p).length ≤ 53 := by
  unfold itT
  rw [len_app, len_app]
  have : spT.length = 1 := by decide +kernel
  have := h.wl
  have := h.kl
  omega
theorem it_asc {p : Str × Str} (h : ItOk p) : Asc (itT p) := (h.al.app asc_sp).app h.ak
theorem nothing_ok : FreeS "nothing" ∧ Asc "nothing" ∧ ("nothing" : Str).length ≤ 40 := by
  have : (¬ 32 ∈ tl "nothing") ∧ (tl "nothing").all (· < 128) = true ∧ ("nothing" : Str).length ≤ 40 := by decide +kernel
  exact ⟨this.1, fun c hc => by simpa using List.all_eq_true.mp this.2.1 c hc, this.2.2⟩
theorem joinI_asc {l : List (Str × Str)} (h : ∀ p ∈ l, ItOk p) : Asc (joinI l) := by
  unfold joinI
  split
  · exact nothing_ok.2.1
  · exact join_asc asc_pl fun p hp => by
      obtain ⟨q, hq, rfl⟩ := List.mem_map.mp hp
      exact it_asc (h q hq)
theorem joinI_len {l : List (Str × Str)} (h : ∀ p ∈ l, ItOk p) (hl : l.length ≤ 6) : (joinI l).length ≤ 400 := by
  unfold joinI
  split
  · have := nothing_ok.2.2; omega
  · have := join_len plT (M := 53) (ps := l.map itT) fun p hp => by
      obtain ⟨q, hq, rfl⟩ := List.mem_map.mp hp
      exact it_len (h q hq)
    have e : plT.length = 3 := by decide +kernel
    rw [e, List.length_map] at this
    omega
/-- the words of a printed stock -/
def wds : List (Str × Str) → List Str
  | [] => ["nothing"]
  | [p] => [p.1, p.2]
  | p :: q :: r => p.1 :: p.2 :: ("+" : Str) :: wds (q :: r)
theorem wds_ne : ∀ l, wds l ≠ []
  | [] => by simp [wds]
  | [p] => by simp [wds]
  | p :: q :: r => by simp [wds]
theorem plus_tl : tl "+" = [43] := by decide +kernel
theorem joinI_wds : ∀ l : List (Str × Str), joinI l = Txt.join spT (wds l)
  | [] => by
    show (if ([] : List (Str × Str)) = [] then ("nothing" : Str) else _) = _
    rw [if_pos rfl]
    apply TL.ext_tl
    rw [join_tl]
    rfl
  | [p] => by
    show (if [p] = [] then _ else Txt.join plT [itT p]) = _
    rw [if_neg (by simp)]
    apply TL.ext_tl
    rw [join_tl, join_tl, tl_pl, tl_sp]
    show tl (itT p) = tl p.1 ++ ([32] ++ tl p.2)
    rw [it_tl]
    rfl
  | p :: q :: r => by
    have ih := joinI_wds (q :: r)
    rw [show joinI (q :: r) = Txt.join plT ((q :: r).map itT) from if_neg (by simp)] at ih
    show (if (p :: q :: r) = [] then _ else Txt.join plT ((p :: q :: r).map itT)) = _
    rw [if_neg (by simp)]
    apply TL.ext_tl
    have ih2 := congrArg tl ih
    rw [join_tl, join_tl, tl_pl, tl_sp] at ih2
    rw [join_tl, join_tl, tl_pl, tl_sp]
    show tl (itT p) ++ ([32, 43, 32] ++ TL.joinL [32, 43, 32] (((q :: r).map itT).map tl)) = _
    rw [ih2, it_tl]
    show _ = tl p.1 ++ ([32] ++ (tl p.2 ++ ([32] ++ TL.joinL [32] (tl "+" :: (wds (q :: r)).map tl))))
    obtain ⟨w, ws, hw⟩ : ∃ w ws, wds (q :: r) = w :: ws := by
      cases e : wds (q :: r) with
      | nil => exact absurd e (wds_ne _)
      | cons w ws => exact ⟨w, ws, rfl⟩
    rw [hw]
    show _ = tl p.1 ++ ([32] ++ (tl p.2 ++ ([32] ++ (tl "+" ++ ([32] ++ TL.joinL [32] (tl w :: ws.map tl))))))
    rw [plus_tl]
    simp
theorem wds_ok : ∀ {l : List (Str × Str)}, (∀ p ∈ l, ItOk p) → ∀ x ∈ wds l, FreeS x ∧ Asc x ∧ x.length ≤ 40
  | [], _, x, hx => by
    have : x = "nothing" := List.mem_singleton.mp hx
    subst this
    exact nothing_ok
  | [p], h, x, hx => by
    have hp := h p List.mem_cons_self
    have hx : x ∈ [p.1, p.2] := hx
    simp at hx
    rcases hx with rfl | rfl
    · exact ⟨hp.w, hp.al, hp.wl⟩
    · exact ⟨hp.k, hp.ak, Nat.le_trans hp.kl (by decide)⟩
  | p :: q :: r, h, x, hx => by
    have hp := h p List.mem_cons_self
    have hx : x ∈ p.1 :: p.2 :: ("+" : Str) :: wds (q :: r) := hx
    rcases List.mem_cons.mp hx with rfl | hx
    · exact ⟨hp.w, hp.al, hp.wl⟩
    rcases List.mem_cons.mp hx with rfl | hx
    · exact ⟨hp.k, hp.ak, Nat.le_trans hp.kl (by decide)⟩
    rcases List.mem_cons.mp hx with rfl | hx
    · refine ⟨by unfold FreeS; rw [plus_tl]; simp, fun c hc => by rw [plus_tl] at hc; simp at hc; omega, by decide +kernel⟩
    · exact wds_ok (fun y hy => h y (List.mem_cons_of_mem _ hy)) x hx
theorem wds_len : ∀ l : List (Str × Str), (wds l).length ≤ 3 * l.length + 1
  | [] => by simp [wds]
  | [p] => by simp [wds]
  | p :: q :: r => by
    have := wds_len (q :: r)
    show (wds (q :: r)).length + 3 ≤ _
    simp at *
    omega
/-! ### reading back -/
theorem itT_ne {p : Str × Str} : Txt.join plT [itT p] ≠ "nothing" := fun h => by
  have := congrArg tl h
  rw [join_tl] at this
  have e : tl (itT p) = tl "nothing" := this
  rw [it_tl] at e
  exact nothing_ok.1 (e ▸ List.mem_append_right _ List.mem_cons_self)
theorem joinI_ne {l : List (Str × Str)} (hl : l ≠ []) : joinI l ≠ "nothing" := fun h => by
  have := congrArg tl h
  unfold joinI at this
  rw [if_neg hl, join_tl] at this
  cases l with
  | nil => exact hl rfl
  | cons p r =>
    refine nothing_ok.1 ?_
    show 32 ∈ tl "nothing"
    rw [← this]
    have hm : 32 ∈ tl (itT p) := by rw [it_tl]; exact List.mem_append_right _ List.mem_cons_self
    cases r with
    | nil => exact hm
    | cons q r => exact List.mem_append_left _ hm
/-- the table that is read: kinds to words -/
theorem pIt_val : ∀ {ks : List Str} {is : List (Option Str)} (nd : ks.Nodup) (hl : ks.length = is.length) (j : Nat) (k : Str), ks[j]? = some k → valD ((pIt ks is).map fun p => (p.2, p.1)) k = (is[j]?).getD none
  | [], _, _, _, j, k, h => by simp at h
  | k0 :: ks, [], _, hl, _, _, _ => by simp at hl
  | k0 :: ks, o :: is, nd, hl, j, k, h => by
    have nd' := (List.nodup_cons.mp nd)
    have hl' : ks.length = is.length := by simpa using hl
    have absent : ∀ is : List (Option Str), k0 ∉ ks → valD ((pIt ks is).map fun p => (p.2, p.1)) k0 = none := fun is hn => by
      cases e : valD ((pIt ks is).map fun p => (p.2, p.1)) k0 with
      | none => rfl
      | some w =>
        obtain ⟨p, hp, e2⟩ := List.mem_map.mp (valD_mem e)
        have := (pIt_mem hp).1
        cases e2
        exact absurd this hn
    cases j with
    | zero =>
      simp at h
      subst h
      cases o with
      | none => exact absent is nd'.1
      | some w =>
        show valD ((k0, w) :: _) k0 = some w
        rw [valD_cons, if_pos rfl]
    | succ j =>
      have hk : ks[j]? = some k := by simpa using h
      have ne : k0 ≠ k := fun z => nd'.1 (z ▸ List.mem_of_getElem? hk)
      have ih := pIt_val (is := is) nd'.2 hl' j k hk
      cases o with
      | none => simpa [pIt] using ih
      | some w =>
        show valD ((k0, w) :: (pIt ks is).map fun p => (p.2, p.1)) k = _
        rw [valD_cons, if_neg ne, ih]
        simp
theorem pIt_nodup : ∀ {ks : List Str} {is : List (Option Str)}, ks.Nodup → ((pIt ks is).map (·.2)).Nodup
  | k :: ks, some w :: is, nd => by
    have nd' := List.nodup_cons.mp nd
    show (k :: (pIt ks is).map (·.2)).Nodup
    refine List.nodup_cons.mpr ⟨fun hm => ?_, pIt_nodup nd'.2⟩
    obtain ⟨p, hp, e⟩ := List.mem_map.mp hm
    exact nd'.1 (e ▸ (pIt_mem hp).1)
  | k :: ks, none :: is, nd => pIt_nodup (ks := ks) (is := is) (List.nodup_cons.mp nd).2
  | [], _, _ => by simp [pIt]
  | _ :: _, [], _ => by simp [pIt]
/-- a digit at the head -/
theorem numL_head {n c : Nat} {r : List Nat} (h : TL.numL n = c :: r) (h0 : c = 48) : r = [] := by
  by_cases hn : n < 10
  · rw [TL.numL_lt hn] at h
    cases h
    rfl
  · exfalso
    have key : ∀ m : Nat, 1 ≤ m → ∀ d q, TL.numL m = d :: q → d ≠ 48 := by
      intro m
      induction m using Nat.strongRecOn with
      | _ m ih =>
        intro hm d q hd
        by_cases h10 : m < 10
        · rw [TL.numL_lt h10] at hd
          cases hd
          omega
        · rw [TL.numL_step (by omega)] at hd
          cases hq : TL.numL (m / 10) with
          | nil => exact absurd hq (TL.numL_ne _)
          | cons d' q' =>
            rw [hq] at hd
            cases hd
            exact ih (m / 10) (by omega) (by omega) _ _ hq
    exact key n (by omega) c r h h0
theorem num_read {x : Int} (h : 0 ≤ x) (hx : x ≤ 10 ^ 30) : intText? (numT x) = some x := by
  have e : x = ((x.toNat : Nat) : Int) := by omega
  have hl := num_len (k := 31) h (by decide) (Int.lt_of_le_of_lt hx (by decide))
  rw [TL.len_tl, num_tl h] at hl
  have := TL.int_num (n := x.toNat) (by omega)
  rw [← e] at this
  exact this
/-! ### lines -/
def lw (b : Bk) : Ev → List Str
  | .make s w m g => [("make" : Str), s, w, (b.ms[m]?.map Mv.nm).getD ""] ++ wds (pIt b.ks (g.map wrF))
  | .hand s w o g => [("hand" : Str), s, w, o] ++ wds (pIt b.ks (g.map wrF))
  | .send s w t g => [("send" : Str), s, w, numT t] ++ wds (pIt b.ks (g.map wrF))
  | .land s w t => [("land" : Str), s, w, numT t]
  | .forge s w g => [("forge" : Str), s, w] ++ wds (pIt b.ks (g.map wrF))
def lineF (b : Bk) (e : Ev) : Str := Txt.join spT (lw b e)
theorem kd_fs : FreeS "make" ∧ FreeS "hand" ∧ FreeS "send" ∧ FreeS "land" ∧ FreeS "forge" := by
  unfold FreeS
  decide +kernel
theorem kd_asc : Asc "make" ∧ Asc "hand" ∧ Asc "send" ∧ Asc "land" ∧ Asc "forge" := by
  have : (tl "make").all (· < 128) = true ∧ (tl "hand").all (· < 128) = true ∧ (tl "send").all (· < 128) = true ∧ (tl "land").all (· < 128) = true ∧ (tl "forge").all (· < 128) = true := by decide +kernel
  have key : ∀ {x : Str}, (tl x).all (· < 128) = true → Asc x := fun h c hc => by simpa using List.all_eq_true.mp h c hc
  exact ⟨key this.1, key this.2.1, key this.2.2.1, key this.2.2.2.1, key this.2.2.2.2⟩
/-! ## F8 -/
open TL (tl)
theorem small_tl : tl "abcdefghijklmnopqrstuvwxyz" = (List.range 26).map (· + 97) := by decide +kernel
theorem digs_tl : tl "0123456789" = (List.range 10).map (· + 48) := by decide +kernel
theorem low_mem {c : Nat} (h : isLow c = true) : c ∈ tl "abcdefghijklmnopqrstuvwxyz" := by
  have := low_lt h
  rw [small_tl]
  exact List.mem_map.mpr ⟨c - 97, List.mem_range.mpr (by omega), by omega⟩
theorem dig_mem {c : Nat} (h : isDig c = true) : c ∈ tl "0123456789" := by
  have := dig_lt h
  rw [digs_tl]
  exact List.mem_map.mpr ⟨c - 48, List.mem_range.mpr (by omega), by omega⟩
theorem pIt_get : ∀ {ks : List Str} {is : List (Option Str)} {j : Nat} {k w : Str}, ks[j]? = some k → is[j]? = some (some w) → (w, k) ∈ pIt ks is
  | k0 :: ks, o :: is, 0, k, w, h1, h2 => by
    simp at h1 h2
    subst h1 h2
    exact List.mem_cons_self
  | k0 :: ks, o :: is, j + 1, k, w, h1, h2 => by
    have := pIt_get (ks := ks) (is := is) (j := j) (by simpa using h1) (by simpa using h2)
    cases o with
    | none => exact this
    | some _ => exact List.mem_cons_of_mem _ this
  | [], _, _, _, _, h1, _ => by simp at h1
  | _ :: _, [], _, _, _, _, h2 => by simp at h2
theorem sum_le {M : Nat} : ∀ (l : List Str), (∀ x ∈ l, x.length ≤ M) → (l.map (·.length)).sum ≤ l.length * M
  | [], _ => by simp
  | x :: l, h => by
    have h1 := h x List.mem_cons_self
    have h2 := sum_le l fun y hy => h y (List.mem_cons_of_mem _ hy)
    simp only [List.map_cons, List.sum_cons, List.length_cons, Nat.add_mul]
    omega
theorem all_true {α : Type} (l : List α) : (l.map fun _ => true).all id = true := by
  rw [List.all_eq_true]; intro x hx; obtain ⟨_, _, rfl⟩ := List.mem_map.mp hx; rfl
def fName : PSp := fun ss P => ∃ x, ss = [.dat (.str x)] ∧ NmOk x ∧ P (.dat (.bool true))
abbrev NIsName : List Str := ["value", "char"]
theorem scIsName : FnScope NIsName ["value"] (defScope sIsName) := ⟨rfl, rfl, rfl, by decide +kernel, rfl, by decide +kernel, by decide +kernel⟩
abbrev OkIsName (P : Program) (w : World) (K : PySem.W.Frag) (mg : Str → Option Value) (base : Heap) : Prop := OkG P w K mg base "is_name" 1 ["value"] (spP K 1 fName)
theorem ok_IsName {P : Program} {w : World} {K : PySem.W.Frag} {mg : Str → Option Value} {base : Heap} (T : Tx K mg)  : OkIsName P w K mg base :=
  (by exact getit : Hold (OkIsName P w K mg base) (by
    obtain ⟨t_DIGITS, h_DIGITS⟩ := T.c_DIGITS
    obtain ⟨t_SMALL, h_SMALL⟩ := T.c_SMALL
    have S := scIsName
    refine okG_p (m := 1) T.gIsName T.fIsName S rfl rfl (fun _ _ _ _ _ _ us hl => match us, hl with | [_], _ => rfl) fun cdv A outer s H E hr => ⟨_,
      (pss_cons (ps_if (PW.pt (pw_or (pt_not (pt_val (pe_callB (k_isi (K := K) rfl) (by rfl) T.b_isinstance (by decide +kernel) (pa_cons (pv 0) (pa_cons (pe_bltn (v := .ty "str") (by rfl) T.b_str (by decide +kernel) rfl) pa_nil))))) (pw_or (pt_not (pt_chain op_le op_le pe_int (pe_callB call_lenTx (by rfl) T.b_len (by decide +kernel) (pa_cons (pv 0) pa_nil)) pe_int)) (pw_or1 (pt_cmpR (k_in (K := K) rfl) (pv 0) (k_globR T.gRES (by rfl)) (by rfl)))))) (pss_one (ps_ret pe_bl)) pss_nil)
      (pss_one (ps_ret (pe_and (pe_cmpR op_inSg (pe_ix ix_str (pv 0) pe_int (fun _ _ => rfl)) (k_globS h_SMALL (by rfl)) rfl) (pe_one (pe_callB (k_all (K := K) rfl rfl) (by rfl) T.b_all (by decide +kernel) (pa_cons (pe_lc (own := [("char", 1)]) (tt := tYes) rfl S.nd (pi_str (pv 0)) (blkOk_by (N := NIsName) (sc := defScope sIsName) (by decide +kernel)) (fun _ _ _ _ _ => (pg_name (i := 1) S.nd rfl (Or.inl rfl))) (fun _ _ _ _ _ => pts_nil) (fun _ _ _ _ _ => (pe_or (pe_cmpR op_inSg (pv 1) (k_globS h_SMALL (by rfl)) rfl) (pe_one (pe_cmpR op_inSg (pv 1) (k_globS h_DIGITS (by rfl)) rfl))))) pa_nil))))))), ?_⟩
    rintro ss P' ⟨x, rfl, N, p⟩
    have hl := N.le
    have h1 : 1 ≤ x.length := by
      obtain ⟨c, r, e, _⟩ := N.hd
      rw [TL.len_tl]
      show 1 ≤ x.cps.toList.length
      rw [e]
      simp
    walk_at "rds0"
    refine ex_ifP false ?_ (fun h => nomatch h) (fun _ => ?_)
    · refine et_orP false false ?_ (fun _ => et_orP false false ?_ (fun _ => ?_) ⟨rfl, rfl⟩) ⟨rfl, rfl⟩
      · walk_at "rds"
        exact ⟨rfl, rfl⟩
      · walk_at "rds"
        rw [decide_eq_true (by omega)]
        walk_at "rds"
        exact ⟨by rw [decide_eq_true (by omega)]; rfl, rfl⟩
      · walk_at "rds"
        refine op_inK (ns := ["kinds", "nothing", "endless", "x"]) T.sRES ?_
        walk_at "rds"
        exact ⟨by simpa using N.free, rfl⟩
    · obtain ⟨c, r, ec, hc⟩ := N.hd
      have at0 : atI x.cps.toList (0 : Int) = some c := by rw [ec]; show atI (c :: r) ((0 : Nat) : Int) = some c; exact atI_nat rfl
      walk_at "rds"
      refine op_ixS (sz_of (by omega)) at0 ?_
      walk_at "rds"
      refine op_sg ?_
      rw [decide_eq_true (low_mem hc)]
      walk_at "rds"
      refine lcU (tl x) (fun c => .str ⟨#[c]⟩) (fun _ => .bool true) (wg_name (by decide)) ?_
      walk_at "rds"
      have hl2 : (tl x).length ≤ 12 := N.len
      refine ⟨rfl, by omega, fun c hc => ?_, ?_⟩
      · walk_at "rds"
        refine ⟨rfl, ?_⟩
        walk_at "rds"
        refine op_sg ?_
        refine ⟨_, rfl, fun hb => ?_, fun hb => ⟨.dat _, rfl⟩⟩
        walk_at "rds"
        refine op_sg ?_
        rcases N.all c hc with h | h
        · exact absurd (low_mem h) (of_decide_eq_false hb)
        · rw [decide_eq_true (dig_mem h)]
          exact ⟨.dat _, rfl⟩
      · walk_at "rds"
        refine ca_all' (bs := (tl x).map fun _ => true) (by rw [List.map_map]; rfl) ?_
        rw [all_true]
        walk_at "fin"))
def fMove : PSp := fun ss P => ∃ b i mv, ss = [.dat (bkD b), .dat (.str mv.nm)] ∧ b.ms[i]? = some mv ∧ BkOk b ∧ P (.dat (.int (i : Nat)))
abbrev NMoveIndex : List Str := ["book", "name", "m"]
theorem scMoveIndex : FnScope NMoveIndex ["book", "name"] (defScope sMoveIndex) := ⟨rfl, rfl, rfl, by decide +kernel, rfl, by decide +kernel, by decide +kernel⟩
abbrev OkMoveIndex (P : Program) (w : World) (K : PySem.W.Frag) (mg : Str → Option Value) (base : Heap) : Prop := OkG P w K mg base "move_index" 1 ["book", "name"] (spP K 2 fMove)
theorem ok_MoveIndex {P : Program} {w : World} {K : PySem.W.Frag} {mg : Str → Option Value} {base : Heap} (T : Tx K mg)  : OkMoveIndex P w K mg base :=
  (by exact getit : Hold (OkMoveIndex P w K mg base) (by
    have S := scMoveIndex
    refine okG_p (m := 1) T.gMoveIndex T.fMoveIndex S rfl rfl (fun _ _ _ _ _ _ us hl => match us, hl with | [_, _], _ => rfl) fun cdv A outer s H E hr => ⟨_,
      (pss_cons (ps_for PassesOwn.never rfl (pi_range1 (by rfl) T.b_range (pa_cons (pe_callB (k_len (K := K) rfl) (by rfl) T.b_len (by decide +kernel) (pa_cons (pe_ix (k_ixT (K := K) rfl) (pv 0) pe_int (fun _ _ => rfl)) pa_nil)) pa_nil)) (pg_name (i := 2) S.nd rfl (Or.inl rfl)) (pss_one (ps_if (pt_cmpR (k_eq (K := K) rfl hr.units) (pe_ix (k_ixT (K := K) rfl) (pe_ix (k_ixT (K := K) rfl) (pe_ix (k_ixT (K := K) rfl) (pv 0) pe_int (fun _ _ => rfl)) (pv 2) (fun _ _ => rfl)) pe_int (fun _ _ => rfl)) (pv 1) (nomark _)) (pss_one (ps_ret (pv 2))) pss_nil)))
      (pss_one (ps_ret pe_non))), ?_⟩
    rintro ss P' ⟨b, i, mv, rfl, hi, B, p⟩
    have hil := (List.getElem?_eq_some_iff.mp hi).1
    have m8 := B.m8
    walk_at "rds"
    rw [rangeD_len]
    refine ⟨by omega, fun k δ' μ' => (∃ z, δ' = [.dat (bkD b), .dat (.str mv.nm), z]) ∧ μ' = [] ∧ k ≤ i, ⟨⟨_, rfl⟩, rfl, Nat.zero_le _⟩, fun k d δ' μ' hd hinv => ?_, fun δ' μ' hinv => ?_⟩
    · obtain ⟨⟨z, rfl⟩, rfl, hki⟩ := hinv
      obtain ⟨hk, rfl⟩ := range0 hd
      have hm : b.ms[k]? = some b.ms[k] := List.getElem?_eq_getElem hk
      have ok1 := strok_of (B.ms _ (List.mem_of_getElem? hm)).nm
      have ok2 := strok_of (B.ms _ (List.mem_of_getElem? hi)).nm
      have key : b.ms[k].nm = mv.nm → k = i := fun e => by
        have h1 : (b.ms.map Mv.nm)[k]'(by simpa using hk) = (b.ms.map Mv.nm)[i]'(by simpa using hil) := by
          rw [List.getElem_map, List.getElem_map, e]
          have := (List.getElem?_eq_some_iff.mp hi).2
          rw [this]
        exact (List.getElem_inj B.md).mp h1
      have hne : k = i → b.ms[k].nm = mv.nm := fun e => by
        subst e
        rw [hm] at hi
        cases hi
        rfl
      generalize b.ms[k] = m at *
      walk_at "rds"
      refine ⟨fun hb => ?_, fun hb => ?_⟩
      · walk_at "rds"
        have := key (of_decide_eq_true hb)
        subst this
        walk_at "fin"
      · walk_at "rds"
        refine ⟨⟨_, rfl⟩, rfl, ?_⟩
        have : k ≠ i := fun e => of_decide_eq_false hb (hne e)
        omega
    · obtain ⟨⟨z, rfl⟩, rfl, hki⟩ := hinv
      omega))
abbrev optD : Option Str → PyData
  | none => .none
  | some w => .str w
def fItems : PSp := fun ss P => ∃ ks is, ss = [.dat (.tuple (ks.map .str)), .dat (.list (is.map optD))] ∧ ks.length = is.length ∧ ks.length ≤ 6 ∧ (∀ p ∈ pIt ks is, ItOk p) ∧ P (.dat (.str (joinI (pIt ks is))))
abbrev NPrintItems : List Str := ["kinds", "items", "words", "k"]
theorem scPrintItems : FnScope NPrintItems ["kinds", "items"] (defScope sPrintItems) := ⟨rfl, rfl, rfl, by decide +kernel, rfl, by decide +kernel, by decide +kernel⟩
abbrev OkPrintItems (P : Program) (w : World) (K : PySem.W.Frag) (mg : Str → Option Value) (base : Heap) : Prop := OkG P w K mg base "print_items" 1 ["kinds", "items"] (spP K 2 fItems)
theorem ok_PrintItems {P : Program} {w : World} {K : PySem.W.Frag} {mg : Str → Option Value} {base : Heap} (T : Tx K mg)  : OkPrintItems P w K mg base :=
  (by exact getit : Hold (OkPrintItems P w K mg base) (by
    have S := scPrintItems
    refine okG_p (m := 2) T.gPrintItems T.fPrintItems S rfl rfl (fun _ _ _ _ _ _ us hl => match us, hl with | [_, _], _ => rfl) fun cdv A outer s H E hr => ⟨_,
      (pss_cons (ps_setLc (i := 2) (own := [("k", 3)]) rfl S.nd rfl rfl (sw_true rfl rfl rfl (by decide +kernel)) (pi_range1 (by rfl) T.b_range (pa_cons (pe_callB (k_len (K := K) rfl) (by rfl) T.b_len (by decide +kernel) (pa_cons (pv 0) pa_nil)) pa_nil)) (blkOk_by (N := NPrintItems) (sc := defScope sPrintItems) (by decide +kernel)) (fun _ _ _ _ _ => (pg_name (i := 3) S.nd rfl (Or.inl rfl))) (fun _ _ _ _ _ => (pts_one (pt_cmp (pc_notN (pe_ix (k_ixL (K := K) rfl) (pv 1) (pv 3) (fun _ _ => rfl))) rfl))) (fun _ _ _ _ _ => (pe_op op_addT (pe_op op_addT (pe_ix (k_ixL (K := K) rfl) (pv 1) (pv 3) (fun _ _ => rfl)) pe_str) (pe_ix (k_ixT (K := K) rfl) (pv 0) (pv 3) (fun _ _ => rfl)))))
      (pss_one (ps_ret (pe_ifExp (pt_cmpR op_gt (pe_callB (k_len (K := K) rfl) (by rfl) T.b_len (by decide +kernel) (pa_cons (pv 2) pa_nil)) pe_int (nomark _)) (k_join (K := K) rfl pe_str (pv 2)) pe_str)))), ?_⟩
    rintro ss P' ⟨ks, is, rfl, hl, h6, ho, p⟩
    walk_at "rds0"
    refine lcA (List.range ks.length) (fun k => .int (k : Nat)) (fun k => (is.getD k none).isSome) (fun k => .str ((is.getD k none).getD "" ++ spT ++ ks.getD k "")) (wg_name (by decide)) ?_
    walk_at "rds0"
    refine ⟨by omega, by rw [rangeD_ints, List.map_map]; rfl, by simp; omega, fun k hk => ?_, ?_⟩
    · have hk := List.mem_range.mp hk
      have h1 : ks[k]? = some ks[k] := List.getElem?_eq_getElem hk
      have h2 : is[k]? = some is[k] := List.getElem?_eq_getElem (by omega)
      have g1 : ks.getD k "" = ks[k] := by rw [List.getD_eq_getElem?_getD, h1]; rfl
      have g2 : is.getD k none = is[k] := by rw [List.getD_eq_getElem?_getD, h2]; rfl
      have mem := fun w (hw : is[k] = some w) => ho (w, ks[k]) (pIt_get h1 (by rw [h2, hw]))
      rw [g1, g2]
      generalize ks[k] = x at *
      generalize is[k] = o at *
      walk_at "rds0"
      refine ⟨rfl, ?_⟩
      walk_at "rds0"
      cases o with
      | none =>
        walk_at "rds"
        exact ⟨rfl, rfl, fun h => nomatch h⟩
      | some w =>
        have I := mem w rfl
        have wl := I.wl
        have kl := I.kl
        have sl : spT.length = 1 := by decide +kernel
        walk_at "rds"
        refine ⟨rfl, rfl, fun _ => ?_⟩
        walk_at "rds"
        refine op_tt (sz_of (by show w.length + spT.length ≤ _; have : w.length ≤ 40 := wl; omega)) ?_
        walk_at "rds"
        refine op_tt (sz_of (by rw [len_app]; show w.length + spT.length + x.length ≤ _; have : w.length ≤ 40 := wl; have : x.length ≤ 12 := kl; omega)) ?_
        exact ⟨.dat _, rfl⟩
    · have e : ((List.range ks.length).filter fun k => (is.getD k none).isSome).map (fun k => PyData.str ((is.getD k none).getD "" ++ spT ++ ks.getD k "")) = ((pIt ks is).map itT).map .str := by
        rw [← pIt_range ks is hl, List.map_map]
        rfl
      rw [e]
      have pl := pIt_len ks is
      walk_at "rds0"
      unfold joinI at p
      refine ev_ifP (decide ((pIt ks is) ≠ [])) ?_ (fun hb => ?_) (fun hb => ?_)
      · walk_at "rds"
        refine ⟨?_, rfl⟩
        rw [List.length_map]
        cases pIt ks is with
        | nil => rfl
        | cons _ _ => simp
      · rw [if_neg (of_decide_eq_true hb)] at p
        walk_at "rds"
        first | refine ⟨_, .lst _, ?_, ?_⟩ | refine ⟨?_, ?_⟩
        · have h1 : ∀ x ∈ (pIt ks is).map itT, x.length ≤ 53 := fun x hx => by
            obtain ⟨q, hq, rfl⟩ := List.mem_map.mp hx
            exact it_len (ho q hq)
          have h2 := sum_le _ h1
          have h3 : plT.length = 3 := by decide +kernel
          have h4 : ((pIt ks is).map itT).length ≤ 6 := by simp; omega
          show _ + _ * plT.length ≤ _
          rw [h3]
          omega
        · walk_at "fin"
      · have hb := of_decide_eq_false hb
        rw [if_pos (Decidable.not_not.mp hb)] at p
        walk_at "rds"
        walk_at "fin"))
def fWritten : PSp := fun ss P => ∃ x, ss = [.dat (.int x)] ∧ -(10 ^ 25) ≤ x ∧ x ≤ 10 ^ 25 ∧ P (.dat (optD (wrF x)))
abbrev NWritten : List Str := ["number"]
theorem scWritten : FnScope NWritten ["number"] (defScope sWritten) := ⟨rfl, rfl, rfl, by decide +kernel, rfl, by decide +kernel, by decide +kernel⟩
abbrev OkWritten (P : Program) (w : World) (K : PySem.W.Frag) (mg : Str → Option Value) (base : Heap) : Prop := OkG P w K mg base "written" 1 ["number"] (spP K 1 fWritten)
theorem ok_Written {P : Program} {w : World} {K : PySem.W.Frag} {mg : Str → Option Value} {base : Heap} (T : Tx K mg)  : OkWritten P w K mg base :=
  (by exact getit : Hold (OkWritten P w K mg base) (by
    have S := scWritten
    refine okG_p (m := 0) T.gWritten T.fWritten S rfl rfl (fun _ _ _ _ _ _ us hl => match us, hl with | [_], _ => rfl) fun cdv A outer s H E hr => ⟨_,
      (pss_cons (ps_if (pt_cmpR (k_eq (K := K) rfl hr.units) (pv 0) (pe_un un_neg pe_int) (nomark _)) (pss_one (ps_ret pe_str)) pss_nil)
      (pss_one (ps_ret (pe_ifExp (pt_cmpR op_gt (pv 0) pe_int (nomark _)) (pe_callTy call_strI (by rfl) T.b_str (by decide +kernel) (pa_cons (pv 0) pa_nil)) pe_non)))), ?_⟩
    rintro ss P' ⟨x, rfl, h1, h2, p⟩
    unfold wrF at p
    walk_at "rds"
    refine ⟨fun hb => ?_, fun hb => ?_⟩
    · have hb := of_decide_eq_true hb
      rw [if_pos hb] at p
      walk_at "rds"
      walk_at "fin"
    · have hb := of_decide_eq_false hb
      rw [if_neg hb] at p
      walk_at "rds"
      refine ⟨fun hc => ?_, fun hc => ?_⟩
      · rw [if_pos (of_decide_eq_true hc)] at p
        walk_at "rds"
        refine ca_strI (num_log (by omega) (by omega)) ?_
        walk_at "fin"
      · rw [if_neg (of_decide_eq_false hc)] at p
        walk_at "rds"
        walk_at "fin"))
def fPrint : PSp := fun ss P => ∃ b s, ss = [.dat (bkD b), .dat (stk s)] ∧ BkOk b ∧ AbOk b.n (10 ^ 25) s ∧ P (.dat (.str (printF b.ks s)))
abbrev NPrintStock : List Str := ["book", "stock", "number"]
theorem scPrintStock : FnScope NPrintStock ["book", "stock"] (defScope sPrintStock) := ⟨rfl, rfl, rfl, by decide +kernel, rfl, by decide +kernel, by decide +kernel⟩
abbrev OkPrintStock (P : Program) (w : World) (K : PySem.W.Frag) (mg : Str → Option Value) (base : Heap) : Prop := OkG P w K mg base "print_stock" 2 ["book", "stock"] (spP K 2 fPrint)
theorem ok_PrintStock {P : Program} {w : World} {K : PySem.W.Frag} {mg : Str → Option Value} {base : Heap} (T : Tx K mg) (h_PrintItems : OkPrintItems P w K mg base) (h_Written : OkWritten P w K mg base) : OkPrintStock P w K mg base :=
  (by exact getit : Hold (OkPrintStock P w K mg base) (by
    have S := scPrintStock
    refine okG_p (m := 1) T.gPrintStock T.fPrintStock S rfl rfl (fun _ _ _ _ _ _ us hl => match us, hl with | [_, _], _ => rfl) fun cdv A outer s H E hr => ⟨_,
      (pss_one (ps_ret (pe_callG h_PrintItems (hr.mono (by decide)) (pa_cons (pe_ix (k_ixT (K := K) rfl) (pv 0) pe_int (fun _ _ => rfl)) (pa_cons (pe_lc (own := [("number", 2)]) (tt := tYes) rfl S.nd (k_tupI (K := K) rfl (pv 1)) (blkOk_by (N := NPrintStock) (sc := defScope sPrintStock) (by decide +kernel)) (fun _ _ _ _ _ => (pg_name (i := 2) S.nd rfl (Or.inl rfl))) (fun _ _ _ _ _ => pts_nil) (fun _ _ _ _ _ => (pe_callG h_Written (hr.mono (by decide)) (pa_cons (pv 2) pa_nil)))) pa_nil))))), ?_⟩
    rintro ss P' ⟨b, s, rfl, B, A, p⟩
    have n6 := B.n6
    have sl := A.1
    walk_at "rds"
    refine lcU s .int (fun x => optD (wrF x)) (wg_name (by decide)) ?_
    walk_at "rds"
    refine ⟨rfl, by omega, fun x hx => ?_, ?_⟩
    · have := A.2 x hx
      walk_at "rds"
      refine ⟨rfl, ?_⟩
      walk_at "rds"
      exact ⟨rfl, _, rfl, this.1, this.2, .dat _, rfl⟩
    · walk_at "rds"
      refine ⟨rfl, b.ks, s.map wrF, by rw [List.map_map]; rfl, by rw [List.length_map]; exact sl.symm, n6, items_ok B.ks A, ?_⟩
      walk_at "fin"))
/-! ## F9 -/
open TL (tl)
theorem sg_ok {c : Nat} (h : c < 128) : PyData.strOk ⟨#[c]⟩ = true := Asc.ok (x := ⟨#[c]⟩) fun d hd => by
  have : d ∈ [c] := hd
  rw [List.mem_singleton.mp this]
  exact h
def fNumOf : PSp := fun ss P => ∃ x mo, ss = [.dat (.str (numT x)), .dat (.int mo)] ∧ 0 ≤ x ∧ x ≤ mo ∧ mo ≤ 10 ^ 30 ∧ P (.dat (.int x))
abbrev NNumberOf : List Str := ["word", "most", "number", "char"]
theorem scNumberOf : FnScope NNumberOf ["word", "most"] (defScope sNumberOf) := ⟨rfl, rfl, rfl, by decide +kernel, rfl, by decide +kernel, by decide +kernel⟩
abbrev OkNumberOf (P : Program) (w : World) (K : PySem.W.Frag) (mg : Str → Option Value) (base : Heap) : Prop := OkG P w K mg base "number_of" 1 ["word", "most"] (spP K 2 fNumOf)
theorem ok_NumberOf {P : Program} {w : World} {K : PySem.W.Frag} {mg : Str → Option Value} {base : Heap} (T : Tx K mg)  : OkNumberOf P w K mg base :=
  (by exact getit : Hold (OkNumberOf P w K mg base) (by
    obtain ⟨t_DIGITS, h_DIGITS⟩ := T.c_DIGITS
    have S := scNumberOf
    refine okG_p (m := 2) T.gNumberOf T.fNumberOf S rfl rfl (fun _ _ _ _ _ _ us hl => match us, hl with | [_, _], _ => rfl) fun cdv A outer s H E hr => ⟨_,
      (pss_cons (ps_if (PW.pt (pw_or (pt_cmpR (k_eq (K := K) rfl hr.units) (pv 0) pe_str (nomark _)) (pw_or (pt_cmpR op_gt (pe_callB call_lenTx (by rfl) T.b_len (by decide +kernel) (pa_cons (pv 0) pa_nil)) pe_int (nomark _)) (pw_or1 (pt_not (pt_val (pe_callB (k_all (K := K) rfl rfl) (by rfl) T.b_all (by decide +kernel) (pa_cons (pe_lc (own := [("char", 3)]) (tt := tYes) rfl S.nd (pi_str (pv 0)) (blkOk_by (N := NNumberOf) (sc := defScope sNumberOf) (by decide +kernel)) (fun _ _ _ _ _ => (pg_name (i := 3) S.nd rfl (Or.inl rfl))) (fun _ _ _ _ _ => pts_nil) (fun _ _ _ _ _ => (pe_cmpR op_inSg (pv 3) (k_globS h_DIGITS (by rfl)) rfl))) pa_nil)))))))) (pss_one (ps_ret pe_non)) pss_nil)
      (pss_cons (ps_if (PW.pt (pw_and (pt_cmpR (k_eq (K := K) rfl hr.units) (pe_ix ix_str (pv 0) pe_int (fun _ _ => rfl)) pe_str (nomark _)) (pw_and1 (pt_cmpR op_gt (pe_callB call_lenTx (by rfl) T.b_len (by decide +kernel) (pa_cons (pv 0) pa_nil)) pe_int (nomark _))))) (pss_one (ps_ret pe_non)) pss_nil)
      (pss_cons (ps_set (i := 2) S.nd rfl (Or.inl rfl) (pe_callTy call_intT (by rfl) T.b_int (by decide +kernel) (pa_cons (pv 0) pa_nil)))
      (pss_one (ps_ret (pe_ifExp (pt_cmpR op_le (pv 2) (pv 1) (nomark _)) (pv 2) pe_non)))))), ?_⟩
    rintro ss P' ⟨x, mo, rfl, h0, h1, h2, p⟩
    have nl := num_len (k := 31) h0 (by decide) (Int.lt_of_le_of_lt (Int.le_trans h1 h2) (by decide))
    have na := num_asc h0
    have nr := num_read h0 (by omega)
    have nd : ∀ c ∈ tl (numT x), isDig c = true := fun c hc => by
      rw [num_tl h0] at hc
      have := TL.numL_digits _ c hc
      unfold isDig
      simp
      omega
    obtain ⟨c, r, ec⟩ : ∃ c r, tl (numT x) = c :: r := by
      cases e : tl (numT x) with
      | nil => rw [num_tl h0] at e; exact absurd e (TL.numL_ne _)
      | cons c r => exact ⟨c, r, rfl⟩
    have hz : c = 48 → r = [] := fun hc => by
      rw [num_tl h0] at ec
      exact numL_head ec hc
    have hne : numT x ≠ "" := fun e => by
      rw [e] at ec
      have : tl "" = [] := by decide +kernel
      rw [this] at ec
      cases ec
    have at0 : atI (tl (numT x)) (0 : Int) = some c := by rw [ec]; show atI (c :: r) ((0 : Nat) : Int) = some c; exact atI_nat rfl
    have cl : c < 128 := na c (by rw [ec]; exact List.mem_cons_self)
    have len : (numT x).length = r.length + 1 := by rw [TL.len_tl, ec]; rfl
    generalize numT x = z at *
    have zo := na.ok
    walk_at "rds0"
    refine ex_ifP false ?_ (fun h => nomatch h) (fun _ => ?_)
    · refine et_orP false false ?_ (fun _ => et_orP false false ?_ (fun _ => ?_) ⟨rfl, rfl⟩) ⟨rfl, rfl⟩
      · walk_at "rds"
        exact ⟨decide_eq_false hne, rfl⟩
      · walk_at "rds"
        exact ⟨decide_eq_false (by omega), rfl⟩
      · walk_at "rds"
        refine lcU (tl z) (fun c => .str ⟨#[c]⟩) (fun _ => .bool true) (wg_name (by decide)) ?_
        walk_at "rds"
        refine ⟨rfl, by rw [← TL.len_tl]; omega, fun c hc => ?_, ?_⟩
        · walk_at "rds"
          refine ⟨rfl, ?_⟩
          walk_at "rds"
          refine op_sg ?_
          rw [decide_eq_true (dig_mem (nd c hc))]
          exact ⟨.dat _, rfl⟩
        · walk_at "rds"
          refine ca_all' (bs := (tl z).map fun _ => true) (by rw [List.map_map]; rfl) ?_
          rw [all_true]
          walk_at "rds"
          exact ⟨rfl, rfl⟩
    walk_at "rds0"
    refine ex_ifP false ?_ (fun h => nomatch h) (fun _ => ?_)
    · refine et_andP (decide ((⟨#[c]⟩ : Str) = "0")) false ?_ (fun hc => ?_) ⟨by simp, rfl⟩
      · walk_at "rds"
        refine op_ixS (sz_of (by omega)) at0 ?_
        walk_at "rds"
        refine op_eqs (sg_ok cl) (by decide +kernel) ?_
        walk_at "rds"
        exact ⟨rfl, rfl⟩
      · have hc := of_decide_eq_true hc
        have h48 : c = 48 := by
          have e1 : tl (⟨#[c]⟩ : Str) = tl "0" := congrArg tl hc
          have e2 : tl "0" = [48] := by decide +kernel
          rw [e2] at e1
          have e1 : [c] = [48] := e1
          injection e1
        have hr := hz h48
        subst hr
        walk_at "rds"
        exact ⟨decide_eq_false (by rw [len]; decide), rfl⟩
    walk_at "rds"
    refine ca_intT nr (by omega) ?_
    walk_at "rds"
    refine ⟨fun hb => ?_, fun hb => ?_⟩
    · walk_at "rds"
      walk_at "fin"
    · exact absurd h1 (of_decide_eq_false hb)))
abbrev rdE (l : List (Str × Str)) : List (Key × PyData) := l.map fun q => ((.inr q.2 : Key), PyData.str q.1)
theorem rd_val (l : List (Str × Str)) (k : Str) : valD (rdE l) (.inr k) = (valD (l.map fun q => (q.2, q.1)) k).map .str := by
  have := valD_map (f := fun a : Str => (Sum.inr a : Key)) (g := PyData.str) inr_inj (l.map fun q => (q.2, q.1)) k
  rw [← this, List.map_map]
  rfl
theorem rd_none {l : List (Str × Str)} {k : Str} (h : k ∉ l.map (·.2)) : valD (rdE l) (.inr k) = none := by
  rw [rd_val]
  cases e : valD (l.map fun q => (q.2, q.1)) k with
  | none => rfl
  | some w =>
    obtain ⟨q, hq, e2⟩ := List.mem_map.mp (valD_mem e)
    cases e2
    exact absurd (List.mem_map.mpr ⟨q, hq, rfl⟩) h
theorem rd_put {l : List (Str × Str)} {w k : Str} (h : k ∉ l.map (·.2)) : putD (rdE l) (.inr k) (.str w) = rdE (l ++ [(w, k)]) := by
  unfold putD
  have : ((rdE l).any fun e => decide (e.1 = (.inr k : Key))) = false := by
    rw [List.any_eq_false]
    intro x hx hc
    obtain ⟨q, hq, rfl⟩ := List.mem_map.mp hx
    exact h (List.mem_map.mpr ⟨q, hq, Sum.inr.inj (of_decide_eq_true hc)⟩)
  rw [this]
  simp [rdE]
def aReadItems : ASp := fun ss μ P => ∃ (ks : List Str) (l : List (Str × Str)), ss = [.dat (.tuple (ks.map .str)), .dat (.str (joinI l))] ∧ μ = [] ∧ (∀ p ∈ l, ItOk p ∧ p.2 ∈ ks) ∧ (l.map (·.2)).Nodup ∧ l.length ≤ 6 ∧ ∀ a, P (.val (.ref a)) [] [(a, .dk (rdE l))]
abbrev NReadItems : List Str := ["kinds", "text", "found", "item", "words"]
theorem scReadItems : FnScope NReadItems ["kinds", "text"] (defScope sReadItems) := ⟨rfl, rfl, rfl, by decide +kernel, rfl, by decide +kernel, by decide +kernel⟩
abbrev OkReadItems (P : Program) (w : World) (K : PySem.W.Frag) (mg : Str → Option Value) (base : Heap) : Prop := OkG P w K mg base "read_items" 1 ["kinds", "text"] (spA K 2 aReadItems)
theorem ok_ReadItems {P : Program} {w : World} {K : PySem.W.Frag} {mg : Str → Option Value} {base : Heap} (T : Tx K mg)  : OkReadItems P w K mg base :=
  (by exact getit : Hold (OkReadItems P w K mg base) (by
    have S := scReadItems
    refine okG_a (m := 3) T.gReadItems T.fReadItems S rfl rfl (fun _ _ _ _ _ _ us hl => match us, hl with | [_, _], _ => rfl) fun cdv A outer s H E hr => ⟨_,
      (pss_cons (ps_set (i := 2) S.nd rfl (Or.inl rfl) pe_dnewK)
      (pss_cons (ps_if (pt_cmpR (k_eq (K := K) rfl hr.units) (pv 1) pe_str (nomark _)) (pss_one (ps_ret (pv 2))) pss_nil)
      (pss_cons (ps_for PassesOwn.never rfl (k_list (K := K) rfl (pe_splitQ (pv 1) pe_str)) (pg_name (i := 3) S.nd rfl (Or.inl rfl)) (pss_cons (ps_set (i := 4) S.nd rfl (Or.inl rfl) (pe_splitQ (pv 3) pe_str))
      (pss_cons (ps_if (PW.pt (pw_or (pt_cmpR (k_ne (K := K) rfl hr.units) (pe_callB (k_len (K := K) rfl) (by rfl) T.b_len (by decide +kernel) (pa_cons (pv 4) pa_nil)) pe_int (nomark _)) (pw_or (pt_cmpR (k_nin (K := K) rfl) (pe_ix (k_ixL (K := K) rfl) (pv 4) pe_int (fun _ _ => rfl)) (pv 0) (by rfl)) (pw_or1 (pt_cmp (pc_din (hu_of hr) (pe_ix (k_ixL (K := K) rfl) (pv 4) pe_int (fun _ _ => rfl)) (pv 2)) rfl))))) (pss_one (ps_ret pe_non)) pss_nil)
      (pss_one (ps_dput (hu_of hr) (pv 2) (pe_ix (k_ixL (K := K) rfl) (pv 4) pe_int (fun _ _ => rfl)) (pe_ix (k_ixL (K := K) rfl) (pv 4) pe_int (fun _ _ => rfl)) rfl)))))
      (pss_one (ps_ret (pv 2)))))), ?_⟩
    rintro ss μ P' ⟨ks, l, rfl, rfl, ho, nd, h6, p⟩
    have ok : ∀ p ∈ l, ItOk p := fun p hp => (ho p hp).1
    have jl := joinI_len ok h6
    have jo := (joinI_asc ok).ok
    walk_at "rds"
    refine ev_dnewK fun a => ?_
    have p := p a
    walk_at "rds"
    refine ⟨fun hb => ?_, fun hb => ?_⟩
    · have : l = [] := by
        cases l with
        | nil => rfl
        | cons q r => exact absurd (of_decide_eq_true hb) (joinI_ne (by simp))
      subst this
      walk_at "rds"
      walk_at "finA"
    · have hne : l ≠ [] := fun e => by subst e; exact absurd rfl (of_decide_eq_false hb)
      have ej : joinI l = Txt.join plT (l.map itT) := if_neg hne
      walk_at "rds"
      refine ⟨by decide +kernel, sz_of (by omega), ?_⟩
      rw [ej, show (Str.ofString " + ") = plT from rfl, split_items hne ok, List.map_map]
      walk_at "rds"
      refine ⟨fun m δ' μ' => (∃ z1 z2, δ' = [.dat (.tuple (ks.map .str)), .dat (.str (Txt.join plT (l.map itT))), .val (.ref a), z1, z2]) ∧ μ' = [(a, .dk (rdE (l.take m)))], ⟨⟨_, _, rfl⟩, rfl⟩, fun m d δ' μ' hd hinv => ?_, fun δ' μ' hinv => ?_⟩
      · obtain ⟨⟨z1, z2, rfl⟩, rfl⟩ := hinv
        obtain ⟨q, hq, rfl⟩ := of_map hd
        have qm := List.mem_of_getElem? hq
        have qo := ok q qm
        have il := it_len qo
        have qk := (ho q qm).2
        have qn : q.2 ∉ (l.take m).map (·.2) := fun z => by
          obtain ⟨i, hi, e⟩ := List.mem_iff_getElem.mp z
          obtain ⟨hm1, hm2⟩ := List.getElem?_eq_some_iff.mp hq
          simp at hi
          have e1 : (l.map (·.2))[i]'(by simp; omega) = (l.map (·.2))[m]'(by simpa using hm1) := by
            rw [List.getElem_map, List.getElem_map, hm2]
            simpa using e
          have := (List.getElem_inj nd).mp e1
          omega
        walk_at "rds0"
        refine ⟨by decide +kernel, sz_of (by omega), ?_⟩
        rw [show (Str.ofString " ") = spT from rfl, split_item qo]
        walk_at "rds0"
        refine ex_ifP false ?_ (fun h => nomatch h) (fun _ => ?_)
        · refine et_orP false false ?_ (fun _ => et_orP false false ?_ (fun _ => ?_) ⟨rfl, rfl⟩) ⟨rfl, rfl⟩
          · walk_at "rds"
            exact ⟨rfl, rfl⟩
          · walk_at "rds"
            refine op_inT (.tup _) ?_
            walk_at "rds"
            exact ⟨by simp [qk], rfl⟩
          · walk_at "rds"
            refine ⟨a, _, _, rfl, .dat _, DicS.k (.inr q.2) (by walk_at "mem"), ?_⟩
            walk_at "rds"
            exact ⟨by rw [rd_none qn]; rfl, rfl⟩
        · walk_at "rds"
          refine ex_dput ?_
          walk_at "rds"
          refine ⟨0, .inr q.2, .str q.1, .dat _, .dat _, _, rfl, sz_lt (by simp; omega), ?_⟩
          rw [rd_put qn]
          exact ⟨⟨_, _, rfl⟩, by rw [take_get hq]; rfl⟩
      · obtain ⟨⟨z1, z2, rfl⟩, rfl⟩ := hinv
        rw [List.length_map, List.take_length]
        walk_at "rds"
        walk_at "finA"))
def fEntries : PSp := fun ss P => ∃ (ks : List Str) (s : List Int) (mo : Int), ss = [.dat (.tuple (ks.map .str)), .dat (.str (printF ks s)), .dat (.int mo), .dat (.bool false)] ∧ (∀ k ∈ ks, NmOk k) ∧ ks.Nodup ∧ ks.length ≤ 6 ∧ StOk ks.length (10 ^ 25) s ∧ 10 ^ 25 ≤ mo ∧ mo ≤ 10 ^ 30 ∧ P (.dat (stk s))
theorem num_ne {x : Int} (h : 0 ≤ x) : numT x ≠ "endless" := fun e => by
  have h1 : 101 ∈ tl (numT x) := by rw [e]; decide +kernel
  rw [num_tl h] at h1
  have := TL.numL_digits _ _ h1
  omega
abbrev NEntriesOf : List Str := ["kinds", "text", "most", "endless", "items", "entries", "kind", "word", "number"]
theorem scEntriesOf : FnScope NEntriesOf ["kinds", "text", "most", "endless"] (defScope sEntriesOf) := ⟨rfl, rfl, rfl, by decide +kernel, rfl, by decide +kernel, by decide +kernel⟩
abbrev OkEntriesOf (P : Program) (w : World) (K : PySem.W.Frag) (mg : Str → Option Value) (base : Heap) : Prop := OkG P w K mg base "entries_of" 2 ["kinds", "text", "most", "endless"] (spP K 4 fEntries)
theorem ok_EntriesOf {P : Program} {w : World} {K : PySem.W.Frag} {mg : Str → Option Value} {base : Heap} (T : Tx K mg) (h_NumberOf : OkNumberOf P w K mg base) (h_ReadItems : OkReadItems P w K mg base) : OkEntriesOf P w K mg base :=
  (by exact getit : Hold (OkEntriesOf P w K mg base) (by
    have S := scEntriesOf
    refine okG_p (m := 5) T.gEntriesOf T.fEntriesOf S rfl rfl (fun _ _ _ _ _ _ us hl => match us, hl with | [_, _, _, _], _ => rfl) fun cdv A outer s H E hr => ⟨_,
      (pss_cons (ps_set (i := 4) S.nd rfl (Or.inl rfl) (pe_callG h_ReadItems (hr.mono (by decide)) (pa_cons (pv 0) (pa_cons (pv 1) pa_nil))))
      (pss_cons (ps_if (pt_cmp (pc_isN (pv 4)) rfl) (pss_one (ps_ret pe_non)) pss_nil)
      (pss_cons (ps_set (i := 5) S.nd rfl (Or.inl rfl) (pe_lst pa_nil))
      (pss_cons (ps_for PassesOwn.never rfl (k_tupI (K := K) rfl (pv 0)) (pg_name (i := 6) S.nd rfl (Or.inl rfl)) (pss_cons (ps_set (i := 7) S.nd rfl (Or.inl rfl) (pe_dget1 (hu_of hr) (pv 4) (pv 6) ⟨rfl, rfl, rfl, rfl⟩))
      (pss_cons (ps_set (i := 8) S.nd rfl (Or.inl rfl) pe_int)
      (pss_cons (ps_if (PW.pt (pw_and (pt_cmpR (k_eq (K := K) rfl hr.units) (pv 7) pe_str (nomark _)) (pw_and1 (pt_val (pv 3))))) (pss_one (ps_set (i := 8) S.nd rfl (Or.inl rfl) (pe_un un_neg pe_int))) (pss_one (ps_if (pt_cmp (pc_notN (pv 7)) rfl) (pss_cons (ps_set (i := 8) S.nd rfl (Or.inl rfl) (pe_callG h_NumberOf (hr.mono (by decide)) (pa_cons (pv 7) (pa_cons (pv 2) pa_nil))))
      (pss_one (ps_if (PW.pt (pw_or (pt_cmp (pc_isN (pv 8)) rfl) (pw_or1 (pt_cmpR (k_eq (K := K) rfl hr.units) (pv 8) pe_int (nomark _))))) (pss_one (ps_ret pe_non)) pss_nil))) pss_nil)))
      (pss_one (ps_expr (k_app (K := K) rfl (pv 5) (pa_cons (pv 8) pa_nil))))))))
      (pss_one (ps_ret (pe_callTy (k_tup (K := K) rfl) (by rfl) T.b_tuple (by decide +kernel) (pa_cons (pv 5) pa_nil)))))))), ?_⟩
    rintro ss P' ⟨ks, s, mo, rfl, hk, nd, h6, S, m1, m2, p⟩
    have ok := items_ok hk S.ab
    have pl := pIt_len ks (s.map wrF)
    have sl := S.1
    walk_at "rds"
    refine cA [] (by decide) ?_
    walk_at "rds"
    refine ⟨rfl, [], rfl, ks, pIt ks (s.map wrF), rfl, rfl, fun q hq => ⟨ok q hq, (pIt_mem hq).1⟩, pIt_nodup nd, by omega, fun ai => ?_⟩
    walk_at "rds"
    refine ev_nilO fun ae => ?_
    walk_at "rds"
    refine ⟨fun m δ' μ' => (∃ z1 z2 z3, δ' = [.dat (.tuple (ks.map .str)), .dat (.str (printF ks s)), .dat (.int mo), .dat (.bool false), .val (.ref ai), .val (.ref ae), z1, z2, z3]) ∧ μ' = [(ae, .ls ((s.take m).map .int)), (ai, .dk (rdE (pIt ks (s.map wrF))))], ⟨⟨_, _, _, rfl⟩, rfl⟩, fun m d δ' μ' hd hinv => ?_, fun δ' μ' hinv => ?_⟩
    · obtain ⟨⟨z1, z2, z3, rfl⟩, rfl⟩ := hinv
      obtain ⟨k, hkm, rfl⟩ := of_map hd
      have hml := (List.getElem?_eq_some_iff.mp hkm).1
      have hx : s[m]? = some s[m] := List.getElem?_eq_getElem (by omega)
      have hv : valD (rdE (pIt ks (s.map wrF))) (.inr k) = (wrF s[m]).map .str := by
        rw [rd_val, pIt_val nd (by simp [sl]) m k hkm, List.getElem?_map, hx]
        rfl
      have xo := S.2 _ (List.mem_of_getElem? hx)
      generalize s[m] = x at *
      have dic : DicS [(ae, Ob.ls ((s.take m).map .int)), (ai, .dk (rdE (pIt ks (s.map wrF))))] ai (.str k) ((wrF x).map .str) := by
        rw [← hv]
        exact DicS.k (.inr k) (by walk_at "mem")
      have fin : (s.take (m + 1)) = s.take m ++ [x] := take_get hx
      walk_at "rds0"
      refine ⟨_, _, .dat _, dic, ?_⟩
      by_cases h0 : x = 0
      · subst h0
        have w0 : wrF 0 = none := by unfold wrF; rw [if_neg (by omega), if_neg (by omega)]
        rw [w0]
        walk_at "rds0"
        refine ex_ifP false ?_ (fun h => nomatch h) (fun _ => ?_)
        · walk_at "rds"
          refine op_eqd (.dat _) (.dat _) (shn_non (n := 5)).ok (shn_str (n := 5) (by decide +kernel)).ok ?_
          walk_at "rds"
          exact ⟨rfl, rfl⟩
        walk_at "rds"
        refine ⟨0, (s.take m).map .int, _, ⟨_, rfl, .dat _⟩, rfl, sz_lt (by simp; omega), ?_⟩
        exact ⟨⟨_, _, _, rfl⟩, by rw [fin, List.map_append]; rfl⟩
      · have w1 : wrF x = some (numT x) := by unfold wrF; rw [if_neg (by omega), if_pos (by omega)]
        rw [w1]
        have no := (num_asc (x := x) (by omega)).ok
        have ne := num_ne (x := x) (by omega)
        walk_at "rds0"
        refine ex_ifP false ?_ (fun h => nomatch h) (fun _ => ?_)
        · walk_at "rds"
          refine op_eqs no (by decide +kernel) ?_
          walk_at "rds"
          rw [decide_eq_false ne]
          walk_at "rds"
          exact ⟨rfl, rfl⟩
        walk_at "rds"
        refine ⟨rfl, x, mo, rfl, by omega, by omega, m2, ?_⟩
        walk_at "rds"
        rw [decide_eq_false h0]
        walk_at "rds"
        refine ⟨0, (s.take m).map .int, _, ⟨_, rfl, .dat _⟩, rfl, sz_lt (by simp; omega), ?_⟩
        exact ⟨⟨_, _, _, rfl⟩, by rw [fin, List.map_append]; rfl⟩
    · obtain ⟨⟨z1, z2, z3, rfl⟩, rfl⟩ := hinv
      rw [List.length_map, ← sl, List.take_length]
      walk_at "rds"
      walk_at "fin"))
def fReadSt : PSp := fun ss P => ∃ b s, ss = [.dat (bkD b), .dat (.str (printF b.ks s))] ∧ BkOk b ∧ StOk b.n (10 ^ 25) s ∧ P (.dat (stk s))
abbrev NReadStock : List Str := ["book", "text", "found"]
theorem scReadStock : FnScope NReadStock ["book", "text"] (defScope sReadStock) := ⟨rfl, rfl, rfl, by decide +kernel, rfl, by decide +kernel, by decide +kernel⟩
abbrev OkReadStock (P : Program) (w : World) (K : PySem.W.Frag) (mg : Str → Option Value) (base : Heap) : Prop := OkG P w K mg base "read_stock" 3 ["book", "text"] (spP K 2 fReadSt)
theorem ok_ReadStock {P : Program} {w : World} {K : PySem.W.Frag} {mg : Str → Option Value} {base : Heap} (T : Tx K mg) (h_EntriesOf : OkEntriesOf P w K mg base) : OkReadStock P w K mg base :=
  (by exact getit : Hold (OkReadStock P w K mg base) (by
    obtain ⟨t_MOST, h_MOST⟩ := T.c_MOST
    have S := scReadStock
    refine okG_p (m := 1) T.gReadStock T.fReadStock S rfl rfl (fun _ _ _ _ _ _ us hl => match us, hl with | [_, _], _ => rfl) fun cdv A outer s H E hr => ⟨_,
      (pss_cons (ps_set (i := 2) S.nd rfl (Or.inl rfl) (pe_callG h_EntriesOf (hr.mono (by decide)) (pa_cons (pe_ix (k_ixT (K := K) rfl) (pv 0) pe_int (fun _ _ => rfl)) (pa_cons (pv 1) (pa_cons (k_globI h_MOST (by rfl)) (pa_cons pe_bl pa_nil))))))
      (pss_cons (ps_if (pt_cmp (pc_isN (pv 2)) rfl) (pss_one ps_never) pss_nil)
      (pss_one (ps_ret (pv 2))))), ?_⟩
    rintro ss P' ⟨b, s, rfl, B, S, p⟩
    walk_at "rds"
    refine ⟨rfl, b.ks, s, _, rfl, B.ks, B.kd, B.n6, S, by decide, Int.le_refl _, ?_⟩
    walk_at "rds"
    walk_at "fin"))
/-! ### lines cut -/
theorem cut_take {α : Type} (a b : List α) {i : Int} (hi : i = (a.length : Nat)) : cutD (a ++ b) none (some i) = a := by
  subst hi
  unfold cutD
  rw [HT.sIx_none, HT.sIx_nat, List.drop_zero, Nat.sub_zero, Nat.min_eq_left (by simp), List.take_left]
theorem cut_drop {α : Type} (a b : List α) {i : Int} (hi : i = (a.length : Nat)) : cutD (a ++ b) (some i) none = b := by
  subst hi
  unfold cutD
  rw [HT.sIx_none, HT.sIx_nat, Nat.min_eq_left (by simp), List.drop_left, List.take_of_length_le (by simp)]
structure PcOk (ws : List Str) : Prop where
  fs : ∀ p ∈ ws, FreeS p
  le : ∀ p ∈ ws, p.length ≤ 40
theorem pc_join {ws : List Str} (h : PcOk ws) (hn : ws.length ≤ 100) : (Txt.join spT ws).length ≤ 4100 := by
  have := join_len spT h.le
  have e : spT.length = 1 := by decide +kernel
  rw [e] at this
  omega
def fCut : PSp := fun ss P => ∃ (ws ts : List Str) (i : Int), ss = [.dat (.str (Txt.join spT (ws ++ ts))), .dat (.int i)] ∧ i = (ws.length : Nat) ∧ ts ≠ [] ∧ PcOk (ws ++ ts) ∧ (ws ++ ts).length ≤ 100 ∧ P (.dat (.tuple [.list (ws.map .str), .str (Txt.join spT ts)]))
abbrev NCut : List Str := ["line", "count", "words"]
theorem scCut : FnScope NCut ["line", "count"] (defScope sCut) := ⟨rfl, rfl, rfl, by decide +kernel, rfl, by decide +kernel, by decide +kernel⟩
abbrev OkCut (P : Program) (w : World) (K : PySem.W.Frag) (mg : Str → Option Value) (base : Heap) : Prop := OkG P w K mg base "cut" 1 ["line", "count"] (spP K 2 fCut)
theorem ok_Cut {P : Program} {w : World} {K : PySem.W.Frag} {mg : Str → Option Value} {base : Heap} (T : Tx K mg)  : OkCut P w K mg base :=
  (by exact getit : Hold (OkCut P w K mg base) (by
    have S := scCut
    refine okG_p (m := 1) T.gCut T.fCut S rfl rfl (fun _ _ _ _ _ _ us hl => match us, hl with | [_, _], _ => rfl) fun cdv A outer s H E hr => ⟨_,
      (pss_cons (ps_set (i := 2) S.nd rfl (Or.inl rfl) (pe_splitQ (pv 0) pe_str))
      (pss_cons (ps_if (pt_cmpR op_le (pe_callB (k_len (K := K) rfl) (by rfl) T.b_len (by decide +kernel) (pa_cons (pv 2) pa_nil)) (pv 1) (nomark _)) (pss_one ps_never) pss_nil)
      (pss_one (ps_ret (pe_tup (pa_cons (pe_slice (k_slL (K := K) rfl) (pv 2) po_none (po_some (pv 1))) (pa_cons (k_join (K := K) rfl pe_str (pe_slice (k_slL (K := K) rfl) (pv 2) (po_some (pv 1)) po_none)) pa_nil))))))), ?_⟩
    rintro ss P' ⟨ws, ts, i, rfl, hi, tn, O, hl, p⟩
    have jl := pc_join O hl
    have tl1 : 1 ≤ ts.length := by
      cases ts with
      | nil => exact absurd rfl tn
      | cons _ _ => simp
    have hlen : (ws ++ ts).length = ws.length + ts.length := List.length_append
    walk_at "rds"
    refine ⟨by decide +kernel, sz_of (by omega), ?_⟩
    rw [show (Str.ofString " ") = spT from rfl, split_words (by simp [tn]) O.fs]
    walk_at "rds"
    rw [decide_eq_false (by omega)]
    walk_at "rds"
    rw [List.map_append, cut_take _ _ (by simpa using hi)]
    walk_at "rds"
    rw [cut_drop _ _ (by simpa using hi)]
    have tle : ∀ q ∈ ts, q.length ≤ 40 := fun q hq => O.le q (List.mem_append_right _ hq)
    have h2 := sum_le ts tle
    have e : spT.length = 1 := by decide +kernel
    refine ⟨ts, .lst _, ?_, ?_⟩
    · show _ + _ * spT.length ≤ _
      rw [e]
      omega
    walk_at "rds"
    walk_at "fin"))
def fCheck : PSp := fun ss P => ∃ (ws : List Str), ss = [.dat (.list (ws.map .str))] ∧ (∀ w ∈ ws, NmOk w) ∧ ws.length ≤ 100 ∧ P (.dat .none)
abbrev NCheckNames : List Str := ["words", "word"]
theorem scCheckNames : FnScope NCheckNames ["words"] (defScope sCheckNames) := ⟨rfl, rfl, rfl, by decide +kernel, rfl, by decide +kernel, by decide +kernel⟩
abbrev OkCheckNames (P : Program) (w : World) (K : PySem.W.Frag) (mg : Str → Option Value) (base : Heap) : Prop := OkG P w K mg base "check_names" 2 ["words"] (spP K 1 fCheck)
theorem ok_CheckNames {P : Program} {w : World} {K : PySem.W.Frag} {mg : Str → Option Value} {base : Heap} (T : Tx K mg) (h_IsName : OkIsName P w K mg base) : OkCheckNames P w K mg base :=
  (by exact getit : Hold (OkCheckNames P w K mg base) (by
    have S := scCheckNames
    refine okG_p (m := 1) T.gCheckNames T.fCheckNames S rfl rfl (fun _ _ _ _ _ _ us hl => match us, hl with | [_], _ => rfl) fun cdv A outer s H E hr => ⟨_,
      (pss_one (ps_if (pt_not (pt_val (pe_callB (k_all (K := K) rfl rfl) (by rfl) T.b_all (by decide +kernel) (pa_cons (pe_lc (own := [("word", 1)]) (tt := tYes) rfl S.nd (k_list (K := K) rfl (pv 0)) (blkOk_by (N := NCheckNames) (sc := defScope sCheckNames) (by decide +kernel)) (fun _ _ _ _ _ => (pg_name (i := 1) S.nd rfl (Or.inl rfl))) (fun _ _ _ _ _ => pts_nil) (fun _ _ _ _ _ => (pe_callG h_IsName (hr.mono (by decide)) (pa_cons (pv 1) pa_nil)))) pa_nil)))) (pss_one ps_never) pss_nil)), ?_⟩
    rintro ss P' ⟨ws, rfl, N, hl, p⟩
    walk_at "rds0"
    refine ex_ifP false ?_ (fun h => nomatch h) (fun _ => ?_)
    · walk_at "rds"
      refine lcU ws .str (fun _ => .bool true) (wg_name (by decide)) ?_
      walk_at "rds"
      refine ⟨rfl, by omega, fun w hw => ?_, ?_⟩
      · walk_at "rds"
        refine ⟨rfl, ?_⟩
        walk_at "rds"
        exact ⟨rfl, _, rfl, N w hw, .dat _, rfl⟩
      · walk_at "rds"
        refine ca_all' (bs := ws.map fun _ => true) (by rw [List.map_map]; rfl) ?_
        rw [all_true]
        walk_at "rds"
        exact ⟨rfl, rfl⟩
    · walk_at "rds"
      exact p))
def fNumIn : PSp := fun ss P => ∃ (x l : Int), ss = [.dat (.str (numT x)), .dat (.int l)] ∧ 0 ≤ x ∧ l ≤ x ∧ x ≤ 10 ^ 30 ∧ P (.dat (.int x))
abbrev NNumberIn : List Str := ["word", "least", "number"]
theorem scNumberIn : FnScope NNumberIn ["word", "least"] (defScope sNumberIn) := ⟨rfl, rfl, rfl, by decide +kernel, rfl, by decide +kernel, by decide +kernel⟩
abbrev OkNumberIn (P : Program) (w : World) (K : PySem.W.Frag) (mg : Str → Option Value) (base : Heap) : Prop := OkG P w K mg base "number_in" 2 ["word", "least"] (spP K 2 fNumIn)
theorem ok_NumberIn {P : Program} {w : World} {K : PySem.W.Frag} {mg : Str → Option Value} {base : Heap} (T : Tx K mg) (h_NumberOf : OkNumberOf P w K mg base) : OkNumberIn P w K mg base :=
  (by exact getit : Hold (OkNumberIn P w K mg base) (by
    obtain ⟨t_MOST, h_MOST⟩ := T.c_MOST
    have S := scNumberIn
    refine okG_p (m := 1) T.gNumberIn T.fNumberIn S rfl rfl (fun _ _ _ _ _ _ us hl => match us, hl with | [_, _], _ => rfl) fun cdv A outer s H E hr => ⟨_,
      (pss_cons (ps_set (i := 2) S.nd rfl (Or.inl rfl) (pe_callG h_NumberOf (hr.mono (by decide)) (pa_cons (pv 0) (pa_cons (k_globI h_MOST (by rfl)) pa_nil))))
      (pss_cons (ps_if (PW.pt (pw_or (pt_cmp (pc_isN (pv 2)) rfl) (pw_or1 (pt_cmpR op_lt (pv 2) (pv 1) (nomark _))))) (pss_one ps_never) pss_nil)
      (pss_one (ps_ret (pv 2))))), ?_⟩
    rintro ss P' ⟨x, l, rfl, h0, h1, h2, p⟩
    walk_at "rds"
    refine ⟨rfl, x, _, rfl, h0, h2, Int.le_refl _, ?_⟩
    walk_at "rds"
    rw [decide_eq_false (by omega)]
    walk_at "rds"
    walk_at "fin"))
/-! ## F10 -/
open TL (tl)
structure SA where
  x : Addr
  e : Addr
  h : Addr
  w : Addr
  t : Addr
abbrev sFs (b : Bk) (A : SA) : List (Str × Sl) := [("kept", .dat (bkD b)), ("events", .val (.ref A.e)), ("held", .val (.ref A.h)), ("way", .val (.ref A.w)), ("tickets", .val (.ref A.t))]
abbrev seMu (K : PySem.W.Frag) (A : SA) (b : Bk) (h : List Ev) (wd : Wd) : Mu := [(A.t, .ls (wd.tks.map .int)), (A.w, .dk (wyE wd.way)), (A.h, .dt (hdE wd.held)), (A.e, .ls (h.map evD)), (A.x, .ins (cS K) (sFs b A))]
abbrev seOb (K : PySem.W.Frag) (A : SA) (b : Bk) (h : List Ev) (wd : Wd) : List Ob := [.ls (wd.tks.map .int), .dk (wyE wd.way), .dt (hdE wd.held), .ls (h.map evD), .ins (cS K) (sFs b A)]
def aInit (K : PySem.W.Frag) : ASp := fun ss μ P => ∃ x b, ss = [.val (.ref x), .dat (bkD b)] ∧ μ = [(x, .ins (cS K) [])] ∧ ∀ e h w t, P (.dat .none) [.ins (cS K) (sFs b ⟨x, e, h, w, t⟩)] [(t, .ls []), (w, .dk []), (h, .dt []), (e, .ls [])]
abbrev NMInit : List Str := ["self", "book"]
theorem scMInit : FnScope NMInit ["self", "book"] (defScope mInit) := ⟨rfl, rfl, rfl, by decide +kernel, rfl, by decide +kernel, by decide +kernel⟩
abbrev OkMInit (P : Program) (w : World) (K : PySem.W.Frag) (mg : Str → Option Value) (base : Heap) : Prop := OkM P w K mg base "__init__" 1 ["self", "book"] (spA K 2 (aInit K))
theorem ok_MInit {P : Program} {w : World} {K : PySem.W.Frag} {mg : Str → Option Value} {base : Heap} (T : Tx K mg)  : OkMInit P w K mg base :=
  (by exact getit : Hold (OkMInit P w K mg base) (by
    have S := scMInit
    refine okM_a (m := 0) T.fMInit S rfl rfl (fun _ _ _ _ _ _ us hl => match us, hl with | [_, _], _ => rfl) fun cdv A outer s H E hr => ⟨_,
      (pss_cons (k_sfld (K := K) rfl (pv 0) (pv 1))
      (pss_cons (k_sfld (K := K) rfl (pv 0) (pe_lst pa_nil))
      (pss_cons (k_sfld (K := K) rfl (pv 0) pe_dnewT)
      (pss_cons (k_sfld (K := K) rfl (pv 0) pe_dnewK)
      (pss_one (k_sfld (K := K) rfl (pv 0) (pe_lst pa_nil))))))), ?_⟩
    rintro ss μ P' ⟨x, b, rfl, rfl, p⟩
    have cl := T.cl
    have n1 := T.n_kept
    have n2 := T.n_events
    have n3 := T.n_held
    have n4 := T.n_way
    have n5 := T.n_tickets
    walk_at "rds"
    refine ex_fld cl n1 ?_
    walk_at "rds"
    refine ⟨0, x, [], rfl, rfl, by decide, ?_⟩
    walk_at "rds"
    refine ex_fld cl n2 (ev_nilO fun e => ?_)
    walk_at "rds"
    refine ⟨1, x, _, rfl, rfl, (by show 1 < 1000; decide), ?_⟩
    walk_at "rds"
    refine ex_fld cl n3 (ev_dnewT fun h => ?_)
    walk_at "rds"
    refine ⟨2, x, _, rfl, rfl, (by show 2 < 1000; decide), ?_⟩
    walk_at "rds"
    refine ex_fld cl n4 (ev_dnewK fun w => ?_)
    walk_at "rds"
    refine ⟨3, x, _, rfl, rfl, (by show 3 < 1000; decide), ?_⟩
    walk_at "rds"
    refine ex_fld cl n5 (ev_nilO fun t => ?_)
    walk_at "rds"
    refine ⟨4, x, _, rfl, rfl, (by show 4 < 1000; decide), ?_⟩
    have p := p e h w t
    walk_at "finA"))
def aBook (K : PySem.W.Frag) : ASp := fun ss μ P => ∃ A b h wd, ss = [.val (.ref A.x)] ∧ μ = seMu K A b h wd ∧ P (.dat (bkD b)) (seOb K A b h wd) []
abbrev NMBook : List Str := ["self"]
theorem scMBook : FnScope NMBook ["self"] (defScope mBook) := ⟨rfl, rfl, rfl, by decide +kernel, rfl, by decide +kernel, by decide +kernel⟩
abbrev OkMBook (P : Program) (w : World) (K : PySem.W.Frag) (mg : Str → Option Value) (base : Heap) : Prop := OkM P w K mg base "book" 1 ["self"] (spA K 1 (aBook K))
theorem ok_MBook {P : Program} {w : World} {K : PySem.W.Frag} {mg : Str → Option Value} {base : Heap} (T : Tx K mg)  : OkMBook P w K mg base :=
  (by exact getit : Hold (OkMBook P w K mg base) (by
    have S := scMBook
    refine okM_a (m := 0) T.fMBook S rfl rfl (fun _ _ _ _ _ _ us hl => match us, hl with | [_], _ => rfl) fun cdv A outer s H E hr => ⟨_,
      (pss_one (ps_ret (k_fld (K := K) rfl (pv 0)))), ?_⟩
    rintro ss μ P' ⟨A, b, h, wd, rfl, rfl, p⟩
    have cl := T.cl
    have n1 := T.n_kept
    walk_at "rds"
    walk_at "finA"))
def aHistory (K : PySem.W.Frag) : ASp := fun ss μ P => ∃ A b h wd, ss = [.val (.ref A.x)] ∧ μ = seMu K A b h wd ∧ P (.dat (hD h)) (seOb K A b h wd) []
abbrev NMHistory : List Str := ["self"]
theorem scMHistory : FnScope NMHistory ["self"] (defScope mHistory) := ⟨rfl, rfl, rfl, by decide +kernel, rfl, by decide +kernel, by decide +kernel⟩
abbrev OkMHistory (P : Program) (w : World) (K : PySem.W.Frag) (mg : Str → Option Value) (base : Heap) : Prop := OkM P w K mg base "history" 1 ["self"] (spA K 1 (aHistory K))
theorem ok_MHistory {P : Program} {w : World} {K : PySem.W.Frag} {mg : Str → Option Value} {base : Heap} (T : Tx K mg)  : OkMHistory P w K mg base :=
  (by exact getit : Hold (OkMHistory P w K mg base) (by
    have S := scMHistory
    refine okM_a (m := 0) T.fMHistory S rfl rfl (fun _ _ _ _ _ _ us hl => match us, hl with | [_], _ => rfl) fun cdv A outer s H E hr => ⟨_,
      (pss_one (ps_ret (pe_callTy (k_tup (K := K) rfl) (by rfl) T.b_tuple (by decide +kernel) (pa_cons (k_fld (K := K) rfl (pv 0)) pa_nil)))), ?_⟩
    rintro ss μ P' ⟨A, b, h, wd, rfl, rfl, p⟩
    have cl := T.cl
    have n2 := T.n_events
    walk_at "rds"
    walk_at "finA"))
/-! ### events with their bounds -/
def EvS (b : Bk) : Ev → Prop
  | .make _ _ _ g => StOk b.n (10 ^ 25) g
  | .hand _ _ _ g => StOk b.n (10 ^ 25) g
  | .send _ _ _ g => StOk b.n (10 ^ 25) g
  | .land _ _ _ => True
  | .forge _ _ g => StOk b.n (10 ^ 25) g
theorem evs_of {b : Bk} {p : List Ev} {w : Wd} {e : Ev} (B : BkOk b) (W : WdOk b p w) (O : OkE b w e) (hl : p.length ≤ 60) : EvS b e := by
  have hb := Bd_pos p.length
  have h60 : Bd p.length ≤ 10 ^ 25 := Int.le_of_lt (Bd_60 (by omega))
  have T := row_take B W O
  cases e with
  | make s u m g => exact O.ev.2.2.1.mono (by omega)
  | hand s u o g => exact T.mono h60
  | send s u t g => exact T.mono h60
  | land s u t => trivial
  | forge s u g => exact O.ev.2.2.mono (by omega)
theorem sent_ex : ∀ {h : List Ev} {t : Int} {s : List Int}, sentF h t = some s → ∃ (k : Nat) (x u : Str), h[k]? = some (.send x u t s)
  | e :: r, t, s, hs => by
    have go : sentF r t = some s → ∃ (k : Nat) (x u : Str), (e :: r)[k]? = some (.send x u t s) := fun h => by
      obtain ⟨k, x, u, hk⟩ := sent_ex h
      exact ⟨k + 1, x, u, by simpa using hk⟩
    cases e with
    | send x u t' g =>
      have hs : (if t' = t then some g else sentF r t) = some s := hs
      by_cases c : t' = t
      · rw [if_pos c] at hs
        cases hs
        subst c
        exact ⟨0, x, u, rfl⟩
      · rw [if_neg c] at hs
        exact go hs
    | make x u m g => exact go hs
    | hand x u o g => exact go hs
    | land x u t' => exact go hs
    | forge x u g => exact go hs
  | [], t, s, hs => by cases hs
theorem Hist.tick {b : Bk} {h : List Ev} (B : BkOk b) (H : Hist b h) {t : Int} {s : List Int} (hv : valD (runW b h).way t = some s) : 1 ≤ t ∧ t ≤ 1000 ∧ StOk b.n (10 ^ 25) s := by
  have W := H.wd' B
  obtain ⟨k, x, u, hk⟩ := sent_ex (W.sent t s hv)
  obtain ⟨_, _, h1, h2, _⟩ := (H.ok k _ hk).ev
  have hl := H.len
  exact ⟨h1, h2, (W.way _ (valD_mem hv)).mono (Int.le_of_lt (Bd_60 (by omega)))⟩
theorem num_ok {x : Int} (h : 0 ≤ x) (hx : x ≤ 10 ^ 25) : FreeS (numT x) ∧ Asc (numT x) ∧ (numT x).length ≤ 40 := ⟨num_fs h, num_asc h, Nat.le_trans (num_len (k := 26) h (by decide) (Int.lt_of_le_of_lt hx (by decide))) (by decide)⟩
theorem print_asc {b : Bk} {s : List Int} (B : BkOk b) (A : AbOk b.n (10 ^ 25) s) : Asc (printF b.ks s) := joinI_asc (items_ok B.ks A)
theorem print_len {b : Bk} {s : List Int} (B : BkOk b) (A : AbOk b.n (10 ^ 25) s) : (printF b.ks s).length ≤ 400 := joinI_len (items_ok B.ks A) (Nat.le_trans (pIt_len _ _) B.n6)
theorem sp_len : spT.length = 1 := by decide +kernel
def wayLs (b : Bk) (w : WayT) : List Str := (sortI (w.map (·.1))).map fun t => numT t ++ spT ++ printF b.ks ((valD w t).getD [])
def orNone (l : List Str) : List Str := if l = [] then ["nothing"] else l
def aWayLs (K : PySem.W.Frag) : ASp := fun ss μ P => ∃ A b h, ss = [.val (.ref A.x)] ∧ μ = seMu K A b h (runW b h) ∧ BkOk b ∧ Hist b h ∧ P (.dat (.list ((orNone (wayLs b (runW b h).way)).map .str))) (seOb K A b h (runW b h)) []
abbrev NMWayLines : List Str := ["self", "lines", "ticket"]
theorem scMWayLines : FnScope NMWayLines ["self"] (defScope mWayLines) := ⟨rfl, rfl, rfl, by decide +kernel, rfl, by decide +kernel, by decide +kernel⟩
abbrev OkMWayLines (P : Program) (w : World) (K : PySem.W.Frag) (mg : Str → Option Value) (base : Heap) : Prop := OkM P w K mg base "way_lines" 3 ["self"] (spA K 1 (aWayLs K))
theorem ok_MWayLines {P : Program} {w : World} {K : PySem.W.Frag} {mg : Str → Option Value} {base : Heap} (T : Tx K mg) (h_PrintStock : OkPrintStock P w K mg base) : OkMWayLines P w K mg base :=
  (by exact getit : Hold (OkMWayLines P w K mg base) (by
    have S := scMWayLines
    refine okM_a (m := 2) T.fMWayLines S rfl rfl (fun _ _ _ _ _ _ us hl => match us, hl with | [_], _ => rfl) fun cdv A outer s H E hr => ⟨_,
      (pss_cons (ps_setLc (i := 1) (own := [("ticket", 2)]) (tt := tYes) rfl S.nd rfl rfl (sw_true rfl rfl rfl (by decide +kernel)) (k_list (K := K) rfl (pe_callB (cr_sortDI rfl) (by rfl) T.b_sorted (by decide +kernel) (pa_cons (k_fld (K := K) rfl (pv 0)) pa_nil))) (blkOk_by (N := NMWayLines) (sc := defScope mWayLines) (by decide +kernel)) (fun _ _ _ _ _ => (pg_name (i := 2) S.nd rfl (Or.inl rfl))) (fun _ _ _ _ _ => pts_nil) (fun _ _ _ _ _ => (pe_op op_addT (pe_op op_addT (pe_callTy call_strI (by rfl) T.b_str (by decide +kernel) (pa_cons (pv 2) pa_nil)) pe_str) (pe_callG h_PrintStock (hr.mono (by decide)) (pa_cons (k_fld (K := K) rfl (pv 0)) (pa_cons (pe_dget (hu_of hr) (k_fld (K := K) rfl (pv 0)) (pv 2) (fun _ _ => rfl)) pa_nil))))))
      (pss_one (ps_ret (pe_ifExp (pt_cmpR op_gt (pe_callB (k_len (K := K) rfl) (by rfl) T.b_len (by decide +kernel) (pa_cons (pv 1) pa_nil)) pe_int (nomark _)) (pv 1) (pe_lst (pa_cons pe_str pa_nil)))))), ?_⟩
    rintro ss μ P' ⟨A, b, h, rfl, rfl, B, Hh, p⟩
    have cl := T.cl
    have n1 := T.n_kept
    have n4 := T.n_way
    have W := Hh.wd' B
    have tick := fun t s => Hh.tick B (t := t) (s := s)
    have wl := W.wlen
    have hl := Hh.len
    generalize runW b h = wd at *
    walk_at "rds"
    refine lcU (sortI (wd.way.map (·.1))) .int (fun t => .str (numT t ++ spT ++ printF b.ks ((valD wd.way t).getD []))) (wg_name (by decide)) ?_
    walk_at "rds"
    refine ca_sortW (by walk_at "mem") (by omega) ?_
    walk_at "rds"
    refine ⟨rfl, by rw [(sortI_perm _).length_eq, List.length_map]; omega, fun t ht => ?_, ?_⟩
    · obtain ⟨g, hg⟩ := valD_key ((sortI_perm _).mem_iff.mp ht)
      obtain ⟨t1, t2, S⟩ := tick t g hg
      have nl := (num_ok (x := t) (by omega) (by omega)).2.2
      have pl := print_len B S.ab
      rw [hg]
      walk_at "rds"
      refine ⟨rfl, ?_⟩
      walk_at "rds"
      refine ca_strI (num_log (by omega) (by omega)) ?_
      walk_at "rds"
      refine op_tt (sz_of (by show (numT t).length + spT.length ≤ _; rw [sp_len]; omega)) ?_
      walk_at "rds"
      refine ⟨_, _, .dat _, dic_way' hg (by walk_at "mem"), ?_⟩
      walk_at "rds"
      refine ⟨rfl, b, g, rfl, B, S.ab, ?_⟩
      refine op_tt (sz_of ?_) ?_
      · rw [len_app]
        show (numT t).length + spT.length + _ ≤ _
        rw [sp_len]
        omega
      exact ⟨.dat _, rfl⟩
    · have e : (sortI (wd.way.map (·.1))).map (fun t => PyData.str (numT t ++ spT ++ printF b.ks ((valD wd.way t).getD []))) = (wayLs b wd.way).map .str := by
        unfold wayLs
        rw [List.map_map]
        rfl
      rw [e]
      walk_at "rds0"
      unfold orNone at p
      refine ev_ifP (decide (wayLs b wd.way ≠ [])) ?_ (fun hb => ?_) (fun hb => ?_)
      · walk_at "rds"
        refine ⟨?_, rfl⟩
        cases wayLs b wd.way with
        | nil => rfl
        | cons _ _ => simp
      · rw [if_neg (of_decide_eq_true hb)] at p
        walk_at "rds"
        walk_at "finA"
      · rw [if_pos (Decidable.not_not.mp (of_decide_eq_false hb))] at p
        walk_at "rds"
        walk_at "finA"))
def aStockOf (K : PySem.W.Frag) : ASp := fun ss μ P => ∃ A b h wd s, ss = [.val (.ref A.x), .dat (.str (printF b.ks s))] ∧ μ = seMu K A b h wd ∧ BkOk b ∧ StOk b.n (10 ^ 25) s ∧ P (.dat (stk s)) (seOb K A b h wd) []
abbrev NMStockOf : List Str := ["self", "text"]
theorem scMStockOf : FnScope NMStockOf ["self", "text"] (defScope mStockOf) := ⟨rfl, rfl, rfl, by decide +kernel, rfl, by decide +kernel, by decide +kernel⟩
abbrev OkMStockOf (P : Program) (w : World) (K : PySem.W.Frag) (mg : Str → Option Value) (base : Heap) : Prop := OkM P w K mg base "stock_of" 4 ["self", "text"] (spA K 2 (aStockOf K))
theorem ok_MStockOf {P : Program} {w : World} {K : PySem.W.Frag} {mg : Str → Option Value} {base : Heap} (T : Tx K mg) (h_ReadStock : OkReadStock P w K mg base) : OkMStockOf P w K mg base :=
  (by exact getit : Hold (OkMStockOf P w K mg base) (by
    have S := scMStockOf
    refine okM_a (m := 0) T.fMStockOf S rfl rfl (fun _ _ _ _ _ _ us hl => match us, hl with | [_, _], _ => rfl) fun cdv A outer s H E hr => ⟨_,
      (pss_one (ps_try_thru0 (pss_one (ps_ret (pe_callG h_ReadStock (hr.mono (by decide)) (pa_cons (k_fld (K := K) rfl (pv 0)) (pa_cons (pv 1) pa_nil))))))), ?_⟩
    rintro ss μ P' ⟨A, b, h, wd, s, rfl, rfl, B, S, p⟩
    have cl := T.cl
    have n1 := T.n_kept
    walk_at "rds"
    refine ⟨rfl, b, s, rfl, B, S, ?_⟩
    walk_at "finA"))
theorem wds_pc {b : Bk} {s : List Int} (B : BkOk b) (A : AbOk b.n (10 ^ 25) s) : (∀ x ∈ wds (pIt b.ks (s.map wrF)), FreeS x ∧ Asc x ∧ x.length ≤ 40) ∧ (wds (pIt b.ks (s.map wrF))).length ≤ 19 := by
  refine ⟨wds_ok (items_ok B.ks A), ?_⟩
  have := wds_len (pIt b.ks (s.map wrF))
  have := pIt_len b.ks (s.map wrF)
  have := B.n6
  have : b.ks.length ≤ 6 := this
  omega
theorem nm_ok {x : Str} (h : NmOk x) : FreeS x ∧ Asc x ∧ x.length ≤ 40 := ⟨h.fs, h.asc, Nat.le_trans h.le (by decide)⟩
theorem kd_ok5 : ∀ k ∈ ([("make" : Str), "hand", "send", "land", "forge"]), FreeS k ∧ Asc k ∧ k.length ≤ 40 := by
  have l : ("make" : Str).length ≤ 40 ∧ ("hand" : Str).length ≤ 40 ∧ ("send" : Str).length ≤ 40 ∧ ("land" : Str).length ≤ 40 ∧ ("forge" : Str).length ≤ 40 := by decide +kernel
  obtain ⟨f1, f2, f3, f4, f5⟩ := kd_fs
  obtain ⟨a1, a2, a3, a4, a5⟩ := kd_asc
  obtain ⟨l1, l2, l3, l4, l5⟩ := l
  intro k hk
  simp only [List.mem_cons, List.not_mem_nil, or_false] at hk
  rcases hk with rfl | rfl | rfl | rfl | rfl
  · exact ⟨f1, a1, l1⟩
  · exact ⟨f2, a2, l2⟩
  · exact ⟨f3, a3, l3⟩
  · exact ⟨f4, a4, l4⟩
  · exact ⟨f5, a5, l5⟩
/-- the words of a line -/
theorem lw_ok {b : Bk} {e : Ev} (B : BkOk b) (E : EvOk b e) (S : EvS b e) : (∀ x ∈ lw b e, FreeS x ∧ Asc x ∧ x.length ≤ 40) ∧ (lw b e).length ≤ 23 := by
  cases e with
  | make s u m g =>
    obtain ⟨h1, h2, _, mv, hm, _⟩ := E
    obtain ⟨w1, w2⟩ := wds_pc B (StOk.ab S)
    have hn : (b.ms[m]?.map Mv.nm).getD "" = mv.nm := by rw [hm]; rfl
    have N := (B.ms mv (List.mem_of_getElem? hm)).nm
    refine ⟨fun x hx => ?_, by simp [lw]; omega⟩
    have hx : x ∈ ([("make" : Str), s, u, (b.ms[m]?.map Mv.nm).getD ""] ++ wds (pIt b.ks (g.map wrF))) := hx
    rw [hn] at hx
    simp only [List.cons_append, List.nil_append, List.mem_cons] at hx
    rcases hx with rfl | rfl | rfl | rfl | hx
    · exact kd_ok5 _ (by simp)
    · exact nm_ok h1
    · exact nm_ok h2
    · exact nm_ok N
    · exact w1 x hx
  | hand s u o g =>
    obtain ⟨h1, h2, h3, _⟩ := E
    obtain ⟨w1, w2⟩ := wds_pc B (StOk.ab S)
    refine ⟨fun x hx => ?_, by simp [lw]; omega⟩
    simp only [lw, List.cons_append, List.nil_append, List.mem_cons] at hx
    rcases hx with rfl | rfl | rfl | rfl | hx
    · exact kd_ok5 _ (by simp)
    · exact nm_ok h1
    · exact nm_ok h2
    · exact nm_ok h3
    · exact w1 x hx
  | send s u t g =>
    obtain ⟨h1, h2, h3, h4, _⟩ := E
    obtain ⟨w1, w2⟩ := wds_pc B (StOk.ab S)
    refine ⟨fun x hx => ?_, by simp [lw]; omega⟩
    simp only [lw, List.cons_append, List.nil_append, List.mem_cons] at hx
    rcases hx with rfl | rfl | rfl | rfl | hx
    · exact kd_ok5 _ (by simp)
    · exact nm_ok h1
    · exact nm_ok h2
    · exact num_ok (by omega) (by omega)
    · exact w1 x hx
  | land s u t =>
    obtain ⟨h1, h2, h3, h4⟩ := E
    refine ⟨fun x hx => ?_, by simp [lw]⟩
    simp only [lw, List.mem_cons, List.not_mem_nil, or_false] at hx
    rcases hx with rfl | rfl | rfl | rfl
    · exact kd_ok5 _ (by simp)
    · exact nm_ok h1
    · exact nm_ok h2
    · exact num_ok (by omega) (by omega)
  | forge s u g =>
    obtain ⟨h1, h2, _⟩ := E
    obtain ⟨w1, w2⟩ := wds_pc B (StOk.ab S)
    refine ⟨fun x hx => ?_, by simp [lw]; omega⟩
    simp only [lw, List.cons_append, List.nil_append, List.mem_cons] at hx
    rcases hx with rfl | rfl | rfl | hx
    · exact kd_ok5 _ (by simp)
    · exact nm_ok h1
    · exact nm_ok h2
    · exact w1 x hx
theorem lw_pc {b : Bk} {e : Ev} (B : BkOk b) (E : EvOk b e) (S : EvS b e) : PcOk (lw b e) := ⟨fun x hx => ((lw_ok B E S).1 x hx).1, fun x hx => ((lw_ok B E S).1 x hx).2.2⟩
/-! ## F11 -/
open TL (tl)
def aMade (K : PySem.W.Frag) : ASp := fun ss μ P => ∃ A b h wd s u m g, ss = [.val (.ref A.x), .dat (.str (lineF b (.make s u m g)))] ∧ μ = seMu K A b h wd ∧ BkOk b ∧ EvOk b (.make s u m g) ∧ h.length < 60 ∧ P (.dat (evD (.make s u m g))) (seOb K A b h wd) []
abbrev NMMade : List Str := ["self", "line", "words", "text", "stock", "m"]
theorem scMMade : FnScope NMMade ["self", "line"] (defScope mMade) := ⟨rfl, rfl, rfl, by decide +kernel, rfl, by decide +kernel, by decide +kernel⟩
abbrev OkMMade (P : Program) (w : World) (K : PySem.W.Frag) (mg : Str → Option Value) (base : Heap) : Prop := OkM P w K mg base "made" 5 ["self", "line"] (spA K 2 (aMade K))
theorem ok_MMade {P : Program} {w : World} {K : PySem.W.Frag} {mg : Str → Option Value} {base : Heap} (T : Tx K mg) (h_MStockOf : OkMStockOf P w K mg base) (h_CheckNames : OkCheckNames P w K mg base) (h_Cut : OkCut P w K mg base) (h_FitsRange : OkFitsRange P w K mg base) (h_MoveIndex : OkMoveIndex P w K mg base) : OkMMade P w K mg base :=
  (by exact getit : Hold (OkMMade P w K mg base) (by
    obtain ⟨t_MAX_EVENTS, h_MAX_EVENTS⟩ := T.c_MAX_EVENTS
    have S := scMMade
    refine okM_a (m := 4) T.fMMade S rfl rfl (fun _ _ _ _ _ _ us hl => match us, hl with | [_, _], _ => rfl) fun cdv A outer s H E hr => ⟨_,
      (pss_cons (ps_asg (pe_callG h_Cut (hr.mono (by decide)) (pa_cons (pv 1) (pa_cons pe_int pa_nil))) (k_ptup (K := K) 2 rfl rfl (pgs_cons (pg_name (i := 2) S.nd rfl (Or.inl rfl)) (pgs_cons (pg_name (i := 3) S.nd rfl (Or.inl rfl)) pgs_nil))))
      (pss_cons (ps_expr (pe_callG h_CheckNames (hr.mono (by decide)) (pa_cons (pe_slice (k_slL (K := K) rfl) (pv 2) (po_some pe_int) po_none) pa_nil)))
      (pss_cons (ps_set (i := 4) S.nd rfl (Or.inl rfl) (k_meth (K := K) rfl T.cl T.mStockOf h_MStockOf (hr.mono (by decide)) (pv 0) (pa_cons (pv 3) pa_nil)))
      (pss_cons (ps_set (i := 5) S.nd rfl (Or.inl rfl) (pe_callG h_MoveIndex (hr.mono (by decide)) (pa_cons (k_fld (K := K) rfl (pv 0)) (pa_cons (pe_ix (k_ixL (K := K) rfl) (pv 2) pe_int (fun _ _ => rfl)) pa_nil))))
      (pss_cons (ps_if (pt_cmpR (k_eq (K := K) rfl hr.units) (pe_callB (k_len (K := K) rfl) (by rfl) T.b_len (by decide +kernel) (pa_cons (k_fld (K := K) rfl (pv 0)) pa_nil)) (k_globI h_MAX_EVENTS (by rfl)) (nomark _)) (pss_one ps_never) pss_nil)
      (pss_cons (ps_if (pt_cmp (pc_isN (pv 5)) rfl) (pss_one ps_never) pss_nil)
      (pss_cons (ps_if (pt_not (pt_val (pe_callG h_FitsRange (hr.mono (by decide)) (pa_cons (k_fld (K := K) rfl (pv 0)) (pa_cons (pv 5) (pa_cons (pv 4) pa_nil)))))) (pss_one ps_never) pss_nil)
      (pss_one (ps_ret (pe_tup (pa_cons pe_str (pa_cons (pe_ix (k_ixL (K := K) rfl) (pv 2) pe_int (fun _ _ => rfl)) (pa_cons (pe_ix (k_ixL (K := K) rfl) (pv 2) pe_int (fun _ _ => rfl)) (pa_cons (pv 5) (pa_cons (pv 4) pa_nil))))))))))))))), ?_⟩
    rintro ss μ P' ⟨A, b, h, wd, s, u, m, g, rfl, rfl, B, E, hl, p⟩
    have cl := T.cl
    have n1 := T.n_kept
    have n2 := T.n_events
    obtain ⟨N1, N2, S, mv, hm, c1, c2⟩ := id E
    have S' : StOk b.n (10 ^ 25) g := S.mono (by decide)
    have Es : EvS b (.make s u m g) := S'
    have M := B.ms mv (List.mem_of_getElem? hm)
    have L := lw_ok B E Es
    have O := lw_pc B E Es
    have n6 := B.n6
    have hn : (b.ms[m]?.map Mv.nm).getD "" = mv.nm := by rw [hm]; rfl
    have el : lw b (.make s u m g) = [("make" : Str), s, u, mv.nm] ++ wds (pIt b.ks (g.map wrF)) := by rw [← hn]; rfl
    have ep := joinI_wds (pIt b.ks (g.map wrF))
    walk_at "rds"
    refine ⟨rfl, [("make" : Str), s, u, mv.nm], wds (pIt b.ks (g.map wrF)), 4, by unfold lineF; rw [el], rfl, wds_ne _, by rw [← el]; exact O, by rw [← el]; omega, ?_⟩
    rw [← ep]
    walk_at "rds"
    refine ⟨rfl, [s, u, mv.nm], rfl, fun x hx => ?_, (by show 3 ≤ 100; decide), ?_⟩
    · simp only [List.mem_cons, List.not_mem_nil, or_false] at hx
      rcases hx with rfl | rfl | rfl
      · exact N1
      · exact N2
      · exact M.nm
    walk_at "rds"
    refine cM [0, 1, 2, 3, 4] (by decide) ?_
    walk_at "rds"
    refine ⟨rfl, [_, _, _, _, _], rfl, A, b, h, wd, g, rfl, rfl, B, S', ?_⟩
    walk_at "rds"
    refine ⟨rfl, b, m, mv, rfl, hm, B, ?_⟩
    walk_at "rds"
    rw [decide_eq_false (by (try simp); omega)]
    walk_at "rds"
    refine ⟨rfl, b, m, mv, g, rfl, hm, by rw [S.1, M.lo.1], by rw [S.1, M.hi.1], by rw [S.1]; omega, ?_⟩
    rw [c1, c2]
    walk_at "rds"
    walk_at "finA"))
def aSent (K : PySem.W.Frag) : ASp := fun ss μ P => ∃ A b h wd s u t g, ss = [.val (.ref A.x), .dat (.str (lineF b (.send s u t g)))] ∧ μ = seMu K A b h wd ∧ BkOk b ∧ EvOk b (.send s u t g) ∧ EvS b (.send s u t g) ∧ h.length < 60 ∧ t ∉ wd.tks ∧ P (.dat (evD (.send s u t g))) (seOb K A b h wd) []
abbrev NMSent : List Str := ["self", "line", "words", "text", "ticket", "stock"]
theorem scMSent : FnScope NMSent ["self", "line"] (defScope mSent) := ⟨rfl, rfl, rfl, by decide +kernel, rfl, by decide +kernel, by decide +kernel⟩
abbrev OkMSent (P : Program) (w : World) (K : PySem.W.Frag) (mg : Str → Option Value) (base : Heap) : Prop := OkM P w K mg base "sent" 5 ["self", "line"] (spA K 2 (aSent K))
theorem ok_MSent {P : Program} {w : World} {K : PySem.W.Frag} {mg : Str → Option Value} {base : Heap} (T : Tx K mg) (h_MStockOf : OkMStockOf P w K mg base) (h_CheckNames : OkCheckNames P w K mg base) (h_Cut : OkCut P w K mg base) (h_NumberIn : OkNumberIn P w K mg base) : OkMSent P w K mg base :=
  (by exact getit : Hold (OkMSent P w K mg base) (by
    obtain ⟨t_MAX_EVENTS, h_MAX_EVENTS⟩ := T.c_MAX_EVENTS
    have S := scMSent
    refine okM_a (m := 4) T.fMSent S rfl rfl (fun _ _ _ _ _ _ us hl => match us, hl with | [_, _], _ => rfl) fun cdv A outer s H E hr => ⟨_,
      (pss_cons (ps_asg (pe_callG h_Cut (hr.mono (by decide)) (pa_cons (pv 1) (pa_cons pe_int pa_nil))) (k_ptup (K := K) 2 rfl rfl (pgs_cons (pg_name (i := 2) S.nd rfl (Or.inl rfl)) (pgs_cons (pg_name (i := 3) S.nd rfl (Or.inl rfl)) pgs_nil))))
      (pss_cons (ps_expr (pe_callG h_CheckNames (hr.mono (by decide)) (pa_cons (pe_slice (k_slL (K := K) rfl) (pv 2) (po_some pe_int) (po_some pe_int)) pa_nil)))
      (pss_cons (ps_set (i := 4) S.nd rfl (Or.inl rfl) (pe_callG h_NumberIn (hr.mono (by decide)) (pa_cons (pe_ix (k_ixL (K := K) rfl) (pv 2) pe_int (fun _ _ => rfl)) (pa_cons pe_int pa_nil))))
      (pss_cons (ps_set (i := 5) S.nd rfl (Or.inl rfl) (k_meth (K := K) rfl T.cl T.mStockOf h_MStockOf (hr.mono (by decide)) (pv 0) (pa_cons (pv 3) pa_nil)))
      (pss_cons (ps_if (pt_cmpR (k_eq (K := K) rfl hr.units) (pe_callB (k_len (K := K) rfl) (by rfl) T.b_len (by decide +kernel) (pa_cons (k_fld (K := K) rfl (pv 0)) pa_nil)) (k_globI h_MAX_EVENTS (by rfl)) (nomark _)) (pss_one ps_never) pss_nil)
      (pss_cons (ps_if (pt_cmpR (k_in (K := K) rfl) (pv 4) (k_fld (K := K) rfl (pv 0)) (by rfl)) (pss_one ps_never) pss_nil)
      (pss_one (ps_ret (pe_tup (pa_cons pe_str (pa_cons (pe_ix (k_ixL (K := K) rfl) (pv 2) pe_int (fun _ _ => rfl)) (pa_cons (pe_ix (k_ixL (K := K) rfl) (pv 2) pe_int (fun _ _ => rfl)) (pa_cons (pv 4) (pa_cons (pv 5) pa_nil)))))))))))))), ?_⟩
    rintro ss μ P' ⟨A, b, h, wd, s, u, t, g, rfl, rfl, B, E, Es, hl, ht, p⟩
    have cl := T.cl
    have n1 := T.n_kept
    have n2 := T.n_events
    have n5 := T.n_tickets
    obtain ⟨N1, N2, t1, t2, _⟩ := id E
    have L := lw_ok B E Es
    have O := lw_pc B E Es
    have el : lw b (.send s u t g) = [("send" : Str), s, u, numT t] ++ wds (pIt b.ks (g.map wrF)) := rfl
    have ep := joinI_wds (pIt b.ks (g.map wrF))
    walk_at "rds"
    refine ⟨rfl, [("send" : Str), s, u, numT t], wds (pIt b.ks (g.map wrF)), 4, by unfold lineF; rw [el], rfl, wds_ne _, by rw [← el]; exact O, by rw [← el]; omega, ?_⟩
    rw [← ep]
    walk_at "rds"
    refine ⟨rfl, [s, u], rfl, fun x hx => ?_, (by show 2 ≤ 100; decide), ?_⟩
    · simp only [List.mem_cons, List.not_mem_nil, or_false] at hx
      rcases hx with rfl | rfl
      · exact N1
      · exact N2
    walk_at "rds"
    refine ⟨rfl, t, 1, rfl, by omega, by omega, by omega, ?_⟩
    walk_at "rds"
    refine cM [0, 1, 2, 3, 4] (by decide) ?_
    walk_at "rds"
    refine ⟨rfl, [_, _, _, _, _], rfl, A, b, h, wd, g, rfl, rfl, B, Es, ?_⟩
    walk_at "rds"
    rw [decide_eq_false (by (try simp); omega)]
    walk_at "rds"
    refine op_inI (.own (by walk_at "mem")) ?_
    walk_at "rds"
    rw [decide_eq_false ht]
    walk_at "rds"
    walk_at "finA"))
def aLanded (K : PySem.W.Frag) : ASp := fun ss μ P => ∃ A b h wd s u t, ss = [.val (.ref A.x), .dat (.str (lineF b (.land s u t)))] ∧ μ = seMu K A b h wd ∧ BkOk b ∧ EvOk b (.land s u t) ∧ h.length < 60 ∧ (valD wd.way t).isSome = true ∧ P (.dat (evD (.land s u t))) (seOb K A b h wd) []
abbrev NMLanded : List Str := ["self", "line", "words", "text", "ticket"]
theorem scMLanded : FnScope NMLanded ["self", "line"] (defScope mLanded) := ⟨rfl, rfl, rfl, by decide +kernel, rfl, by decide +kernel, by decide +kernel⟩
abbrev OkMLanded (P : Program) (w : World) (K : PySem.W.Frag) (mg : Str → Option Value) (base : Heap) : Prop := OkM P w K mg base "landed" 3 ["self", "line"] (spA K 2 (aLanded K))
theorem ok_MLanded {P : Program} {w : World} {K : PySem.W.Frag} {mg : Str → Option Value} {base : Heap} (T : Tx K mg) (h_CheckNames : OkCheckNames P w K mg base) (h_Cut : OkCut P w K mg base) (h_NumberIn : OkNumberIn P w K mg base) : OkMLanded P w K mg base :=
  (by exact getit : Hold (OkMLanded P w K mg base) (by
    obtain ⟨t_MAX_EVENTS, h_MAX_EVENTS⟩ := T.c_MAX_EVENTS
    have S := scMLanded
    refine okM_a (m := 3) T.fMLanded S rfl rfl (fun _ _ _ _ _ _ us hl => match us, hl with | [_, _], _ => rfl) fun cdv A outer s H E hr => ⟨_,
      (pss_cons (ps_asg (pe_callG h_Cut (hr.mono (by decide)) (pa_cons (pv 1) (pa_cons pe_int pa_nil))) (k_ptup (K := K) 2 rfl rfl (pgs_cons (pg_name (i := 2) S.nd rfl (Or.inl rfl)) (pgs_cons (pg_name (i := 3) S.nd rfl (Or.inl rfl)) pgs_nil))))
      (pss_cons (ps_expr (pe_callG h_CheckNames (hr.mono (by decide)) (pa_cons (pe_slice (k_slL (K := K) rfl) (pv 2) (po_some pe_int) po_none) pa_nil)))
      (pss_cons (ps_set (i := 4) S.nd rfl (Or.inl rfl) (pe_callG h_NumberIn (hr.mono (by decide)) (pa_cons (pv 3) (pa_cons pe_int pa_nil))))
      (pss_cons (ps_if (pt_cmpR (k_eq (K := K) rfl hr.units) (pe_callB (k_len (K := K) rfl) (by rfl) T.b_len (by decide +kernel) (pa_cons (k_fld (K := K) rfl (pv 0)) pa_nil)) (k_globI h_MAX_EVENTS (by rfl)) (nomark _)) (pss_one ps_never) pss_nil)
      (pss_cons (ps_if (pt_cmp (pc_dnotin (hu_of hr) (pv 4) (k_fld (K := K) rfl (pv 0))) rfl) (pss_one ps_never) pss_nil)
      (pss_one (ps_ret (pe_tup (pa_cons pe_str (pa_cons (pe_ix (k_ixL (K := K) rfl) (pv 2) pe_int (fun _ _ => rfl)) (pa_cons (pe_ix (k_ixL (K := K) rfl) (pv 2) pe_int (fun _ _ => rfl)) (pa_cons (pv 4) pa_nil)))))))))))), ?_⟩
    rintro ss μ P' ⟨A, b, h, wd, s, u, t, rfl, rfl, B, E, hl, ht, p⟩
    have cl := T.cl
    have n1 := T.n_kept
    have n2 := T.n_events
    have n4 := T.n_way
    obtain ⟨N1, N2, t1, t2⟩ := id E
    have Es : EvS b (.land s u t) := trivial
    have L := lw_ok B E Es
    have O := lw_pc B E Es
    have el : lw b (.land s u t) = [("land" : Str), s, u] ++ [numT t] := rfl
    have ep : Txt.join spT [numT t] = numT t := by
      apply TL.ext_tl
      rw [join_tl]
      rfl
    walk_at "rds"
    refine ⟨rfl, [("land" : Str), s, u], [numT t], 3, by unfold lineF; rw [el], rfl, by simp, by rw [← el]; exact O, by rw [← el]; omega, ?_⟩
    rw [ep]
    walk_at "rds"
    refine ⟨rfl, [s, u], rfl, fun x hx => ?_, (by show 2 ≤ 100; decide), ?_⟩
    · simp only [List.mem_cons, List.not_mem_nil, or_false] at hx
      rcases hx with rfl | rfl
      · exact N1
      · exact N2
    walk_at "rds"
    refine ⟨rfl, t, 1, rfl, by omega, by omega, by omega, ?_⟩
    walk_at "rds"
    rw [decide_eq_false (by (try simp); omega)]
    walk_at "rds"
    obtain ⟨g, hg⟩ := valD_key (valD_keys.mp ht)
    refine ⟨_, _, _, rfl, .dat _, dic_way' hg (by walk_at "mem"), ?_⟩
    walk_at "rds"
    refine ⟨fun h => (nomatch h), fun _ => ?_⟩
    walk_at "rds"
    walk_at "finA"))
def aOther (K : PySem.W.Frag) : ASp := fun ss μ P => ∃ A b h wd e, ss = [.val (.ref A.x), .dat (.str e.kd), .dat (.str (lineF b e))] ∧ μ = seMu K A b h wd ∧ BkOk b ∧ EvOk b e ∧ EvS b e ∧ h.length < 60 ∧ (match e with | .hand _ _ _ _ => True | .forge _ _ _ => True | _ => False) ∧ P (.dat (evD e)) (seOb K A b h wd) []
abbrev NMOtherEvent : List Str := ["self", "word", "line", "words", "text", "stock"]
theorem scMOtherEvent : FnScope NMOtherEvent ["self", "word", "line"] (defScope mOtherEvent) := ⟨rfl, rfl, rfl, by decide +kernel, rfl, by decide +kernel, by decide +kernel⟩
abbrev OkMOtherEvent (P : Program) (w : World) (K : PySem.W.Frag) (mg : Str → Option Value) (base : Heap) : Prop := OkM P w K mg base "other_event" 5 ["self", "word", "line"] (spA K 3 (aOther K))
theorem ok_MOtherEvent {P : Program} {w : World} {K : PySem.W.Frag} {mg : Str → Option Value} {base : Heap} (T : Tx K mg) (h_MStockOf : OkMStockOf P w K mg base) (h_CheckNames : OkCheckNames P w K mg base) (h_Cut : OkCut P w K mg base) : OkMOtherEvent P w K mg base :=
  (by exact getit : Hold (OkMOtherEvent P w K mg base) (by
    obtain ⟨t_MAX_EVENTS, h_MAX_EVENTS⟩ := T.c_MAX_EVENTS
    have S := scMOtherEvent
    refine okM_a (m := 3) T.fMOtherEvent S rfl rfl (fun _ _ _ _ _ _ us hl => match us, hl with | [_, _, _], _ => rfl) fun cdv A outer s H E hr => ⟨_,
      (pss_cons (ps_asg (pe_callG h_Cut (hr.mono (by decide)) (pa_cons (pv 2) (pa_cons (pe_ifExp (pt_cmpR (k_eq (K := K) rfl hr.units) (pv 1) pe_str (nomark _)) pe_int pe_int) pa_nil))) (k_ptup (K := K) 2 rfl rfl (pgs_cons (pg_name (i := 3) S.nd rfl (Or.inl rfl)) (pgs_cons (pg_name (i := 4) S.nd rfl (Or.inl rfl)) pgs_nil))))
      (pss_cons (ps_expr (pe_callG h_CheckNames (hr.mono (by decide)) (pa_cons (pe_slice (k_slL (K := K) rfl) (pv 3) (po_some pe_int) po_none) pa_nil)))
      (pss_cons (ps_set (i := 5) S.nd rfl (Or.inl rfl) (k_meth (K := K) rfl T.cl T.mStockOf h_MStockOf (hr.mono (by decide)) (pv 0) (pa_cons (pv 4) pa_nil)))
      (pss_cons (ps_if (PW.pt (pw_and (pt_cmpR (k_eq (K := K) rfl hr.units) (pv 1) pe_str (nomark _)) (pw_and1 (pt_cmpR (k_eq (K := K) rfl hr.units) (pe_ix (k_ixL (K := K) rfl) (pv 3) pe_int (fun _ _ => rfl)) (pe_ix (k_ixL (K := K) rfl) (pv 3) pe_int (fun _ _ => rfl)) (nomark _))))) (pss_one ps_never) pss_nil)
      (pss_cons (ps_if (pt_cmpR (k_eq (K := K) rfl hr.units) (pe_callB (k_len (K := K) rfl) (by rfl) T.b_len (by decide +kernel) (pa_cons (k_fld (K := K) rfl (pv 0)) pa_nil)) (k_globI h_MAX_EVENTS (by rfl)) (nomark _)) (pss_one ps_never) pss_nil)
      (pss_one (ps_ret (pe_op (k_catA (K := K) rfl) (pe_callTy (k_tup (K := K) rfl) (by rfl) T.b_tuple (by decide +kernel) (pa_cons (pv 3) pa_nil)) (pe_tup (pa_cons (pv 5) pa_nil)))))))))), ?_⟩
    rintro ss μ P' ⟨A, b, h, wd, e, rfl, rfl, B, E, Es, hl, hk, p⟩
    have cl := T.cl
    have n1 := T.n_kept
    have n2 := T.n_events
    have L := lw_ok B E Es
    have O := lw_pc B E Es
    cases e with
    | hand s u o g =>
      obtain ⟨N1, N2, N3, hne, _⟩ := id E
      have el : lw b (.hand s u o g) = [("hand" : Str), s, u, o] ++ wds (pIt b.ks (g.map wrF)) := rfl
      have ep := joinI_wds (pIt b.ks (g.map wrF))
      change ExC K _ [.val (.ref A.x), .dat (.str "hand"), .dat (.str (lineF b (.hand s u o g))), .any, .any, .any] _ _
      walk_at "rds"
      refine ⟨rfl, [("hand" : Str), s, u, o], wds (pIt b.ks (g.map wrF)), 4, by unfold lineF; rw [el], rfl, wds_ne _, by rw [← el]; exact O, by rw [← el]; omega, ?_⟩
      rw [← ep]
      walk_at "rds"
      refine ⟨rfl, [s, u, o], rfl, fun x hx => ?_, (by show 3 ≤ 100; decide), ?_⟩
      · simp only [List.mem_cons, List.not_mem_nil, or_false] at hx
        rcases hx with rfl | rfl | rfl
        · exact N1
        · exact N2
        · exact N3
      walk_at "rds"
      refine cM [0, 1, 2, 3, 4] (by decide) ?_
      walk_at "rds"
      refine ⟨rfl, [_, _, _, _, _], rfl, A, b, h, wd, g, rfl, rfl, B, Es, ?_⟩
      walk_at "rds"
      refine op_eqs N2.asc.ok N3.asc.ok ?_
      rw [decide_eq_false (fun z => hne z.symm)]
      walk_at "rds"
      rw [decide_eq_false (by (try simp); omega)]
      walk_at "rds"
      refine op_catD (by walk_at "len") ?_
      have p : P' (.dat (.tuple ([("hand" : Str), s, u, o].map .str ++ [stk g]))) (seOb K A b h wd) [] := p
      walk_at "finA"
    | forge s u g =>
      obtain ⟨N1, N2, _⟩ := id E
      have el : lw b (.forge s u g) = [("forge" : Str), s, u] ++ wds (pIt b.ks (g.map wrF)) := rfl
      have ep := joinI_wds (pIt b.ks (g.map wrF))
      change ExC K _ [.val (.ref A.x), .dat (.str "forge"), .dat (.str (lineF b (.forge s u g))), .any, .any, .any] _ _
      walk_at "rds"
      refine ⟨rfl, [("forge" : Str), s, u], wds (pIt b.ks (g.map wrF)), 3, by unfold lineF; rw [el], rfl, wds_ne _, by rw [← el]; exact O, by rw [← el]; omega, ?_⟩
      rw [← ep]
      walk_at "rds"
      refine ⟨rfl, [s, u], rfl, fun x hx => ?_, (by show 2 ≤ 100; decide), ?_⟩
      · simp only [List.mem_cons, List.not_mem_nil, or_false] at hx
        rcases hx with rfl | rfl
        · exact N1
        · exact N2
      walk_at "rds"
      refine cM [0, 1, 2, 3, 4] (by decide) ?_
      walk_at "rds"
      refine ⟨rfl, [_, _, _, _, _], rfl, A, b, h, wd, g, rfl, rfl, B, Es, ?_⟩
      walk_at "rds"
      rw [decide_eq_false (by (try simp); omega)]
      walk_at "rds"
      refine op_catD (by walk_at "len") ?_
      have p : P' (.dat (.tuple ([("forge" : Str), s, u].map .str ++ [stk g]))) (seOb K A b h wd) [] := p
      walk_at "finA"
    | _ => exact hk.elim))
/-! ## F12 -/
open TL (tl)
section
variable {K : PySem.W.Frag} {δ δ1 : List Sl} {μ μ1 : Mu} {A : AEnds} {t u : TS}
theorem ex_seqM (h : ExC K t δ μ { A with nx := fun δ' μ' => δ' = δ1 ∧ μ' = μ1 }) (h2 : ExC K u δ1 μ1 A) : ExC K (tSeq t u) δ μ A :=
  ex_seq fun I H σ D st n r b c => h I H σ D st (fun σ' H' ⟨δ', μ', I', a1, a2, a3, e1, e2⟩ => n σ' H' ⟨δ', μ', I', a1, a2, a3, by subst e1 e2; exact h2⟩) r b c
end
theorem tksE_len (l : List Int) (e : Ev) : (tksE l e).length ≤ l.length + 1 := by cases e <;> simp [tksE]
theorem tks_len (b : Bk) (h : List Ev) : (runW b h).tks.length ≤ h.length := by
  have key : ∀ (l : List Ev) (w : Wd), (l.foldl (stepW b) w).tks.length ≤ w.tks.length + l.length := by
    intro l
    induction l with
    | nil => intro w; simp
    | cons e l ih =>
      intro w
      rw [List.foldl_cons]
      have h1 := ih (stepW b w e)
      have h2 : (stepW b w e).tks.length ≤ w.tks.length + 1 := tksE_len w.tks e
      simp
      omega
  simpa [runW] using key h w0
abbrev evT : Str := "event "
def aEvent (K : PySem.W.Frag) : ASp := fun ss μ P => ∃ A b h e, ss = [.val (.ref A.x), .dat (.str e.kd), .dat (.str (lineF b e))] ∧ μ = seMu K A b h (runW b h) ∧ BkOk b ∧ Hist b h ∧ OkE b (runW b h) e ∧ h.length < 60 ∧ P (.dat (.list [.str (evT ++ numT h.length)])) (seOb K A b (h ++ [e]) (runW b (h ++ [e]))) []
abbrev NMEvent : List Str := ["self", "word", "line", "event", "number", "row"]
theorem scMEvent : FnScope NMEvent ["self", "word", "line"] (defScope mEvent) := ⟨rfl, rfl, rfl, by decide +kernel, rfl, by decide +kernel, by decide +kernel⟩
abbrev OkMEvent (P : Program) (w : World) (K : PySem.W.Frag) (mg : Str → Option Value) (base : Heap) : Prop := OkM P w K mg base "event" 6 ["self", "word", "line"] (spA K 3 (aEvent K))
theorem ok_MEvent {P : Program} {w : World} {K : PySem.W.Frag} {mg : Str → Option Value} {base : Heap} (T : Tx K mg) (h_MLanded : OkMLanded P w K mg base) (h_MMade : OkMMade P w K mg base) (h_MOtherEvent : OkMOtherEvent P w K mg base) (h_MSent : OkMSent P w K mg base) (h_Carry : OkCarry P w K mg base) (h_FlowL : OkFlowL P w K mg base) (h_IsPossible : OkIsPossible P w K mg base) : OkMEvent P w K mg base :=
  (by exact getit : Hold (OkMEvent P w K mg base) (by
    have S := scMEvent
    refine okM_a (m := 3) T.fMEvent S rfl rfl (fun _ _ _ _ _ _ us hl => match us, hl with | [_, _, _], _ => rfl) fun cdv A outer s H E hr => ⟨_,
      (pss_cons (ps_if (pt_cmpR (k_eq (K := K) rfl hr.units) (pv 1) pe_str (nomark _)) (pss_one (ps_set (i := 3) S.nd rfl (Or.inl rfl) (k_meth (K := K) rfl T.cl T.mMade h_MMade (hr.mono (by decide)) (pv 0) (pa_cons (pv 2) pa_nil)))) (pss_one (ps_if (pt_cmpR (k_eq (K := K) rfl hr.units) (pv 1) pe_str (nomark _)) (pss_one (ps_set (i := 3) S.nd rfl (Or.inl rfl) (k_meth (K := K) rfl T.cl T.mSent h_MSent (hr.mono (by decide)) (pv 0) (pa_cons (pv 2) pa_nil)))) (pss_one (ps_if (pt_cmpR (k_eq (K := K) rfl hr.units) (pv 1) pe_str (nomark _)) (pss_one (ps_set (i := 3) S.nd rfl (Or.inl rfl) (k_meth (K := K) rfl T.cl T.mLanded h_MLanded (hr.mono (by decide)) (pv 0) (pa_cons (pv 2) pa_nil)))) (pss_one (ps_set (i := 3) S.nd rfl (Or.inl rfl) (k_meth (K := K) rfl T.cl T.mOtherEvent h_MOtherEvent (hr.mono (by decide)) (pv 0) (pa_cons (pv 1) (pa_cons (pv 2) pa_nil))))))))))
      (pss_cons (ps_set (i := 4) S.nd rfl (Or.inl rfl) (pe_callB (k_len (K := K) rfl) (by rfl) T.b_len (by decide +kernel) (pa_cons (k_fld (K := K) rfl (pv 0)) pa_nil)))
      (pss_cons (ps_set (i := 5) S.nd rfl (Or.inl rfl) (pe_callG h_FlowL (hr.mono (by decide)) (pa_cons (k_fld (K := K) rfl (pv 0)) (pa_cons (pe_op op_cat (k_fld (K := K) rfl (pv 0)) (pe_lst (pa_cons (pv 3) pa_nil))) (pa_cons (pv 4) pa_nil)))))
      (pss_cons (ps_if (pt_not (pt_val (pe_callG h_IsPossible (hr.mono (by decide)) (pa_cons (k_fld (K := K) rfl (pv 0)) (pa_cons (pv 5) pa_nil))))) (pss_one ps_never) pss_nil)
      (pss_cons (ps_expr (pe_callG h_Carry (hr.mono (by decide)) (pa_cons (k_fld (K := K) rfl (pv 0)) (pa_cons (pv 5) pa_nil))))
      (pss_cons (ps_expr (k_app (K := K) rfl (k_fld (K := K) rfl (pv 0)) (pa_cons (pv 3) pa_nil)))
      (pss_cons (ps_if (pt_cmpR (k_eq (K := K) rfl hr.units) (pv 1) pe_str (nomark _)) (pss_cons (ps_expr (k_app (K := K) rfl (k_fld (K := K) rfl (pv 0)) (pa_cons (pe_ix (k_ixT (K := K) rfl) (pv 3) pe_int (fun _ _ => rfl)) pa_nil)))
      (pss_one (ps_dput (hu_of hr) (k_fld (K := K) rfl (pv 0)) (pe_ix (k_ixT (K := K) rfl) (pv 3) pe_int (fun _ _ => rfl)) (pe_ix (k_ixT (K := K) rfl) (pv 3) pe_int (fun _ _ => rfl)) rfl))) (pss_one (ps_if (pt_cmpR (k_eq (K := K) rfl hr.units) (pv 1) pe_str (nomark _)) (pss_one (ps_expr (pe_dpop1 (k_fld (K := K) rfl (pv 0)) (pe_ix (k_ixT (K := K) rfl) (pv 3) pe_int (fun _ _ => rfl)) ⟨rfl, rfl, rfl, rfl⟩))) pss_nil)))
      (pss_one (ps_ret (pe_lst (pa_cons (pe_op op_addT pe_str (pe_callTy call_strI (by rfl) T.b_str (by decide +kernel) (pa_cons (pv 4) pa_nil))) pa_nil))))))))))), ?_⟩
    rintro ss μ P' ⟨A, b, h, e, rfl, rfl, B, Hh, O, hl, p⟩
    have cl := T.cl
    have n1 := T.n_kept
    have n2 := T.n_events
    have n3 := T.n_held
    have n4 := T.n_way
    have n5 := T.n_tickets
    have W := Hh.wd' B
    have Es := evs_of B W O (by omega)
    have fl := FlOk.of (q := [e]) W O
    have fe := flow_eq (b := b) (q := [e]) W O.ft
    have R := HrOk.of B W O
    have b1 := B.n1
    have b6 := B.n6
    have wh := W.hlen
    have ww := W.wlen
    have tkl : (runW b h).tks.length ≤ h.length := tks_len b h
    rw [runW_snoc] at p
    generalize runW b h = wd at *
    have nl := (num_ok (x := (h.length : Int)) (by omega) (by omega)).2.2
    have el : evT.length = 6 := by decide +kernel
    refine ex_seqM (δ1 := [.val (.ref A.x), .dat (.str e.kd), .dat (.str (lineF b e)), .dat (evD e), .any, .any]) (μ1 := seMu K A b h wd) ?_ ?_
    · cases e with
      | make s u m g =>
        change ExC K _ [.val (.ref A.x), .dat (.str "make"), .dat (.str (lineF b (.make s u m g))), .any, .any, .any] _ _
        walk_at "rds"
        refine cM [0, 1, 2, 3, 4] (by decide) ?_
        walk_at "rds"
        refine ⟨rfl, [_, _, _, _, _], rfl, A, b, h, wd, s, u, m, g, rfl, rfl, B, O.ev, hl, ?_⟩
        walk_at "rds"
        exact ⟨rfl, rfl⟩
      | hand s u o g =>
        change ExC K _ [.val (.ref A.x), .dat (.str "hand"), .dat (.str (lineF b (.hand s u o g))), .any, .any, .any] _ _
        walk_at "rds"
        refine cM [0, 1, 2, 3, 4] (by decide) ?_
        walk_at "rds"
        refine ⟨rfl, [_, _, _, _, _], rfl, A, b, h, wd, .hand s u o g, rfl, rfl, B, O.ev, Es, hl, trivial, ?_⟩
        walk_at "rds"
        exact ⟨rfl, rfl⟩
      | send s u t g =>
        change ExC K _ [.val (.ref A.x), .dat (.str "send"), .dat (.str (lineF b (.send s u t g))), .any, .any, .any] _ _
        walk_at "rds"
        refine cM [0, 1, 2, 3, 4] (by decide) ?_
        walk_at "rds"
        refine ⟨rfl, [_, _, _, _, _], rfl, A, b, h, wd, s, u, t, g, rfl, rfl, B, O.ev, Es, hl, O.ft, ?_⟩
        walk_at "rds"
        exact ⟨rfl, rfl⟩
      | land s u t =>
        change ExC K _ [.val (.ref A.x), .dat (.str "land"), .dat (.str (lineF b (.land s u t))), .any, .any, .any] _ _
        walk_at "rds"
        refine cM [0, 1, 2, 3, 4] (by decide) ?_
        walk_at "rds"
        refine ⟨rfl, [_, _, _, _, _], rfl, A, b, h, wd, s, u, t, rfl, rfl, B, O.ev, hl, O.ft, ?_⟩
        walk_at "rds"
        exact ⟨rfl, rfl⟩
      | forge s u g =>
        change ExC K _ [.val (.ref A.x), .dat (.str "forge"), .dat (.str (lineF b (.forge s u g))), .any, .any, .any] _ _
        walk_at "rds"
        refine cM [0, 1, 2, 3, 4] (by decide) ?_
        walk_at "rds"
        refine ⟨rfl, [_, _, _, _, _], rfl, A, b, h, wd, .forge s u g, rfl, rfl, B, O.ev, Es, hl, trivial, ?_⟩
        walk_at "rds"
        exact ⟨rfl, rfl⟩
    walk_at "rds"
    refine op_catL (.own (by walk_at "mem")) (.lst _) (sz_of (by simp; omega)) ?_
    walk_at "rds"
    refine ⟨rfl, b, h ++ [e], h.length, e, by simp, by simp, b1, b6, fl, ?_⟩
    rw [fe]
    walk_at "rds"
    refine cA [2] (by decide) ?_
    walk_at "rds"
    refine ⟨rfl, [_], rfl, _, _, _, _, rfl, rfl, R, ?_⟩
    rw [O.po]
    walk_at "rds"
    refine cA [2] (by decide) ?_
    walk_at "rds"
    refine ⟨rfl, [_], rfl, _, _, _, _, rfl, rfl, R, by omega, ?_⟩
    walk_at "rds"
    refine ⟨3, h.map evD, _, ⟨_, rfl, .dat _⟩, rfl, sz_lt (by simp; omega), ?_⟩
    have ee : h.map evD ++ [evD e] = (h ++ [e]).map evD := by simp
    rw [ee]
    cases e with
    | send s u t g =>
      change ExC K _ [.val (.ref A.x), .dat (.str "send"), .dat (.str (lineF b (.send s u t g))), .dat (evD (.send s u t g)), .dat (.int h.length), .dat (rowD (flowW b wd (.send s u t g)))] _ _
      walk_at "rds"
      refine ⟨0, wd.tks.map .int, _, ⟨_, rfl, .dat _⟩, rfl, sz_lt (by simp; omega), ?_⟩
      refine ex_dput ?_
      walk_at "rds"
      refine ⟨1, .inl t, stk g, .dat _, .dat _, _, rfl, sz_lt (by simp; omega), ?_⟩
      rw [way_put, show wd.tks.map PyData.int ++ [PyData.int t] = (wd.tks ++ [t]).map .int by simp]
      walk_at "rds"
      refine ca_strI (num_log (by omega) (by omega)) ?_
      walk_at "rds"
      refine op_tt (sz_of (by show evT.length + _ ≤ _; omega)) ?_
      walk_at "rds"
      walk_at "finA"
    | land s u t =>
      change ExC K _ [.val (.ref A.x), .dat (.str "land"), .dat (.str (lineF b (.land s u t))), .dat (evD (.land s u t)), .dat (.int h.length), .dat (rowD (flowW b wd (.land s u t)))] _ _
      walk_at "rds"
      obtain ⟨g, hg⟩ := valD_key (valD_keys.mp (show (valD wd.way t).isSome = true from O.ft))
      refine ⟨1, wyE wd.way, .inl t, stk g, .dat _, rfl, by rw [way_val, hg]; rfl, ?_⟩
      rw [way_drop]
      walk_at "rds"
      refine ca_strI (num_log (by omega) (by omega)) ?_
      walk_at "rds"
      refine op_tt (sz_of (by show evT.length + _ ≤ _; omega)) ?_
      walk_at "rds"
      walk_at "finA"
    | make s u m g =>
      change ExC K _ [.val (.ref A.x), .dat (.str "make"), .dat (.str (lineF b (.make s u m g))), .dat (evD (.make s u m g)), .dat (.int h.length), .dat (rowD (flowW b wd (.make s u m g)))] _ _
      walk_at "rds"
      refine ca_strI (num_log (by omega) (by omega)) ?_
      walk_at "rds"
      refine op_tt (sz_of (by show evT.length + _ ≤ _; omega)) ?_
      walk_at "rds"
      walk_at "finA"
    | hand s u o g =>
      change ExC K _ [.val (.ref A.x), .dat (.str "hand"), .dat (.str (lineF b (.hand s u o g))), .dat (evD (.hand s u o g)), .dat (.int h.length), .dat (rowD (flowW b wd (.hand s u o g)))] _ _
      walk_at "rds"
      refine ca_strI (num_log (by omega) (by omega)) ?_
      walk_at "rds"
      refine op_tt (sz_of (by show evT.length + _ ≤ _; omega)) ?_
      walk_at "rds"
      walk_at "finA"
    | forge s u g =>
      change ExC K _ [.val (.ref A.x), .dat (.str "forge"), .dat (.str (lineF b (.forge s u g))), .dat (evD (.forge s u g)), .dat (.int h.length), .dat (rowD (flowW b wd (.forge s u g)))] _ _
      walk_at "rds"
      refine ca_strI (num_log (by omega) (by omega)) ?_
      walk_at "rds"
      refine op_tt (sz_of (by show evT.length + _ ≤ _; omega)) ?_
      walk_at "rds"
      walk_at "finA"))
def holdT : Str := "holding"
def aHolding (K : PySem.W.Frag) : ASp := fun ss μ P => ∃ A b h s u, ss = [.val (.ref A.x), .dat (.str (Txt.join spT [holdT, s, u]))] ∧ μ = seMu K A b h (runW b h) ∧ BkOk b ∧ Hist b h ∧ NmOk s ∧ NmOk u ∧ P (.dat (.list [.str (printF b.ks (getH (runW b h).held (s, u) b.n))])) (seOb K A b h (runW b h)) []
theorem hold_ok : FreeS holdT ∧ Asc holdT ∧ holdT.length ≤ 40 := by
  have : (¬ 32 ∈ tl holdT) ∧ (tl holdT).all (· < 128) = true ∧ holdT.length ≤ 40 := by unfold holdT; decide +kernel
  exact ⟨this.1, fun c hc => by simpa using List.all_eq_true.mp this.2.1 c hc, this.2.2⟩
theorem hold_pc {s u : Str} (N1 : NmOk s) (N2 : NmOk u) : (∀ x ∈ [holdT, s, u], FreeS x ∧ Asc x ∧ x.length ≤ 40) := fun x hx => by
  simp only [List.mem_cons, List.not_mem_nil, or_false] at hx
  rcases hx with rfl | rfl | rfl
  · exact hold_ok
  · exact nm_ok N1
  · exact nm_ok N2
abbrev NMHolding : List Str := ["self", "line", "words", "zero"]
theorem scMHolding : FnScope NMHolding ["self", "line"] (defScope mHolding) := ⟨rfl, rfl, rfl, by decide +kernel, rfl, by decide +kernel, by decide +kernel⟩
abbrev OkMHolding (P : Program) (w : World) (K : PySem.W.Frag) (mg : Str → Option Value) (base : Heap) : Prop := OkM P w K mg base "holding" 3 ["self", "line"] (spA K 2 (aHolding K))
theorem ok_MHolding {P : Program} {w : World} {K : PySem.W.Frag} {mg : Str → Option Value} {base : Heap} (T : Tx K mg) (h_CheckNames : OkCheckNames P w K mg base) (h_PrintStock : OkPrintStock P w K mg base) : OkMHolding P w K mg base :=
  (by exact getit : Hold (OkMHolding P w K mg base) (by
    have S := scMHolding
    refine okM_a (m := 2) T.fMHolding S rfl rfl (fun _ _ _ _ _ _ us hl => match us, hl with | [_, _], _ => rfl) fun cdv A outer s H E hr => ⟨_,
      (pss_cons (ps_set (i := 2) S.nd rfl (Or.inl rfl) (pe_splitQ (pv 1) pe_str))
      (pss_cons (ps_if (pt_cmpR (k_ne (K := K) rfl hr.units) (pe_callB (k_len (K := K) rfl) (by rfl) T.b_len (by decide +kernel) (pa_cons (pv 2) pa_nil)) pe_int (nomark _)) (pss_one ps_never) pss_nil)
      (pss_cons (ps_expr (pe_callG h_CheckNames (hr.mono (by decide)) (pa_cons (pe_slice (k_slL (K := K) rfl) (pv 2) (po_some pe_int) po_none) pa_nil)))
      (pss_cons (ps_set (i := 3) S.nd rfl (Or.inl rfl) (pe_op (k_repA (K := K) rfl) (pe_tup (pa_cons pe_int pa_nil)) (pe_callB (k_len (K := K) rfl) (by rfl) T.b_len (by decide +kernel) (pa_cons (pe_ix (k_ixT (K := K) rfl) (k_fld (K := K) rfl (pv 0)) pe_int (fun _ _ => rfl)) pa_nil))))
      (pss_one (ps_ret (pe_lst (pa_cons (pe_callG h_PrintStock (hr.mono (by decide)) (pa_cons (k_fld (K := K) rfl (pv 0)) (pa_cons (pe_dget2 (hu_of hr) (k_fld (K := K) rfl (pv 0)) (pe_tup (pa_cons (pe_ix (k_ixL (K := K) rfl) (pv 2) pe_int (fun _ _ => rfl)) (pa_cons (pe_ix (k_ixL (K := K) rfl) (pv 2) pe_int (fun _ _ => rfl)) pa_nil))) (pv 3) ⟨rfl, rfl, rfl, rfl⟩) pa_nil))) pa_nil)))))))), ?_⟩
    rintro ss μ P' ⟨A, b, h, s, u, rfl, rfl, B, Hh, N1, N2, p⟩
    have cl := T.cl
    have n1 := T.n_kept
    have n3 := T.n_held
    have b1 := B.n1
    have b6 := B.n6
    have W := Hh.wd' B
    have hl := Hh.len
    have pc := hold_pc N1 N2
    have jl := pc_join (ws := [holdT, s, u]) ⟨fun x hx => (pc x hx).1, fun x hx => (pc x hx).2.2⟩ (by show 3 ≤ 100; decide)
    have ab : AbOk b.n (10 ^ 25) (getH (runW b h).held (s, u) b.n) := ((getH_ok W.held (by have := Bd_pos h.length; omega) (s, u)).mono (Int.le_of_lt (Bd_60 (by omega)))).ab
    generalize runW b h = wd at *
    walk_at "rds"
    refine ⟨by decide +kernel, sz_of (by omega), ?_⟩
    rw [show (Str.ofString " ") = spT from rfl, split_words (by simp) fun x hx => (pc x hx).1]
    walk_at "rds"
    first | rw [show (([holdT, s, u] : List Str).length : Int) = 3 from rfl] | rw [show (([PyData.str holdT, PyData.str s, PyData.str u] : List PyData).length : Int) = 3 from rfl]
    walk_at "rds"
    refine ⟨rfl, [s, u], rfl, fun x hx => ?_, (by show 2 ≤ 100; decide), ?_⟩
    · simp only [List.mem_cons, List.not_mem_nil, or_false] at hx
      rcases hx with rfl | rfl
      · exact N1
      · exact N2
    walk_at "rds"
    refine ⟨_, _, _, .dat _, .dat _, dic_held (s, u) (by walk_at "mem"), ?_⟩
    rw [getH_dat]
    walk_at "rds"
    refine ⟨rfl, b, _, rfl, B, ab, ?_⟩
    walk_at "rds"
    walk_at "finA"))
/-! ## M5 -/
/-! Plain: the answers of a session. -/
open TL (tl)
/-- the places of lacks and refunds are those of events -/
def PlOk (k : SS) : Prop := NmOk k.1 ∧ NmOk k.2
theorem ev_pl {b : Bk} {e : Ev} (E : EvOk b e) : PlOk (e.sh, e.wh) := by
  cases e with
  | make s u m g => exact ⟨E.1, E.2.1⟩
  | hand s u o g => exact ⟨E.1, E.2.1⟩
  | send s u t g => exact ⟨E.1, E.2.1⟩
  | land s u t => exact ⟨E.1, E.2.1⟩
  | forge s u g => exact ⟨E.1, E.2.1⟩
theorem taker_pl {b : Bk} {h : List Ev} {e : Ev} {k : SS} (E : EvOk b e) (ht : (flowF b h e).taker = some k) : PlOk k := by
  have P := ev_pl E
  cases e with
  | make s u m g => have : some (s, u) = some k := ht; cases this; exact P
  | hand s u o g => have : some (s, u) = some k := ht; cases this; exact P
  | send s u t g => have : some (s, u) = some k := ht; cases this; exact P
  | land s u t => cases (show (none : Option SS) = some k from ht)
  | forge s u g => cases (show (none : Option SS) = some k from ht)
theorem lk_pl {b : Bk} {h : List Ev} (H : ∀ (k : Nat) e, h[k]? = some e → EvOk b e) : ∀ (l : List Nat) (s : Lc), (∀ f ∈ s.found, PlOk f.2.1) → ∀ f ∈ (l.foldl (lcStep b h) s).found, PlOk f.2.1
  | [], _, hs => hs
  | k :: l, s, hs => by
    rw [List.foldl_cons]
    refine lk_pl H l _ fun f hf => ?_
    unfold lcStep at hf
    cases he : h[k]? with
    | none => rw [he] at hf; exact hs f hf
    | some e =>
      rw [he] at hf
      have hf : f ∈ s.found ++ lkRow b.n k s.held (flowF b h e) := hf
      rcases List.mem_append.mp hf with hf | hf
      · exact hs f hf
      · unfold lkRow at hf
        cases ht : (flowF b h e).taker with
        | none => rw [ht] at hf; cases hf
        | some p =>
          rw [ht] at hf
          have hf : f ∈ (if (flowF b h e).take.any (· != 0) = true then [(k, p, maxS (zr b.n) (subS (flowF b h e).take (getH s.held p b.n)))] else []) := hf
          split at hf
          · rw [List.mem_singleton] at hf
            subst hf
            exact taker_pl (H k e he) ht
          · cases hf
theorem due_pl : ∀ (l : List Lk) (d : HeldT), (∀ f ∈ l, PlOk f.2.1) → (∀ p ∈ d, PlOk p.1) → ∀ p ∈ l.foldl dueStep d, PlOk p.1
  | [], _, _, hd => hd
  | f :: l, d, hl, hd => by
    rw [List.foldl_cons]
    refine due_pl l _ (fun g hg => hl g (List.mem_cons_of_mem _ hg)) fun p hp => ?_
    rcases putD_mem hp with z | z
    · subst z; exact hl f List.mem_cons_self
    · exact hd p z
theorem refunds_pl {b : Bk} {h : List Ev} {rc : List Int} (H : Hist b h) : ∀ p ∈ refundsF b h rc, PlOk p.1 := by
  intro p hp
  have h1 : ∀ f ∈ lacksF b h rc, PlOk f.2.1 := lk_pl (fun k e he => (H.ok k e he).ev) _ _ (fun f hf => nomatch hf)
  have h2 : ∀ p ∈ dueF (lacksF b h rc), PlOk p.1 := due_pl _ _ h1 (fun p hp => nomatch hp)
  unfold refundsF shownF at hp
  obtain ⟨k, hk, rfl⟩ := List.mem_map.mp hp
  have := (sortK_perm _).mem_iff.mp (List.mem_filter.mp hk).1
  obtain ⟨q, hq, e⟩ := List.mem_map.mp this
  show PlOk k
  rw [← e]
  exact h2 q hq
theorem refunds_len {b : Bk} {h : List Ev} {rc : List Int} (B : BkOk b) (H : Hist b h) : (refundsF b h rc).length ≤ 60 := by
  have S := lcok (rc := rc) B H _ (Nat.le_refl _)
  rw [List.take_length] at S
  have D := (due_ok S.fl).2
  have kl := kept_len h rc
  have hl := H.len
  have fn := S.fn
  have e : lacksF b h rc = (lcRun b h (keptF h rc)).found := rfl
  rw [← e] at D fn
  unfold refundsF shownF
  rw [List.length_map]
  refine Nat.le_trans (List.length_filter_le _ _) ?_
  rw [(sortK_perm _).length_eq, List.length_map]
  omega
def strT : Str := "struck"
def strikeT (b : Bk) (h : List Ev) (rc : List Int) : Str := Txt.join spT (strT :: (skRun b h rc h.length).struck.map fun (i : Nat) => numT i)
def refL (b : Bk) (p : SS × List Int) : Str := p.1.1 ++ spT ++ p.1.2 ++ spT ++ printF b.ks p.2
def refLs (b : Bk) (h : List Ev) (rc : List Int) : List Str := (refundsF b h rc).map (refL b)
abbrev stkT : Str := "strike"
abbrev rfdT : Str := "refunds"
abbrev wayT : Str := "way"
abbrev evnT : Str := "event "
inductive Ans (b : Bk) (h : List Ev) : Str → List Str → List Ev → Prop
  | ev (e : Ev) : OkE b (runW b h) e → h.length < 60 → Ans b h (lineF b e) [evnT ++ numT h.length] (h ++ [e])
  | way : Ans b h wayT (orNone (wayLs b (runW b h).way)) h
  | hold (s u : Str) : NmOk s → NmOk u → Ans b h (Txt.join spT [holdT, s, u]) [printF b.ks (getH (runW b h).held (s, u) b.n)] h
  | strike (rc : List Int) : RcOk h rc → Ans b h (Txt.join spT (stkT :: rc.map numT)) [strikeT b h rc] h
  | refunds (rc : List Int) : RcOk h rc → Ans b h (Txt.join spT (rfdT :: rc.map numT)) (orNone (refLs b h rc)) h
theorem rc_nums {h : List Ev} {rc : List Int} (R : RcOk h rc) (hl : h.length ≤ 60) : ∀ r ∈ rc, 0 ≤ r ∧ r ≤ 60 := fun r hr => by
  obtain ⟨k, e, s, u, g, hk⟩ := R.mem r hr
  have := (List.getElem?_eq_some_iff.mp hk).1
  omega
theorem two_ok : (FreeS stkT ∧ Asc stkT ∧ stkT.length ≤ 40) ∧ (FreeS rfdT ∧ Asc rfdT ∧ rfdT.length ≤ 40) ∧ (FreeS wayT ∧ Asc wayT ∧ wayT.length ≤ 40) ∧ (FreeS strT ∧ Asc strT ∧ strT.length ≤ 40) := by
  have key : ∀ {x : Str}, ((¬ 32 ∈ tl x) ∧ (tl x).all (· < 128) = true ∧ x.length ≤ 40) → FreeS x ∧ Asc x ∧ x.length ≤ 40 := fun h => ⟨h.1, fun c hc => by simpa using List.all_eq_true.mp h.2.1 c hc, h.2.2⟩
  exact ⟨key (by decide +kernel), key (by decide +kernel), key (by decide +kernel), key (by unfold strT; decide +kernel)⟩
theorem rc_words {h : List Ev} {rc : List Int} {x0 : Str} (R : RcOk h rc) (hl : h.length ≤ 60) (h0 : FreeS x0 ∧ Asc x0 ∧ x0.length ≤ 40) : (∀ x ∈ x0 :: rc.map numT, FreeS x ∧ Asc x ∧ x.length ≤ 40) ∧ (x0 :: rc.map numT).length ≤ 61 := by
  refine ⟨fun x hx => ?_, by have := R.len; simp; omega⟩
  rcases List.mem_cons.mp hx with rfl | hx
  · exact h0
  · obtain ⟨r, hr, rfl⟩ := List.mem_map.mp hx
    have := rc_nums R hl r hr
    exact num_ok (by omega) (by omega)
theorem struck_lt (b : Bk) (h : List Ev) (rc : List Int) : ∀ k, ∀ i ∈ (skRun b h rc k).struck, i < k
  | 0, i, hi => by simp [skRun] at hi
  | k + 1, i, hi => by
    have ih := struck_lt b h rc k
    rw [skRun_succ] at hi
    generalize skRun b h rc k = s at *
    unfold skStep at hi
    cases he : h[k]? with
    | none => rw [he] at hi; exact Nat.lt_succ_of_lt (ih i hi)
    | some e =>
      rw [he] at hi
      have hi : i ∈ (if (k : Int) ∈ rc then s else if condS s (flowF b h e) e = true then { s with struck := s.struck ++ [k] } else { s with held := carF s.held (flowF b h e), stands := s.stands ++ [k], sent := tksE s.sent e }).struck := hi
      split at hi
      · exact Nat.lt_succ_of_lt (ih i hi)
      split at hi
      · rcases List.mem_append.mp hi with hi | hi
        · exact Nat.lt_succ_of_lt (ih i hi)
        · rw [List.mem_singleton] at hi; omega
      · exact Nat.lt_succ_of_lt (ih i hi)
/-! ## F13 -/
open TL (tl)
abbrev recT (sk : Bool) : Str := if sk then stkT else rfdT
def aRecall (K : PySem.W.Frag) : ASp := fun ss μ P => ∃ A b h rc sk, ss = [.val (.ref A.x), .dat (.str (recT sk)), .dat (.str (Txt.join spT (recT sk :: rc.map numT)))] ∧ μ = seMu K A b h (runW b h) ∧ BkOk b ∧ Hist b h ∧ RcOk h rc ∧ P (.dat (.list ((if sk then [strikeT b h rc] else orNone (refLs b h rc)).map .str))) (seOb K A b h (runW b h)) []
theorem nat_num (l : List Nat) : (l.map fun (i : Nat) => PyData.str (numT i)) = (l.map fun (i : Nat) => numT i).map .str := by rw [List.map_map]; rfl
abbrev NMRecall : List Str := ["self", "word", "line", "words", "numbers", "history", "lines", "shard", "player", "stock", "part", "number"]
theorem scMRecall : FnScope NMRecall ["self", "word", "line"] (defScope mRecall) := ⟨rfl, rfl, rfl, by decide +kernel, rfl, by decide +kernel, by decide +kernel⟩
abbrev OkMRecall (P : Program) (w : World) (K : PySem.W.Frag) (mg : Str → Option Value) (base : Heap) : Prop := OkM P w K mg base "recall" 6 ["self", "word", "line"] (spA K 3 (aRecall K))
theorem ok_MRecall {P : Program} {w : World} {K : PySem.W.Frag} {mg : Str → Option Value} {base : Heap} (T : Tx K mg) (h_MHistory : OkMHistory P w K mg base) (h_Cut : OkCut P w K mg base) (h_IsRecall : OkIsRecall P w K mg base) (h_NumberIn : OkNumberIn P w K mg base) (h_PrintStock : OkPrintStock P w K mg base) (h_Refunds : OkRefunds P w K mg base) (h_Strike : OkStrike P w K mg base) : OkMRecall P w K mg base :=
  (by exact getit : Hold (OkMRecall P w K mg base) (by
    have S := scMRecall
    refine okM_a (m := 9) T.fMRecall S rfl rfl (fun _ _ _ _ _ _ us hl => match us, hl with | [_, _, _], _ => rfl) fun cdv A outer s H E hr => ⟨_,
      (pss_cons (ps_set (i := 3) S.nd rfl (Or.inl rfl) (pe_splitQ (pe_ix (k_ixT (K := K) rfl) (pe_callG h_Cut (hr.mono (by decide)) (pa_cons (pv 2) (pa_cons pe_int pa_nil))) pe_int (fun _ _ => rfl)) pe_str))
      (pss_cons (ps_set (i := 4) S.nd rfl (Or.inl rfl) (pe_callTy (k_tup (K := K) rfl) (by rfl) T.b_tuple (by decide +kernel) (pa_cons (pe_lc (own := [("part", 10)]) (tt := tYes) rfl S.nd (k_list (K := K) rfl (pv 3)) (blkOk_by (N := NMRecall) (sc := defScope mRecall) (by decide +kernel)) (fun _ _ _ _ _ => (pg_name (i := 10) S.nd rfl (Or.inl rfl))) (fun _ _ _ _ _ => pts_nil) (fun _ _ _ _ _ => (pe_callG h_NumberIn (hr.mono (by decide)) (pa_cons (pv 10) (pa_cons pe_int pa_nil))))) pa_nil)))
      (pss_cons (ps_set (i := 5) S.nd rfl (Or.inl rfl) (k_meth0 (K := K) rfl T.cl T.mHistory h_MHistory (hr.mono (by decide)) (pv 0)))
      (pss_cons (ps_if (pt_not (pt_val (pe_callG h_IsRecall (hr.mono (by decide)) (pa_cons (k_fld (K := K) rfl (pv 0)) (pa_cons (pv 5) (pa_cons (pv 4) pa_nil)))))) (pss_one ps_never) pss_nil)
      (pss_cons (ps_if (pt_cmpR (k_eq (K := K) rfl hr.units) (pv 1) pe_str (nomark _)) (pss_one (ps_ret (pe_lst (pa_cons (k_join (K := K) rfl pe_str (pe_op op_cat (pe_lst (pa_cons pe_str pa_nil)) (pe_lc (own := [("number", 11)]) (tt := tYes) rfl S.nd (k_tupI (K := K) rfl (pe_ix (k_ixT (K := K) rfl) (pe_callG h_Strike (hr.mono (by decide)) (pa_cons (k_fld (K := K) rfl (pv 0)) (pa_cons (pv 5) (pa_cons (pv 4) pa_nil)))) pe_int (fun _ _ => rfl))) (blkOk_by (N := NMRecall) (sc := defScope mRecall) (by decide +kernel)) (fun _ _ _ _ _ => (pg_name (i := 11) S.nd rfl (Or.inl rfl))) (fun _ _ _ _ _ => pts_nil) (fun _ _ _ _ _ => (pe_callTy call_strI (by rfl) T.b_str (by decide +kernel) (pa_cons (pv 11) pa_nil)))))) pa_nil)))) pss_nil)
      (pss_cons (ps_set (i := 6) S.nd rfl (Or.inl rfl) (pe_lst pa_nil))
      (pss_cons (ps_for PassesOwn.never rfl (k_tupI (K := K) rfl (pe_callG h_Refunds (hr.mono (by decide)) (pa_cons (k_fld (K := K) rfl (pv 0)) (pa_cons (pv 5) (pa_cons (pv 4) pa_nil))))) (k_ptup (K := K) 3 rfl rfl (pgs_cons (pg_name (i := 7) S.nd rfl (Or.inl rfl)) (pgs_cons (pg_name (i := 8) S.nd rfl (Or.inl rfl)) (pgs_cons (pg_name (i := 9) S.nd rfl (Or.inl rfl)) pgs_nil)))) (pss_one (ps_expr (k_app (K := K) rfl (pv 6) (pa_cons (pe_op op_addT (pe_op op_addT (pe_op op_addT (pe_op op_addT (pv 7) pe_str) (pv 8)) pe_str) (pe_callG h_PrintStock (hr.mono (by decide)) (pa_cons (k_fld (K := K) rfl (pv 0)) (pa_cons (pv 9) pa_nil)))) pa_nil)))))
      (pss_one (ps_ret (pe_ifExp (pt_cmpR op_gt (pe_callB (k_len (K := K) rfl) (by rfl) T.b_len (by decide +kernel) (pa_cons (pv 6) pa_nil)) pe_int (nomark _)) (pv 6) (pe_lst (pa_cons pe_str pa_nil)))))))))))), ?_⟩
    rintro ss μ P' ⟨A, b, h, rc, sk, rfl, rfl, B, Hh, R, p⟩
    have cl := T.cl
    have n1 := T.n_kept
    have hl := Hh.len
    have h0 : FreeS (recT sk) ∧ Asc (recT sk) ∧ (recT sk).length ≤ 40 := by
      cases sk
      · exact two_ok.2.1
      · exact two_ok.1
    obtain ⟨pc, pl⟩ := rc_words R hl h0
    have pco : PcOk (recT sk :: rc.map numT) := ⟨fun x hx => (pc x hx).1, fun x hx => (pc x hx).2.2⟩
    have pct : PcOk (rc.map numT) := ⟨fun x hx => pco.fs x (List.mem_cons_of_mem _ hx), fun x hx => pco.le x (List.mem_cons_of_mem _ hx)⟩
    have rne := R.ne
    have rl := R.len
    have jl := pc_join pct (by simp; omega)
    have K1 : (skRun b h rc h.length).struck.length ≤ h.length := (skok (rc := rc) B Hh h.length (Nat.le_refl _)).kn
    have K2 : ∀ i ∈ (skRun b h rc h.length).struck, i < h.length := struck_lt b h rc h.length
    have Rl := refunds_len (rc := rc) B Hh
    have Ra := refunds_ab (rc := rc) B Hh
    have Rp := refunds_pl (rc := rc) Hh
    generalize runW b h = wd at *
    refine ex_seqM (δ1 := [.val (.ref A.x), .dat (.str (recT sk)), .dat (.str (Txt.join spT (recT sk :: rc.map numT))), .dat (.list ((rc.map numT).map .str)), .any, .any, .any, .any, .any, .any, .any, .any]) (μ1 := seMu K A b h wd) ?_ ?_
    · walk_at "rds"
      refine ⟨rfl, [recT sk], rc.map numT, 1, rfl, rfl, by simpa using rne, pco, by show (recT sk :: rc.map numT).length ≤ 100; omega, ?_⟩
      walk_at "rds"
      refine ⟨by decide +kernel, sz_of (by omega), ?_⟩
      rw [show (Str.ofString " ") = spT from rfl, split_words (by simpa using rne) pct.fs]
      walk_at "rds"
      exact ⟨rfl, rfl⟩
    refine ex_seqM (δ1 := [.val (.ref A.x), .dat (.str (recT sk)), .dat (.str (Txt.join spT (recT sk :: rc.map numT))), .dat (.list ((rc.map numT).map .str)), .dat (stk rc), .any, .any, .any, .any, .any, .any, .any]) (μ1 := seMu K A b h wd) ?_ ?_
    · walk_at "rds"
      refine lcU rc (fun r => .str (numT r)) (fun r => .int r) (wg_name (by decide)) ?_
      walk_at "rds"
      refine ⟨by rw [List.map_map]; rfl, by omega, fun r hr => ?_, ?_⟩
      · have := rc_nums R hl r hr
        walk_at "rds"
        refine ⟨rfl, ?_⟩
        walk_at "rds"
        exact ⟨rfl, r, 0, rfl, by omega, by omega, by omega, .dat _, rfl⟩
      · walk_at "rds"
        exact ⟨rfl, rfl⟩
    walk_at "rds"
    refine cM [0, 1, 2, 3, 4] (by decide) ?_
    walk_at "rds"
    refine ⟨rfl, [_, _, _, _, _], rfl, A, b, h, wd, rfl, rfl, ?_⟩
    walk_at "rds"
    refine ⟨rfl, b, h, rc, rfl, R, ?_⟩
    walk_at "rds0"
    cases sk with
    | true =>
      change ExC K _ [.val (.ref A.x), .dat (.str stkT), .dat (.str (Txt.join spT (stkT :: rc.map numT))), .dat (.list ((rc.map numT).map .str)), .dat (stk rc), .dat (hD h), .any, .any, .any, .any, .any, .any] _ _
      walk_at "rds"
      refine lcU (skRun b h rc h.length).struck (fun (i : Nat) => .int i) (fun (i : Nat) => .str (numT i)) (wg_name (by decide)) ?_
      walk_at "rds"
      refine ⟨rfl, b, h, rc, rfl, B, Hh, fun x y => ?_⟩
      walk_at "rds"
      refine ⟨rfl, by omega, fun i hi => ?_, ?_⟩
      · have := K2 i hi
        walk_at "rds"
        refine ⟨rfl, ?_⟩
        walk_at "rds"
        refine ca_strI (num_log (by omega) (by omega)) ?_
        exact ⟨.dat _, rfl⟩
      rw [nat_num]
      refine op_catL (.lst _) (.lst _) (sz_of (by simp; omega)) ?_
      have wl : ∀ x ∈ strT :: (skRun b h rc h.length).struck.map (fun (i : Nat) => numT i), x.length ≤ 40 := fun x hx => by
        rcases List.mem_cons.mp hx with rfl | hx
        · exact two_ok.2.2.2.2.2
        · obtain ⟨i, hi, rfl⟩ := List.mem_map.mp hx
          have := K2 i hi
          exact (num_ok (x := (i : Int)) (by omega) (by omega)).2.2
      have h2 := sum_le _ wl
      have h3 : (strT :: (skRun b h rc h.length).struck.map (fun (i : Nat) => numT i)).length ≤ 61 := by simp; omega
      refine ⟨strT :: (skRun b h rc h.length).struck.map (fun (i : Nat) => numT i), .lst _, ?_, ?_⟩
      · show _ + _ * spT.length ≤ _
        rw [sp_len]
        omega
      walk_at "rds"
      have p : P' (.dat (.list [.str (strikeT b h rc)])) (seOb K A b h wd) [] := p
      walk_at "finA"
    | false =>
      change ExC K _ [.val (.ref A.x), .dat (.str rfdT), .dat (.str (Txt.join spT (rfdT :: rc.map numT))), .dat (.list ((rc.map numT).map .str)), .dat (stk rc), .dat (hD h), .any, .any, .any, .any, .any, .any] _ _
      walk_at "rds"
      refine ev_nilO fun al => ?_
      walk_at "rds"
      refine ⟨rfl, b, h, rc, rfl, B, Hh, ?_⟩
      walk_at "rds"
      have p : P' (.dat (.list ((orNone (refLs b h rc)).map .str))) (seOb K A b h wd) [] := p
      have rll : (refLs b h rc).length = (refundsF b h rc).length := by simp [refLs]
      refine ⟨fun m δ' μ' => (∃ z1 z2 z3, δ' = [.val (.ref A.x), .dat (.str rfdT), .dat (.str (Txt.join spT (rfdT :: rc.map numT))), .dat (.list ((rc.map numT).map .str)), .dat (stk rc), .dat (hD h), .val (.ref al), z1, z2, z3, .any, .any]) ∧ μ' = (al, .ls (((refLs b h rc).take m).map .str)) :: seMu K A b h wd, ⟨⟨_, _, _, rfl⟩, rfl⟩, fun m d δ' μ' hd hinv => ?_, fun δ' μ' hinv => ?_⟩
      · obtain ⟨⟨z1, z2, z3, rfl⟩, rfl⟩ := hinv
        obtain ⟨⟨⟨s, u⟩, st⟩, hq, rfl⟩ := of_map hd
        have hm := List.mem_of_getElem? hq
        have N := Rp _ hm
        have AB := Ra _ hm
        have hml := (List.getElem?_eq_some_iff.mp hq).1
        have pr : (printF b.ks st).length ≤ 400 := print_len B AB
        have N1 : s.length ≤ 12 := N.1.le
        have N2 : u.length ≤ 12 := N.2.le
        have hg : (refLs b h rc)[m]? = some (refL b ((s, u), st)) := by
          unfold refLs
          rw [List.getElem?_map, hq]
          rfl
        walk_at "rds"
        refine op_tt (sz_of (by show s.length + spT.length ≤ _; rw [sp_len]; omega)) ?_
        walk_at "rds"
        refine op_tt (sz_of (by rw [len_app]; show s.length + spT.length + u.length ≤ _; rw [sp_len]; omega)) ?_
        walk_at "rds"
        refine op_tt (sz_of (by rw [len_app, len_app]; show s.length + spT.length + u.length + spT.length ≤ _; rw [sp_len]; omega)) ?_
        walk_at "rds"
        refine ⟨rfl, b, st, rfl, B, AB, ?_⟩
        refine op_tt (sz_of (by rw [len_app, len_app, len_app]; show s.length + spT.length + u.length + spT.length + _ ≤ _; rw [sp_len]; omega)) ?_
        walk_at "rds"
        refine ⟨0, ((refLs b h rc).take m).map .str, _, ⟨_, rfl, .dat _⟩, rfl, sz_lt (by simp; omega), ?_⟩
        exact ⟨⟨_, _, _, rfl⟩, by rw [take_get hg, List.map_append]; rfl⟩
      · obtain ⟨⟨z1, z2, z3, rfl⟩, rfl⟩ := hinv
        rw [List.length_map, ← rll, List.take_length]
        unfold orNone at p
        walk_at "rds0"
        refine ev_ifP (decide (refLs b h rc ≠ [])) ?_ (fun hb => ?_) (fun hb => ?_)
        · walk_at "rds"
          refine ⟨?_, rfl⟩
          cases refLs b h rc with
          | nil => rfl
          | cons _ _ => simp
        · rw [if_neg (of_decide_eq_true hb)] at p
          refine ev_varF (j := 0) rfl rfl ?_
          walk_at "finA"
        · rw [if_pos (Decidable.not_not.mp (of_decide_eq_false hb))] at p
          walk_at "rds"
          walk_at "finA"))
/-! ## F14 -/
open TL (tl)
theorem join_one (x : Str) : Txt.join spT [x] = x := by
  apply TL.ext_tl
  rw [join_tl]
  rfl
theorem two_ne {a c y : Str} {r : List Str} (h : FreeS y) : Txt.join spT (a :: c :: r) ≠ y := fun e => by
  have := congrArg tl e
  rw [join_tl, tl_sp] at this
  refine h ?_
  rw [← this]
  exact List.mem_append_right _ (List.mem_append_left _ List.mem_cons_self)
theorem lw_kd (b : Bk) (e : Ev) : ∃ x r, lw b e = e.kd :: x :: r := by
  cases e <;> exact ⟨_, _, rfl⟩
theorem kd_in (e : Ev) : e.kd ∈ ([("make" : Str), "hand", "send", "land", "forge"]) := by
  cases e <;> simp
def aAnswer (K : PySem.W.Frag) : ASp := fun ss μ P => ∃ A b h line res h', ss = [.val (.ref A.x), .dat (.str line)] ∧ μ = seMu K A b h (runW b h) ∧ BkOk b ∧ Hist b h ∧ Ans b h line res h' ∧ P (.dat (.list (res.map .str))) (seOb K A b h' (runW b h')) []
abbrev NMAnswer : List Str := ["self", "line", "word"]
theorem scMAnswer : FnScope NMAnswer ["self", "line"] (defScope mAnswer) := ⟨rfl, rfl, rfl, by decide +kernel, rfl, by decide +kernel, by decide +kernel⟩
abbrev OkMAnswer (P : Program) (w : World) (K : PySem.W.Frag) (mg : Str → Option Value) (base : Heap) : Prop := OkM P w K mg base "answer" 7 ["self", "line"] (spA K 2 (aAnswer K))
theorem ok_MAnswer {P : Program} {w : World} {K : PySem.W.Frag} {mg : Str → Option Value} {base : Heap} (T : Tx K mg) (h_MEvent : OkMEvent P w K mg base) (h_MHolding : OkMHolding P w K mg base) (h_MRecall : OkMRecall P w K mg base) (h_MWayLines : OkMWayLines P w K mg base) : OkMAnswer P w K mg base :=
  (by exact getit : Hold (OkMAnswer P w K mg base) (by
    have S := scMAnswer
    refine okM_a (m := 1) T.fMAnswer S rfl rfl (fun _ _ _ _ _ _ us hl => match us, hl with | [_, _], _ => rfl) fun cdv A outer s H E hr => ⟨_,
      (pss_cons (ps_set (i := 2) S.nd rfl (Or.inl rfl) (pe_ix (k_ixL (K := K) rfl) (pe_splitQ (pv 1) pe_str) pe_int (fun _ _ => rfl)))
      (pss_cons (ps_if (pt_cmpR (k_in (K := K) rfl) (pv 2) (pe_tup (pa_cons pe_str (pa_cons pe_str (pa_cons pe_str (pa_cons pe_str (pa_cons pe_str pa_nil)))))) (by rfl)) (pss_one (ps_ret (k_meth (K := K) rfl T.cl T.mEvent h_MEvent (hr.mono (by decide)) (pv 0) (pa_cons (pv 2) (pa_cons (pv 1) pa_nil))))) pss_nil)
      (pss_cons (ps_if (pt_cmpR (k_eq (K := K) rfl hr.units) (pv 1) pe_str (nomark _)) (pss_one (ps_ret (k_meth0 (K := K) rfl T.cl T.mWayLines h_MWayLines (hr.mono (by decide)) (pv 0)))) pss_nil)
      (pss_cons (ps_if (pt_cmpR (k_eq (K := K) rfl hr.units) (pv 2) pe_str (nomark _)) (pss_one (ps_ret (k_meth (K := K) rfl T.cl T.mHolding h_MHolding (hr.mono (by decide)) (pv 0) (pa_cons (pv 1) pa_nil)))) pss_nil)
      (pss_cons (ps_if (PW.pt (pw_or (pt_cmpR (k_eq (K := K) rfl hr.units) (pv 2) pe_str (nomark _)) (pw_or1 (pt_cmpR (k_eq (K := K) rfl hr.units) (pv 2) pe_str (nomark _))))) (pss_one (ps_ret (k_meth (K := K) rfl T.cl T.mRecall h_MRecall (hr.mono (by decide)) (pv 0) (pa_cons (pv 2) (pa_cons (pv 1) pa_nil))))) pss_nil)
      (pss_cons (ps_if (pt_cmpR (k_eq (K := K) rfl hr.units) (pv 2) pe_str (nomark _)) (pss_one ps_never) pss_nil)
      (pss_cons (ps_if (pt_cmpR (k_eq (K := K) rfl hr.units) (pv 2) pe_str (nomark _)) (pss_one ps_never) pss_nil)
      (pss_cons (ps_if (pt_cmpR (k_eq (K := K) rfl hr.units) (pv 2) pe_str (nomark _)) (pss_one ps_never) pss_nil)
      (pss_cons (ps_if (pt_cmpR (k_eq (K := K) rfl hr.units) (pv 2) pe_str (nomark _)) (pss_one ps_never) pss_nil)
      (pss_one ps_never)))))))))), ?_⟩
    rintro ss μ P' ⟨A, b, h, line, res, h', rfl, rfl, B, Hh, X, p⟩
    have W := Hh.wd' B
    have hl := Hh.len
    -- the line's words
    have key : ∃ w0 ws, line = Txt.join spT (w0 :: ws) ∧ (∀ x ∈ w0 :: ws, FreeS x ∧ Asc x ∧ x.length ≤ 40) ∧ (w0 :: ws).length ≤ 100 := by
      cases X with
      | ev e O hl =>
        have Es := evs_of B W O (by omega)
        obtain ⟨L1, L2⟩ := lw_ok B O.ev Es
        obtain ⟨x, r, e1⟩ := lw_kd b e
        refine ⟨e.kd, x :: r, by unfold lineF; rw [e1], ?_, ?_⟩
        · rw [← e1]; exact L1
        · rw [← e1]; omega
      | way => exact ⟨wayT, [], (join_one _).symm, fun x hx => (by rw [List.mem_singleton.mp hx]; exact two_ok.2.2.1), by simp⟩
      | hold s u N1 N2 => exact ⟨holdT, [s, u], rfl, hold_pc N1 N2, by simp⟩
      | strike rc R =>
        obtain ⟨a1, a2⟩ := rc_words R hl two_ok.1
        exact ⟨stkT, rc.map numT, rfl, a1, by omega⟩
      | refunds rc R =>
        obtain ⟨a1, a2⟩ := rc_words R hl two_ok.2.1
        exact ⟨rfdT, rc.map numT, rfl, a1, by omega⟩
    obtain ⟨w0, ws, el, pc, pl⟩ := key
    have jl := pc_join (ws := w0 :: ws) ⟨fun x hx => (pc x hx).1, fun x hx => (pc x hx).2.2⟩ pl
    have la : Asc line := by rw [el]; exact join_asc asc_sp fun x hx => (pc x hx).2.1
    have sp : Txt.split line spT = w0 :: ws := by rw [el]; exact split_words (by simp) fun x hx => (pc x hx).1
    refine ex_seqM (δ1 := [.val (.ref A.x), .dat (.str line), .dat (.str w0)]) (μ1 := seMu K A b h (runW b h)) ?_ ?_
    · walk_at "rds"
      refine ⟨by decide +kernel, sz_of (by rw [el]; omega), ?_⟩
      rw [show (Str.ofString " ") = spT from rfl, sp]
      walk_at "rds"
      refine op_ixL (show atI ((w0 :: ws).map PyData.str) ((0 : Nat) : Int) = some (.str w0) from at_map rfl) ?_
      walk_at "rds"
      exact ⟨rfl, rfl⟩
    have w0e : ∀ x, (∃ ys, line = Txt.join spT (x :: ys) ∧ ∀ y ∈ x :: ys, FreeS y) → w0 = x := fun x ⟨ys, e, f⟩ => by
      have h1 : Txt.split line spT = x :: ys := by rw [e]; exact split_words (by simp) f
      rw [sp] at h1
      injection h1
    cases X with
    | ev e O hl =>
      have Es := evs_of B W O (by omega)
      have e0 : w0 = e.kd := w0e _ (by
        obtain ⟨x, r, e1⟩ := lw_kd b e
        refine ⟨x :: r, by unfold lineF; rw [e1], fun y hy => ?_⟩
        rw [← e1] at hy
        exact ((lw_ok B O.ev Es).1 y hy).1)
      subst e0
      walk_at "rds"
      refine op_inT (ns := [("make" : Str), "hand", "send", "land", "forge"]) (.tup _) ?_
      walk_at "rds"
      rw [if_neg (by decide), decide_eq_true (kd_in e)]
      walk_at "rds"
      refine cM [0, 1, 2, 3, 4] (by decide) ?_
      walk_at "rds"
      refine ⟨rfl, [_, _, _, _, _], rfl, A, b, h, e, rfl, rfl, B, Hh, O, hl, ?_⟩
      have p : P' (.dat (.list [.str (evT ++ numT h.length)])) (seOb K A b (h ++ [e]) (runW b (h ++ [e]))) [] := p
      walk_at "finA"
    | way =>
      have e0 : w0 = wayT := w0e _ ⟨[], (join_one _).symm, fun y hy => by rw [List.mem_singleton.mp hy]; exact two_ok.2.2.1.1⟩
      subst e0
      walk_at "rds"
      refine op_inT (ns := [("make" : Str), "hand", "send", "land", "forge"]) (.tup _) ?_
      walk_at "rds"
      refine cM [0, 1, 2, 3, 4] (by decide) ?_
      walk_at "rds"
      refine ⟨rfl, [_, _, _, _, _], rfl, A, b, h, rfl, rfl, B, Hh, ?_⟩
      walk_at "finA"
    | hold s u N1 N2 =>
      have e0 : w0 = "holding" := w0e _ ⟨[s, u], rfl, fun y hy => (hold_pc N1 N2 y hy).1⟩
      subst e0
      have nw : Txt.join spT [holdT, s, u] ≠ wayT := two_ne two_ok.2.2.1.1
      have lo := la.ok
      walk_at "rds"
      refine op_inT (ns := [("make" : Str), "hand", "send", "land", "forge"]) (.tup _) ?_
      walk_at "rds"
      rw [decide_eq_false (show ¬ Txt.join spT [holdT, s, u] = Str.ofString "way" from nw)]
      walk_at "rds"
      refine cM [0, 1, 2, 3, 4] (by decide) ?_
      walk_at "rds"
      refine ⟨rfl, [_, _, _, _, _], rfl, A, b, h, s, u, rfl, rfl, B, Hh, N1, N2, ?_⟩
      have p : P' (.dat (.list [.str (printF b.ks (getH (runW b h).held (s, u) b.n))])) (seOb K A b h (runW b h)) [] := p
      walk_at "finA"
    | strike rc R =>
      have e0 : w0 = "strike" := w0e _ ⟨rc.map numT, rfl, fun y hy => ((rc_words R hl two_ok.1).1 y hy).1⟩
      subst e0
      obtain ⟨r0, rr, er⟩ : ∃ r0 rr, rc = r0 :: rr := by
        cases rc with
        | nil => exact absurd rfl R.ne
        | cons a r => exact ⟨a, r, rfl⟩
      have nw : Txt.join spT (stkT :: rc.map numT) ≠ wayT := by rw [er]; exact two_ne two_ok.2.2.1.1
      have lo := la.ok
      walk_at "rds"
      refine op_inT (ns := [("make" : Str), "hand", "send", "land", "forge"]) (.tup _) ?_
      walk_at "rds"
      rw [decide_eq_false (show ¬ Txt.join spT (stkT :: rc.map numT) = Str.ofString "way" from nw)]
      walk_at "rds"
      refine cM [0, 1, 2, 3, 4] (by decide) ?_
      walk_at "rds"
      refine ⟨rfl, [_, _, _, _, _], rfl, A, b, h, rc, true, rfl, rfl, B, Hh, R, ?_⟩
      walk_at "finA"
    | refunds rc R =>
      have e0 : w0 = "refunds" := w0e _ ⟨rc.map numT, rfl, fun y hy => ((rc_words R hl two_ok.2.1).1 y hy).1⟩
      subst e0
      obtain ⟨r0, rr, er⟩ : ∃ r0 rr, rc = r0 :: rr := by
        cases rc with
        | nil => exact absurd rfl R.ne
        | cons a r => exact ⟨a, r, rfl⟩
      have nw : Txt.join spT (rfdT :: rc.map numT) ≠ wayT := by rw [er]; exact two_ne two_ok.2.2.1.1
      have lo := la.ok
      walk_at "rds"
      refine op_inT (ns := [("make" : Str), "hand", "send", "land", "forge"]) (.tup _) ?_
      walk_at "rds"
      rw [decide_eq_false (show ¬ Txt.join spT (rfdT :: rc.map numT) = Str.ofString "way" from nw)]
      walk_at "rds"
      refine cM [0, 1, 2, 3, 4] (by decide) ?_
      walk_at "rds"
      refine ⟨rfl, [_, _, _, _, _], rfl, A, b, h, rc, false, rfl, rfl, B, Hh, R, ?_⟩
      walk_at "finA"))
abbrev NMEnter : List Str := ["self", "line", "e"]
theorem scMEnter : FnScope NMEnter ["self", "line"] (defScope mEnter) := ⟨rfl, rfl, rfl, by decide +kernel, rfl, by decide +kernel, by decide +kernel⟩
abbrev OkMEnter (P : Program) (w : World) (K : PySem.W.Frag) (mg : Str → Option Value) (base : Heap) : Prop := OkM P w K mg base "enter" 8 ["self", "line"] (spA K 2 (aAnswer K))
theorem ok_MEnter {P : Program} {w : World} {K : PySem.W.Frag} {mg : Str → Option Value} {base : Heap} (T : Tx K mg) (h_MAnswer : OkMAnswer P w K mg base) : OkMEnter P w K mg base :=
  (by exact getit : Hold (OkMEnter P w K mg base) (by
    have S := scMEnter
    refine okM_a (m := 1) T.fMEnter S rfl rfl (fun _ _ _ _ _ _ us hl => match us, hl with | [_, _], _ => rfl) fun cdv A outer s H E hr => ⟨_,
      (pss_one (ps_try_thru0 (pss_one (ps_ret (k_meth (K := K) rfl T.cl T.mAnswer h_MAnswer (hr.mono (by decide)) (pv 0) (pa_cons (pv 1) pa_nil)))))), ?_⟩
    rintro ss μ P' ⟨A, b, h, line, res, h', rfl, rfl, B, Hh, X, p⟩
    walk_at "rds"
    refine cM [0, 1, 2, 3, 4] (by decide) ?_
    walk_at "rds"
    refine ⟨rfl, [_, _, _, _, _], rfl, A, b, h, line, res, h', rfl, rfl, B, Hh, X, ?_⟩
    walk_at "finA"))
/-! ## F15 -/
def fMix : PSp := fun ss P => ∃ (x y : Int), ss = [.dat (.int x), .dat (.int y)] ∧ ∀ z : Int, P (.dat (.int z))
abbrev NLMix : List Str := ["_law_first", "_law_second", "_law_value"]
theorem scLMix : FnScope NLMix ["_law_first", "_law_second"] (defScope sLMix) := ⟨rfl, rfl, rfl, by decide +kernel, rfl, by decide +kernel, by decide +kernel⟩
abbrev OkLMix (P : Program) (w : World) (K : PySem.W.Frag) (mg : Str → Option Value) (base : Heap) : Prop := OkG P w K mg base "_law_mix" 1 ["_law_first", "_law_second"] (spP K 2 fMix)
theorem ok_LMix {P : Program} {w : World} {K : PySem.W.Frag} {mg : Str → Option Value} {base : Heap} (T : Tx K mg)  : OkLMix P w K mg base :=
  (by exact getit : Hold (OkLMix P w K mg base) (by
    have S := scLMix
    refine okG_p (m := 1) T.gLMix T.fLMix S rfl rfl (fun _ _ _ _ _ _ us hl => match us, hl with | [_, _], _ => rfl) fun cdv A outer s H E hr => ⟨_,
      (pss_cons (ps_set (i := 2) S.nd rfl (Or.inl rfl) (pe_op op_mod (pe_callTy call_int1Q (by rfl) T.b_int (by decide +kernel) (pa_cons (pe_op op_add (pe_op op_add (pe_op op_mul (pv 0) pe_int) (pe_op op_mul (pv 1) pe_int)) pe_int) pa_nil)) pe_int))
      (pss_one (ps_ret (pe_op op_mod (pe_callTy call_int1Q (by rfl) T.b_int (by decide +kernel) (pa_cons (pe_op op_add (pe_op op_add (pe_op op_mul (pv 2) pe_int) (pe_op op_mul (pv 1) pe_int)) pe_int) pa_nil)) pe_int)))), ?_⟩
    rintro ss P' ⟨x, y, rfl, p⟩
    walk_at "rds"
    exact ⟨_, .refl _, p _⟩))
theorem cutD_map {α β : Type} (f : α → β) (l : List α) (a b : Option Int) : cutD (l.map f) a b = (cutD l a b).map f := by
  unfold cutD
  rw [List.length_map, List.map_take, List.map_drop]
theorem cutD_len {α : Type} (l : List α) (a b : Option Int) : (cutD l a b).length ≤ l.length := by
  unfold cutD
  rw [List.length_take, List.length_drop]
  omega
def fNumbers : PSp := fun ss P => ∃ ns, ss = [.scr ns, .dat (.int 480)] ∧ ns.length ≤ 63 ∧ ∀ r : List Int, r ≠ [] → r.length ≤ 1000 → P (.dat (.list (r.map .int)))
abbrev NLNumbers : List Str := ["_law_script", "_law_count", "_law_found", "_law_total", "_law_cell", "_law_number", "_law_k"]
theorem scLNumbers : FnScope NLNumbers ["_law_script", "_law_count"] (defScope sLNumbers) := ⟨rfl, rfl, rfl, by decide +kernel, rfl, by decide +kernel, by decide +kernel⟩
abbrev OkLNumbers (P : Program) (w : World) (K : PySem.W.Frag) (mg : Str → Option Value) (base : Heap) : Prop := OkG P w K mg base "_law_numbers" 2 ["_law_script", "_law_count"] (spP K 2 fNumbers)
theorem ok_LNumbers {P : Program} {w : World} {K : PySem.W.Frag} {mg : Str → Option Value} {base : Heap} (T : Tx K mg) (h_LMix : OkLMix P w K mg base) : OkLNumbers P w K mg base :=
  (by exact getit : Hold (OkLNumbers P w K mg base) (by
    have S := scLNumbers
    refine okG_p (m := 5) T.gLNumbers T.fLNumbers S rfl rfl (fun _ _ _ _ _ _ us hl => match us, hl with | [_, _], _ => rfl) fun cdv A outer s H E hr => ⟨_,
      (pss_cons (ps_set (i := 2) S.nd rfl (Or.inl rfl) (pe_lst pa_nil))
      (pss_cons (ps_set (i := 3) S.nd rfl (Or.inl rfl) (pe_op op_add (pe_callB (k_len (K := K) rfl) (by rfl) T.b_len (by decide +kernel) (pa_cons (pv 0) pa_nil)) pe_int))
      (pss_cons (ps_for PassesOwn.never rfl (k_list (K := K) rfl (pe_slice (k_slL (K := K) rfl) (pv 0) po_none (po_some pe_int))) (pg_name (i := 4) S.nd rfl (Or.inl rfl)) (pss_cons (ps_set (i := 5) S.nd rfl (Or.inl rfl) (pe_callB call_absQ (by rfl) T.b_abs (by decide +kernel) (pa_cons (pv 4) pa_nil)))
      (pss_cons (ps_set (i := 3) S.nd rfl (Or.inl rfl) (pe_callG h_LMix (hr.mono (by decide)) (pa_cons (pv 3) (pa_cons (pe_op op_mod (pe_callTy call_int1Q (by rfl) T.b_int (by decide +kernel) (pa_cons (pv 5) pa_nil)) pe_int) pa_nil))))
      (pss_one (ps_if (pt_cmpR op_ge (pv 5) (pe_op op_pow pe_int pe_int) (nomark _)) (pss_one (ps_for PassesOwn.never rfl (pi_range1 (by rfl) T.b_range (pa_cons pe_int pa_nil)) (pg_name (i := 6) S.nd rfl (Or.inl rfl)) (pss_one (ps_if (pt_cmpR op_gt (pv 5) pe_int (nomark _)) (pss_cons (ps_expr (k_app (K := K) rfl (pv 2) (pa_cons (pe_op op_mod (pe_callTy call_int1Q (by rfl) T.b_int (by decide +kernel) (pa_cons (pv 5) pa_nil)) pe_int) pa_nil)))
      (pss_one (ps_set (i := 5) S.nd rfl (Or.inl rfl) (pe_op op_fdiv (pv 5) pe_int)))) pss_nil)))) (pss_one (ps_for PassesOwn.never rfl (pi_range1 (by rfl) T.b_range (pa_cons pe_int pa_nil)) (pg_name (i := 6) S.nd rfl (Or.inl rfl)) (pss_one (ps_expr (k_app (K := K) rfl (pv 2) (pa_cons (pe_op op_mod (pe_callTy call_int1Q (by rfl) T.b_int (by decide +kernel) (pa_cons (pe_callG h_LMix (hr.mono (by decide)) (pa_cons (pv 5) (pa_cons (pe_op op_add (pv 6) pe_int) pa_nil))) pa_nil)) pe_int) pa_nil)))))))))))
      (pss_cons (ps_for PassesOwn.never rfl (pi_range1 (by rfl) T.b_range (pa_cons (pv 1) pa_nil)) (pg_name (i := 6) S.nd rfl (Or.inl rfl)) (pss_one (ps_if (pt_cmpR op_lt (pe_callB (k_len (K := K) rfl) (by rfl) T.b_len (by decide +kernel) (pa_cons (pv 2) pa_nil)) (pv 1) (nomark _)) (pss_cons (ps_set (i := 3) S.nd rfl (Or.inl rfl) (pe_callG h_LMix (hr.mono (by decide)) (pa_cons (pv 3) (pa_cons (pe_op op_add (pv 6) pe_int) pa_nil))))
      (pss_one (ps_expr (k_app (K := K) rfl (pv 2) (pa_cons (pe_op op_mod (pe_callTy call_int1Q (by rfl) T.b_int (by decide +kernel) (pa_cons (pv 3) pa_nil)) pe_int) pa_nil))))) pss_nil)))
      (pss_one (ps_ret (pe_slice (k_slL (K := K) rfl) (pv 2) po_none (po_some (pv 1))))))))), ?_⟩
    rintro ss P' ⟨ns, rfl, hl, p⟩
    walk_at "rds"
    refine ev_nilO fun af => ?_
    walk_at "rds"
    rw [cutD_map]
    have cl := cutD_len ns none (some 63)
    generalize cutD ns none (some 63) = cells at *
    walk_at "rds"
    refine ⟨fun k δ' μ' => (∃ z4 z5 z6 tot, ∃ l : List Int, δ' = [.scr ns, .dat (.int 480), .val (.ref af), .dat (.int tot), z4, z5, z6] ∧ μ' = [(af, .ls (l.map .int))] ∧ l.length ≤ 60 * k), ⟨_, _, _, _, [], rfl, rfl, Nat.zero_le _⟩, fun k d δ' μ' hd hinv => ?_, fun δ' μ' hinv => ?_⟩
    · obtain ⟨z4, z5, z6, tot, l, rfl, rfl, ll⟩ := hinv
      obtain ⟨c, hc, rfl⟩ := of_map hd
      have hk := (List.getElem?_eq_some_iff.mp hc).1
      walk_at "rds"
      generalize (if c < 0 then -c else c) = num
      refine ⟨rfl, _, _, rfl, fun tot => ?_⟩
      walk_at "rds"
      refine ⟨fun _ => ?_, fun _ => ?_⟩
      · walk_at "rds"
        refine ⟨by decide, ?_⟩
        refine ⟨fun j δ' μ' => (∃ z6 num, ∃ l' : List Int, δ' = [.scr ns, .dat (.int 480), .val (.ref af), .dat (.int tot), .dat (.int c), .dat (.int num), z6] ∧ μ' = [(af, .ls (l'.map .int))] ∧ l'.length ≤ l.length + j), ⟨_, _, l, rfl, rfl, Nat.le_refl _⟩, fun j d δ' μ' hd hinv => ?_, fun δ' μ' hinv => ?_⟩
        · obtain ⟨z6, num, l', rfl, rfl, ll'⟩ := hinv
          obtain ⟨hj, rfl⟩ := range0 hd
          have hj : j < 60 := hj
          walk_at "rds"
          refine ⟨fun _ => ?_, fun _ => ?_⟩
          · walk_at "rds"
            refine ⟨0, l'.map .int, _, ⟨_, rfl, .dat _⟩, rfl, sz_lt (by simp; omega), ?_⟩
            walk_at "rds"
            exact ⟨_, _, l' ++ [num % 1000], rfl, by rw [List.map_append]; rfl, by simp; omega⟩
          · walk_at "rds"
            exact ⟨_, _, l', rfl, rfl, by omega⟩
        · obtain ⟨z6, num, l', rfl, rfl, ll'⟩ := hinv
          rw [rangeD_len] at ll'
          have ll' : l'.length ≤ l.length + 60 := ll'
          exact ⟨_, _, _, _, l', rfl, rfl, by omega⟩
      · walk_at "rds"
        refine ⟨by decide, ?_⟩
        refine ⟨fun j δ' μ' => (∃ z6, ∃ l' : List Int, δ' = [.scr ns, .dat (.int 480), .val (.ref af), .dat (.int tot), .dat (.int c), .dat (.int num), z6] ∧ μ' = [(af, .ls (l'.map .int))] ∧ l'.length ≤ l.length + j), ⟨_, l, rfl, rfl, Nat.le_refl _⟩, fun j d δ' μ' hd hinv => ?_, fun δ' μ' hinv => ?_⟩
        · obtain ⟨z6, l', rfl, rfl, ll'⟩ := hinv
          obtain ⟨hj, rfl⟩ := range0 hd
          have hj : j < 6 := hj
          walk_at "rds"
          refine ⟨rfl, _, _, rfl, fun z => ?_⟩
          walk_at "rds"
          refine ⟨0, l'.map .int, _, ⟨_, rfl, .dat _⟩, rfl, sz_lt (by simp; omega), ?_⟩
          exact ⟨_, l' ++ [z % 1000], rfl, by rw [List.map_append]; rfl, by simp; omega⟩
        · obtain ⟨z6, l', rfl, rfl, ll'⟩ := hinv
          rw [rangeD_len] at ll'
          have ll' : l'.length ≤ l.length + 6 := ll'
          exact ⟨_, _, _, _, l', rfl, rfl, by omega⟩
    · obtain ⟨z4, z5, z6, tot, l, rfl, rfl, ll⟩ := hinv
      rw [List.length_map] at ll
      have ll : l.length ≤ 4000 := by omega
      walk_at "rds"
      refine ⟨by decide, ?_⟩
      refine ⟨fun j δ' μ' => (∃ z4 z5 z6 tot, ∃ l' : List Int, δ' = [.scr ns, .dat (.int 480), .val (.ref af), .dat (.int tot), z4, z5, z6] ∧ μ' = [(af, .ls (l'.map .int))] ∧ l'.length ≤ 4000 + j ∧ (j ≤ l'.length ∨ 480 ≤ l'.length)), ⟨_, _, _, _, l, rfl, rfl, ll, .inl (Nat.zero_le _)⟩, fun j d δ' μ' hd hinv => ?_, fun δ' μ' hinv => ?_⟩
      · obtain ⟨z4, z5, z6, tot, l', rfl, rfl, ll', lo⟩ := hinv
        obtain ⟨hj, rfl⟩ := range0 hd
        have hj : j < 480 := hj
        walk_at "rds"
        refine ⟨fun hb => ?_, fun hb => ?_⟩
        · walk_at "rds"
          refine ⟨rfl, _, _, rfl, fun z => ?_⟩
          walk_at "rds"
          refine ⟨0, l'.map .int, _, ⟨_, rfl, .dat _⟩, rfl, sz_lt (by simp; omega), ?_⟩
          exact ⟨_, _, _, _, l' ++ [z % 1000], rfl, by rw [List.map_append]; rfl, by simp; omega, by simp; omega⟩
        · walk_at "rds"
          have := of_decide_eq_false hb
          exact ⟨_, _, _, _, l', rfl, rfl, by omega, by omega⟩
      · obtain ⟨z4, z5, z6, tot, l', rfl, rfl, ll', lo⟩ := hinv
        rw [rangeD_len] at ll' lo
        have ll' : l'.length ≤ 4000 + 480 := ll'
        have lo : 480 ≤ l'.length ∨ 480 ≤ l'.length := lo
        walk_at "rds"
        refine ⟨l'.map .int, .own (by walk_at "mem"), ?_⟩
        refine ⟨_, .refl _, ?_⟩
        have e : cutD (l'.map PyData.int) none (some 480) = (l'.take 480).map .int := by
          rw [cutD_map]
          unfold cutD
          rw [HT.sIx_none, show (some (480 : Int)) = some ((480 : Nat) : Int) from rfl, HT.sIx_nat, List.drop_zero, Nat.sub_zero]
          congr 1
          rw [Nat.min_eq_left (by omega)]
        rw [e]
        refine p _ (fun z => ?_) (by rw [List.length_take]; omega)
        have := congrArg List.length z
        rw [List.length_take] at this
        have this : min 480 l'.length = 0 := this
        omega))
/-! ### the draws -/
abbrev drO (n : Int) (r : List Int) : Ob := .dk [((.inr "at" : Key), .int n), (.inr "row", .list (r.map .int))]
def Dr (ob : Ob) : Prop := ∃ n r, ob = drO n r ∧ r ≠ [] ∧ 0 ≤ n ∧ r.length ≤ 1000
def aDraws : ASp := fun ss μ P => ∃ ns, ss = [.scr ns, .dat (.int 480)] ∧ μ = [] ∧ ns.length ≤ 63 ∧ ∀ d ob, Dr ob → P (.val (.ref d)) [] [(d, ob)]
abbrev NLDraws : List Str := ["_law_script", "_law_count"]
theorem scLDraws : FnScope NLDraws ["_law_script", "_law_count"] (defScope sLDraws) := ⟨rfl, rfl, rfl, by decide +kernel, rfl, by decide +kernel, by decide +kernel⟩
abbrev OkLDraws (P : Program) (w : World) (K : PySem.W.Frag) (mg : Str → Option Value) (base : Heap) : Prop := OkG P w K mg base "_law_draws" 3 ["_law_script", "_law_count"] (spA K 2 aDraws)
theorem ok_LDraws {P : Program} {w : World} {K : PySem.W.Frag} {mg : Str → Option Value} {base : Heap} (T : Tx K mg) (h_LNumbers : OkLNumbers P w K mg base) : OkLDraws P w K mg base :=
  (by exact getit : Hold (OkLDraws P w K mg base) (by
    have S := scLDraws
    refine okG_a (m := 0) T.gLDraws T.fLDraws S rfl rfl (fun _ _ _ _ _ _ us hl => match us, hl with | [_, _], _ => rfl) fun cdv A outer s H E hr => ⟨_,
      (pss_one (ps_ret (pe_disp (pps_cons pe_str pe_int (pps_cons pe_str (pe_callG h_LNumbers (hr.mono (by decide)) (pa_cons (pv 0) (pa_cons (pv 1) pa_nil))) pps_nil)) (by rfl) (by rfl) (fun z => by cases z) (by decide)))), ?_⟩
    rintro ss μ P' ⟨ns, rfl, rfl, hl, p⟩
    walk_at "rds"
    refine ev_disp2 ?_
    walk_at "rds"
    refine ⟨rfl, ns, rfl, hl, fun r rn rl => ⟨_, _, .dat _, .dat _, by decide +kernel, fun d => ?_⟩⟩
    have p := p d _ ⟨0, r, rfl, rn, Int.le_refl _, rl⟩
    refine' ⟨?o, ?n, ?hl, ?hs, ?hp⟩
    case hp => exact p
    case hl => rfl
    case hs => exact List.Sublist.refl _))
theorem dr_row {μ : Mu} {d : Addr} {n : Int} {r : List Int} (m : (d, drO n r) ∈ μ) : DicS μ d (.str "row") (some (.list (r.map .int))) := by
  have h : DicS μ d (keyD (.inr "row")) (valD [((.inr "at" : Key), PyData.int n), (.inr "row", .list (r.map .int))] (.inr "row")) := DicS.k _ m
  rw [show valD [((.inr "at" : Key), PyData.int n), (.inr "row", .list (r.map .int))] (.inr "row") = some (.list (r.map .int)) by rw [valD_cons, if_neg (show ¬ ((.inr "at" : Key) = .inr "row") by decide +kernel), valD_cons, if_pos rfl]] at h
  exact h
theorem dr_at {μ : Mu} {d : Addr} {n : Int} {r : List Int} (m : (d, drO n r) ∈ μ) : DicS μ d (.str "at") (some (.int n)) := by
  have h : DicS μ d (keyD (.inr "at")) (valD [((.inr "at" : Key), PyData.int n), (.inr "row", .list (r.map .int))] (.inr "at")) := DicS.k _ m
  rw [show valD [((.inr "at" : Key), PyData.int n), (.inr "row", .list (r.map .int))] (.inr "at") = some (.int n) by rw [valD_cons, if_pos rfl]] at h
  exact h
theorem dr_put {n m : Int} {r : List Int} : putD [((.inr "at" : Key), PyData.int n), (.inr "row", .list (r.map .int))] (.inr "at") (.int m) = [((.inr "at" : Key), PyData.int m), (.inr "row", .list (r.map .int))] := by
  unfold putD
  have h1 : ¬ ((.inr "row" : Key) = .inr "at") := by decide +kernel
  rw [if_pos (by rw [List.any_cons, decide_eq_true rfl]; rfl)]
  simp [h1]
def aTake : ASp := fun ss μ P => ∃ d ob b, ss = [.val (.ref d), .dat (.int b)] ∧ μ = [(d, ob)] ∧ Dr ob ∧ 1 ≤ b ∧ ∀ x ob', Dr ob' → 0 ≤ x → x < b → P (.dat (.int x)) [ob'] []
abbrev NLTake : List Str := ["_law_draws_here", "_law_bound", "_law_row", "_law_at", "_law_value"]
theorem scLTake : FnScope NLTake ["_law_draws_here", "_law_bound"] (defScope sLTake) := ⟨rfl, rfl, rfl, by decide +kernel, rfl, by decide +kernel, by decide +kernel⟩
abbrev OkLTake (P : Program) (w : World) (K : PySem.W.Frag) (mg : Str → Option Value) (base : Heap) : Prop := OkG P w K mg base "_law_take" 1 ["_law_draws_here", "_law_bound"] (spA K 2 aTake)
theorem ok_LTake {P : Program} {w : World} {K : PySem.W.Frag} {mg : Str → Option Value} {base : Heap} (T : Tx K mg)  : OkLTake P w K mg base :=
  (by exact getit : Hold (OkLTake P w K mg base) (by
    have S := scLTake
    refine okG_a (m := 3) T.gLTake T.fLTake S rfl rfl (fun _ _ _ _ _ _ us hl => match us, hl with | [_, _], _ => rfl) fun cdv A outer s H E hr => ⟨_,
      (pss_cons (ps_set (i := 2) S.nd rfl (Or.inl rfl) (pe_dget (hu_of hr) (pv 0) pe_str (fun _ _ => rfl)))
      (pss_cons (ps_set (i := 3) S.nd rfl (Or.inl rfl) (pe_dget (hu_of hr) (pv 0) pe_str (fun _ _ => rfl)))
      (pss_cons (ps_dput (hu_of hr) (pv 0) pe_str (pe_op op_add (pv 3) pe_int) rfl)
      (pss_cons (ps_set (i := 4) S.nd rfl (Or.inl rfl) (pe_op op_add (pe_ix (k_ixL (K := K) rfl) (pv 2) (pe_op op_mod (pe_callTy call_int1Q (by rfl) T.b_int (by decide +kernel) (pa_cons (pv 3) pa_nil)) (pe_callB (k_len (K := K) rfl) (by rfl) T.b_len (by decide +kernel) (pa_cons (pv 2) pa_nil))) (fun _ _ => rfl)) (pe_op op_fdiv (pv 3) (pe_callB (k_len (K := K) rfl) (by rfl) T.b_len (by decide +kernel) (pa_cons (pv 2) pa_nil)))))
      (pss_one (ps_ret (pe_op op_mod (pe_callTy call_int1Q (by rfl) T.b_int (by decide +kernel) (pa_cons (pv 4) pa_nil)) (pv 1)))))))), ?_⟩
    rintro ss μ P' ⟨d, ob, b, rfl, rfl, ⟨n, r, rfl, rn, n0, rl⟩, hb, p⟩
    walk_at "rds"
    refine ⟨_, _, .dat _, dr_row (by walk_at "mem"), ?_⟩
    walk_at "rds"
    refine ⟨_, _, .dat _, dr_at (by walk_at "mem"), ?_⟩
    walk_at "rds"
    refine ex_dput ?_
    walk_at "rds"
    refine ⟨0, .inr "at", .int (n + 1), .dat _, .dat _, _, rfl, (by show 2 < sizeLine; decide), ?_⟩
    rw [dr_put]
    have hlen : 0 < r.length := by cases r with
      | nil => exact absurd rfl rn
      | cons _ _ => simp
    walk_at "rds"
    have e1 := Int.emod_nonneg n (show (r.length : Int) ≠ 0 by omega)
    have e2 := Int.emod_lt_of_pos n (show (0 : Int) < r.length by omega)
    obtain ⟨m, hm⟩ : ∃ m : Nat, n % (r.length : Int) = m := ⟨(n % (r.length : Int)).toNat, by omega⟩
    rw [hm]
    have hml : m < r.length := by omega
    refine op_ixL (at_map (List.getElem?_eq_getElem hml)) ?_
    generalize r[m] = y
    walk_at "rds"
    have p := p _ _ ⟨n + 1, r, rfl, rn, by omega, rl⟩ (Int.emod_nonneg (y + n / (r.length : Int)) (show b ≠ 0 by omega)) (Int.emod_lt_of_pos _ (by omega))
    walk_at "finA"))
/-! ## F16 -/
open TL (tl)
def aStock : ASp := fun ss μ P => ∃ d ob n m, ss = [.val (.ref d), .dat (.int (n : Nat)), .dat (.int m)] ∧ μ = [(d, ob)] ∧ Dr ob ∧ n ≤ 6 ∧ 0 ≤ m ∧ ∀ s ob', Dr ob' → StOk n m s → P (.dat (stk s)) [ob'] []
abbrev NLStock : List Str := ["_law_draws_here", "_law_n", "_law_most", "_law_entries", "_law_k", "_law_entry"]
theorem scLStock : FnScope NLStock ["_law_draws_here", "_law_n", "_law_most"] (defScope sLStock) := ⟨rfl, rfl, rfl, by decide +kernel, rfl, by decide +kernel, by decide +kernel⟩
abbrev OkLStock (P : Program) (w : World) (K : PySem.W.Frag) (mg : Str → Option Value) (base : Heap) : Prop := OkG P w K mg base "_law_stock" 2 ["_law_draws_here", "_law_n", "_law_most"] (spA K 3 aStock)
theorem ok_LStock {P : Program} {w : World} {K : PySem.W.Frag} {mg : Str → Option Value} {base : Heap} (T : Tx K mg) (h_LTake : OkLTake P w K mg base) : OkLStock P w K mg base :=
  (by exact getit : Hold (OkLStock P w K mg base) (by
    have S := scLStock
    refine okG_a (m := 3) T.gLStock T.fLStock S rfl rfl (fun _ _ _ _ _ _ us hl => match us, hl with | [_, _, _], _ => rfl) fun cdv A outer s H E hr => ⟨_,
      (pss_cons (ps_set (i := 3) S.nd rfl (Or.inl rfl) (pe_lst pa_nil))
      (pss_cons (ps_for PassesOwn.never rfl (pi_range1 (by rfl) T.b_range (pa_cons (pv 1) pa_nil)) (pg_name (i := 4) S.nd rfl (Or.inl rfl)) (pss_one (ps_expr (k_app (K := K) rfl (pv 3) (pa_cons (pe_ix (k_ixL (K := K) rfl) (pe_lst (pa_cons pe_int (pa_cons pe_int (pa_cons pe_int (pa_cons pe_int (pa_cons (pe_callG h_LTake (hr.mono (by decide)) (pa_cons (pv 0) (pa_cons (pe_op op_add (pv 2) pe_int) pa_nil))) (pa_cons (pv 2) pa_nil))))))) (pe_callG h_LTake (hr.mono (by decide)) (pa_cons (pv 0) (pa_cons pe_int pa_nil))) (fun _ _ => rfl)) pa_nil)))))
      (pss_one (ps_ret (pe_callTy (k_tup (K := K) rfl) (by rfl) T.b_tuple (by decide +kernel) (pa_cons (pe_lc (own := [("_law_entry", 5)]) (tt := tYes) rfl S.nd (k_list (K := K) rfl (pv 3)) (blkOk_by (N := NLStock) (sc := defScope sLStock) (by decide +kernel)) (fun _ _ _ _ _ => (pg_name (i := 5) S.nd rfl (Or.inl rfl))) (fun _ _ _ _ _ => pts_nil) (fun _ _ _ _ _ => (pe_callB (call_minQ rfl) (by rfl) T.b_min (by decide +kernel) (pa_cons (pv 2) (pa_cons (pv 5) pa_nil))))) pa_nil)))))), ?_⟩
    rintro ss μ P' ⟨d, ob, n, m, rfl, rfl, D, hn, hm, p⟩
    walk_at "rds"
    refine ev_nilO fun ae => ?_
    walk_at "rds"
    refine ⟨by omega, fun k δ' μ' => (∃ z4 ob, ∃ l : List Int, δ' = [.val (.ref d), .dat (.int n), .dat (.int m), .val (.ref ae), z4, .any] ∧ μ' = [(ae, .ls (l.map .int)), (d, ob)] ∧ Dr ob ∧ l.length = k ∧ ∀ x ∈ l, 0 ≤ x), ⟨_, ob, [], rfl, rfl, D, rfl, fun x hx => (nomatch hx)⟩, fun k dd δ' μ' hd hinv => ?_, fun δ' μ' hinv => ?_⟩
    · obtain ⟨z4, ob, l, rfl, rfl, D, lk, l0⟩ := hinv
      obtain ⟨hk, rfl⟩ := range0 hd
      walk_at "rds"
      refine cA [1] (by decide) ?_
      walk_at "rds"
      refine ⟨rfl, [_], rfl, d, ob, _, rfl, rfl, D, by omega, fun t ob D t0 t1 => ?_⟩
      walk_at "rds"
      refine cA [1] (by decide) ?_
      walk_at "rds"
      refine ⟨rfl, [_], rfl, d, ob, _, rfl, rfl, D, by decide, fun i ob D i0 i1 => ?_⟩
      obtain ⟨y, hy, y0⟩ : ∃ y, atI [PyData.int 0, PyData.int 0, PyData.int 1, PyData.int 2, PyData.int t, PyData.int m] i = some (.int y) ∧ 0 ≤ y := by
        have : i = 0 ∨ i = 1 ∨ i = 2 ∨ i = 3 ∨ i = 4 ∨ i = 5 := by omega
        rcases this with rfl | rfl | rfl | rfl | rfl | rfl
        · exact ⟨0, rfl, by omega⟩
        · exact ⟨0, rfl, by omega⟩
        · exact ⟨1, rfl, by omega⟩
        · exact ⟨2, rfl, by omega⟩
        · exact ⟨t, rfl, by omega⟩
        · exact ⟨m, rfl, by omega⟩
      refine op_ixL hy ?_
      walk_at "rds"
      refine ⟨0, l.map .int, _, ⟨_, rfl, .dat _⟩, rfl, sz_lt (by simp; omega), ?_⟩
      refine ⟨_, ob, l ++ [y], rfl, by rw [List.map_append]; rfl, D, by simp [lk], fun x hx => ?_⟩
      rcases List.mem_append.mp hx with hx | hx
      · exact l0 x hx
      · rw [List.mem_singleton.mp hx]; exact y0
    · obtain ⟨z4, ob, l, rfl, rfl, D, lk, l0⟩ := hinv
      rw [rangeD_len] at lk
      walk_at "rds"
      refine lcU l .int (fun x => .int (if x < m then x else m)) (wg_name (by decide)) ?_
      refine ei_list (ev_varF (j := 0) rfl rfl ?_)
      walk_at "rds"
      refine ⟨rfl, by omega, fun x hx => ?_, ?_⟩
      · walk_at "rds"
        refine ⟨rfl, ?_⟩
        walk_at "rds"
        exact ⟨.dat _, rfl⟩
      · walk_at "rds"
        have p := p (l.map fun x => if x < m then x else m) ob D ⟨by simp [lk], fun y hy => by
          obtain ⟨x, hx, rfl⟩ := List.mem_map.mp hy
          have := l0 x hx
          split <;> omega⟩
        have e : (l.map fun x => if x < m then x else m).map PyData.int = l.map fun x => PyData.int (if x < m then x else m) := by rw [List.map_map]; rfl
        unfold stk at p
        rw [e] at p
        walk_at "finA"))
theorem lowdig_ix {z : Str} (hz : tl z = (List.range 26).map (· + 97) ++ (List.range 10).map (· + 48)) {i : Int} (h0 : 0 ≤ i) (h1 : i < 36) : ∃ c, atI z.cps.toList i = some c ∧ (isLow c = true ∨ isDig c = true) := by
  obtain ⟨k, rfl⟩ : ∃ k : Nat, i = k := ⟨i.toNat, by omega⟩
  have hk : k < 36 := by omega
  have hl : k < (tl z).length := by rw [hz]; simpa using hk
  obtain ⟨c, hc⟩ : ∃ c, (tl z)[k]? = some c := ⟨_, List.getElem?_eq_getElem hl⟩
  refine ⟨c, atI_nat hc, ?_⟩
  have hm := List.mem_of_getElem? hc
  rw [hz] at hm
  rcases List.mem_append.mp hm with h | h
  · obtain ⟨q, hq, e⟩ := List.mem_map.mp h
    have := List.mem_range.mp hq
    left
    unfold isLow
    simp
    omega
  · obtain ⟨q, hq, e⟩ := List.mem_map.mp h
    have := List.mem_range.mp hq
    right
    unfold isDig
    simp
    omega
theorem low_ix {i : Int} (h0 : 0 ≤ i) (h1 : i < 26) : ∃ c, atI ("abcdefghijklmnopqrstuvwxyz" : Str).cps.toList i = some c ∧ isLow c = true := by
  obtain ⟨k, rfl⟩ : ∃ k : Nat, i = k := ⟨i.toNat, by omega⟩
  have hk : k < 26 := by omega
  have hl : k < (tl "abcdefghijklmnopqrstuvwxyz").length := by rw [small_tl]; simpa using hk
  obtain ⟨c, hc⟩ : ∃ c, (tl "abcdefghijklmnopqrstuvwxyz")[k]? = some c := ⟨_, List.getElem?_eq_getElem hl⟩
  refine ⟨c, atI_nat hc, ?_⟩
  have hm := List.mem_of_getElem? hc
  rw [small_tl] at hm
  obtain ⟨q, hq, e⟩ := List.mem_map.mp hm
  have := List.mem_range.mp hq
  unfold isLow
  simp
  omega
theorem fourteen_tl : tl "abcdefghijklmn" = (List.range 14).map (· + 97) := by decide +kernel
theorem fourteen_ix {k : Nat} (h : k < 14) : atI ("abcdefghijklmn" : Str).cps.toList (k : Int) = some (k + 97) := by
  refine atI_nat ?_
  show (tl "abcdefghijklmn")[k]? = _
  rw [fourteen_tl]
  simp [h]
theorem joinE_tl (cs : List Nat) : tl (Txt.join "" (cs.map fun c => (⟨#[c]⟩ : Str))) = cs := by
  rw [join_tl]
  have : tl "" = [] := by decide +kernel
  rw [this, List.map_map]
  induction cs with
  | nil => rfl
  | cons c cs ih =>
    cases cs with
    | nil => rfl
    | cons d ds =>
      show [c] ++ ([] ++ TL.joinL [] ((d :: ds).map _)) = _
      rw [ih]
      rfl
/-- the names told apart by their last sign -/
structure NmsOk (l : List Str) : Prop where
  ok : ∀ x ∈ l, NmOk x
  last : ∀ (i : Nat) x, l[i]? = some x → ∃ q, tl x = q ++ [i + 97]
theorem NmsOk.nodup {l : List Str} (N : NmsOk l) : l.Nodup := by
  rw [List.Nodup, List.pairwise_iff_getElem]
  intro i j hi hj hij e
  obtain ⟨q, hq⟩ := N.last i _ (List.getElem?_eq_getElem hi)
  obtain ⟨r, hr⟩ := N.last j _ (List.getElem?_eq_getElem hj)
  rw [e, hr] at hq
  have := congrArg List.getLast? hq
  simp at this
  omega
theorem nm_new {c0 : Nat} {cs : List Nat} {k : Nat} (h0 : isLow c0 = true) (hc : ∀ c ∈ cs, isLow c = true ∨ isDig c = true) (hl : cs.length = 0 ∨ cs.length = 1 ∨ cs.length = 2 ∨ cs.length = 9) (hk : k < 14) {x : Str} (hx : tl x = c0 :: (cs ++ [k + 97])) : NmOk x := by
  have len : (tl x).length = cs.length + 2 := by rw [hx]; simp
  refine ⟨by show (tl x).length ≤ 12; omega, ⟨c0, _, hx, h0⟩, fun c hcx => ?_, fun hm => ?_⟩
  · have hcx : c ∈ tl x := hcx
    rw [hx] at hcx
    rcases List.mem_cons.mp hcx with rfl | hcx
    · exact .inl h0
    · rcases List.mem_append.mp hcx with hcx | hcx
      · exact hc c hcx
      · left
        rw [List.mem_singleton.mp hcx]
        unfold isLow
        simp
        omega
  · have l4 : (tl "kinds").length = 5 ∧ (tl "nothing").length = 7 ∧ (tl "endless").length = 7 ∧ (tl "x").length = 1 := by decide +kernel
    obtain ⟨l1, l2, l3, l4⟩ := l4
    simp only [List.mem_cons, List.not_mem_nil, or_false] at hm
    rcases hm with rfl | rfl | rfl | rfl <;> omega
def aNamed : ASp := fun ss μ P => ∃ d ob, ss = [.val (.ref d)] ∧ μ = [(d, ob)] ∧ Dr ob ∧ ∀ (l : List Str) ob', Dr ob' → NmsOk l → l.length = 14 → P (.dat (.list (l.map .str))) [ob'] []
abbrev NLNamed : List Str := ["_law_draws_here", "_law_small", "_law_names", "_law_k", "_law_size", "_law_rest", "_law_n"]
theorem scLNamed : FnScope NLNamed ["_law_draws_here"] (defScope sLNamed) := ⟨rfl, rfl, rfl, by decide +kernel, rfl, by decide +kernel, by decide +kernel⟩
abbrev OkLNamed (P : Program) (w : World) (K : PySem.W.Frag) (mg : Str → Option Value) (base : Heap) : Prop := OkG P w K mg base "_law_named" 2 ["_law_draws_here"] (spA K 1 aNamed)
theorem ok_LNamed {P : Program} {w : World} {K : PySem.W.Frag} {mg : Str → Option Value} {base : Heap} (T : Tx K mg) (h_LTake : OkLTake P w K mg base) : OkLNamed P w K mg base :=
  (by exact getit : Hold (OkLNamed P w K mg base) (by
    have S := scLNamed
    refine okG_a (m := 6) T.gLNamed T.fLNamed S rfl rfl (fun _ _ _ _ _ _ us hl => match us, hl with | [_], _ => rfl) fun cdv A outer s H E hr => ⟨_,
      (pss_cons (ps_set (i := 1) S.nd rfl (Or.inr rfl) pe_str)
      (pss_cons (ps_set (i := 2) S.nd rfl (Or.inl rfl) (pe_lst pa_nil))
      (pss_cons (ps_for PassesOwn.never rfl (pi_range1 (by rfl) T.b_range (pa_cons pe_int pa_nil)) (pg_name (i := 3) S.nd rfl (Or.inl rfl)) (pss_cons (ps_set (i := 4) S.nd rfl (Or.inl rfl) (pe_ix (k_ixL (K := K) rfl) (pe_lst (pa_cons pe_int (pa_cons pe_int (pa_cons pe_int (pa_cons pe_int (pa_cons pe_int pa_nil)))))) (pe_callG h_LTake (hr.mono (by decide)) (pa_cons (pv 0) (pa_cons pe_int pa_nil))) (fun _ _ => rfl)))
      (pss_cons (ps_set (i := 5) S.nd rfl (Or.inl rfl) (k_join (K := K) rfl pe_str (pe_lc (own := [("_law_n", 6)]) (tt := tYes) rfl S.nd (pi_range1 (by rfl) T.b_range (pa_cons (pv 4) pa_nil)) (blkOk_by (N := NLNamed) (sc := defScope sLNamed) (by decide +kernel)) (fun _ _ _ _ _ => (pg_name (i := 6) S.nd rfl (Or.inl rfl))) (fun _ _ _ _ _ => pts_nil) (fun _ _ _ _ _ => (pe_ix ix_str (pe_op op_addT (pv 1) pe_str) (pe_callG h_LTake (hr.mono (by decide)) (pa_cons (pv 0) (pa_cons pe_int pa_nil))) (fun _ _ => rfl))))))
      (pss_one (ps_expr (k_app (K := K) rfl (pv 2) (pa_cons (pe_op op_addT (pe_op op_addT (pe_ix ix_str (pv 1) (pe_callG h_LTake (hr.mono (by decide)) (pa_cons (pv 0) (pa_cons pe_int pa_nil))) (fun _ _ => rfl)) (pv 5)) (pe_ix ix_str pe_str (pv 3) (fun _ _ => rfl))) pa_nil)))))))
      (pss_one (ps_ret (pv 2)))))), ?_⟩
    rintro ss μ P' ⟨d, ob, rfl, rfl, D, p⟩
    walk_at "rds"
    refine ev_nilO fun an => ?_
    walk_at "rds"
    refine ⟨by decide, fun k δ' μ' => (∃ z3 z4 z5 ob, ∃ l : List Str, δ' = [.val (.ref d), .dat (.str "abcdefghijklmnopqrstuvwxyz"), .val (.ref an), z3, z4, z5, .any] ∧ μ' = [(an, .ls (l.map .str)), (d, ob)] ∧ Dr ob ∧ l.length = k ∧ NmsOk l), ⟨_, _, _, ob, [], rfl, rfl, D, rfl, ⟨fun x hx => (nomatch hx), fun i x hx => (nomatch hx)⟩⟩, fun k dd δ' μ' hd hinv => ?_, fun δ' μ' hinv => ?_⟩
    · obtain ⟨z3, z4, z5, ob, l, rfl, rfl, D, lk, N⟩ := hinv
      obtain ⟨hk, rfl⟩ := range0 hd
      have hk : k < 14 := hk
      walk_at "rds"
      refine cA [1] (by decide) ?_
      walk_at "rds"
      refine ⟨rfl, [_], rfl, d, ob, _, rfl, rfl, D, by decide, fun i ob D i0 i1 => ?_⟩
      obtain ⟨sz, hsz, szo⟩ : ∃ sz : Nat, atI [PyData.int 0, PyData.int 0, PyData.int 1, PyData.int 2, PyData.int 9] i = some (.int sz) ∧ (sz = 0 ∨ sz = 1 ∨ sz = 2 ∨ sz = 9) := by
        have : i = 0 ∨ i = 1 ∨ i = 2 ∨ i = 3 ∨ i = 4 := by omega
        rcases this with rfl | rfl | rfl | rfl | rfl
        · exact ⟨0, rfl, by omega⟩
        · exact ⟨0, rfl, by omega⟩
        · exact ⟨1, rfl, by omega⟩
        · exact ⟨2, rfl, by omega⟩
        · exact ⟨9, rfl, by omega⟩
      refine op_ixL hsz ?_
      walk_at "rds"
      refine ev_lc (wg_name (by decide)) ?_
      walk_at "rds"
      refine ⟨by omega, fun j acc μ' => (∃ ob cs, acc = cs.map (fun c => PyData.str ⟨#[c]⟩) ∧ μ' = [(an, .ls (l.map .str)), (d, ob)] ∧ Dr ob ∧ cs.length = j ∧ ∀ c ∈ cs, isLow c = true ∨ isDig c = true), ⟨ob, [], rfl, rfl, D, rfl, fun c hc => (nomatch hc)⟩, fun j dd acc μ' hd hinv => ?_, fun acc μ' hinv => ?_⟩
      · obtain ⟨ob, cs, rfl, rfl, D, cl, co⟩ := hinv
        obtain ⟨hj, rfl⟩ := range0 hd
        walk_at "rds"
        refine et_yes ⟨fun _ => ?_, fun h => (nomatch h)⟩
        walk_at "rds"
        refine op_tt (by decide +kernel) ?_
        walk_at "rds"
        refine cA [1] (by decide) ?_
        walk_at "rds"
        refine ⟨rfl, [_], rfl, d, ob, _, rfl, rfl, D, by decide, fun i ob D i0 i1 => ?_⟩
        obtain ⟨c, hc, hco⟩ := lowdig_ix (z := "abcdefghijklmnopqrstuvwxyz" ++ "0123456789") (by rw [TL.tl_append, small_tl, digs_tl]) i0 i1
        refine op_ixS (by decide +kernel) hc ?_
        refine ⟨_, .dat _, sz_lt (by simp; omega), ob, cs ++ [c], by rw [List.map_append]; rfl, rfl, D, by simp [cl], fun q hq => ?_⟩
        rcases List.mem_append.mp hq with hq | hq
        · exact co q hq
        · rw [List.mem_singleton.mp hq]; exact hco
      · obtain ⟨ob, cs, rfl, rfl, D, cl, co⟩ := hinv
        rw [rangeD_len] at cl
        have e1 : cs.map (fun c => PyData.str ⟨#[c]⟩) = (cs.map fun c => (⟨#[c]⟩ : Str)).map .str := by rw [List.map_map]; rfl
        rw [e1]
        have s1 := sum_le (M := 1) (cs.map fun c => (⟨#[c]⟩ : Str)) fun x hx => by
          obtain ⟨c, _, rfl⟩ := List.mem_map.mp hx
          exact Nat.le_refl _
        rw [List.length_map] at s1
        refine ⟨cs.map fun c => (⟨#[c]⟩ : Str), .lst _, ?_, ?_⟩
        · rw [List.length_map, show ("" : Str).length = 0 by decide +kernel]
          omega
        have jt := joinE_tl cs
        have jlen : (Txt.join "" (cs.map fun c => (⟨#[c]⟩ : Str))).length = cs.length := by rw [TL.len_tl, jt]
        generalize Txt.join "" (cs.map fun c => (⟨#[c]⟩ : Str)) = rest at *
        walk_at "rds"
        refine cA [1] (by decide) ?_
        walk_at "rds"
        refine ⟨rfl, [_], rfl, d, ob, _, rfl, rfl, D, by decide, fun i ob D i0 i1 => ?_⟩
        obtain ⟨c0, hc0, hl0⟩ := low_ix i0 i1
        refine op_ixS (by decide +kernel) hc0 ?_
        walk_at "rds"
        have l1 : (⟨#[c0]⟩ : Str).length = 1 := rfl
        refine op_tt (sz_of (by rw [l1]; omega)) ?_
        walk_at "rds"
        refine op_ixS (by decide +kernel) (fourteen_ix hk) ?_
        refine op_tt (sz_of (by rw [len_app, l1, show (⟨#[k + 97]⟩ : Str).length = 1 from rfl]; omega)) ?_
        have hx : tl ((⟨#[c0]⟩ : Str) ++ rest ++ ⟨#[k + 97]⟩) = c0 :: (cs ++ [k + 97]) := by
          rw [TL.tl_append, TL.tl_append, jt]
          rfl
        have N0 := nm_new hl0 co (by omega) hk hx
        generalize ((⟨#[c0]⟩ : Str) ++ rest ++ ⟨#[k + 97]⟩) = x at *
        walk_at "rds"
        refine ⟨0, l.map .str, _, ⟨_, rfl, .dat _⟩, rfl, sz_lt (by simp; omega), ?_⟩
        refine ⟨_, _, _, ob, l ++ [x], rfl, by rw [List.map_append]; rfl, D, by simp [lk], ⟨fun y hy => ?_, fun q y hy => ?_⟩⟩
        · rcases List.mem_append.mp hy with hy | hy
          · exact N.ok y hy
          · rw [List.mem_singleton.mp hy]; exact N0
        · by_cases c : q < l.length
          · rw [List.getElem?_append_left c] at hy
            exact N.last q y hy
          · have hq : q = l.length := by
              have := (List.getElem?_eq_some_iff.mp hy).1
              simp at this
              omega
            subst hq
            simp at hy
            subst hy
            exact ⟨c0 :: cs, by rw [hx, lk]; rfl⟩
    · obtain ⟨z3, z4, z5, ob, l, rfl, rfl, D, lk, N⟩ := hinv
      rw [rangeD_len] at lk
      have lk : l.length = 14 := lk
      have p := p l ob D N lk
      refine ex_ret (ev_varF (j := 0) rfl rfl ?_)
      walk_at "finA"))
/-! ## F17 -/
open TL (tl)
section
variable {K : PySem.W.Frag} {δ : List Sl} {μ : Mu} {A : AEnds} {t u : TS}
theorem ex_nx (B : List Sl → Mu → Prop) (h : ExC K t δ μ { A with nx := B }) (h2 : ∀ δ' μ', B δ' μ' → A.nx δ' μ') : ExC K t δ μ A :=
  fun I H σ D st n r b c => h I H σ D st (fun σ' H' ⟨δ', μ', I', a1, a2, a3, e⟩ => n σ' H' ⟨δ', μ', I', a1, a2, a3, h2 _ _ e⟩) r b c
end
def LeS (a b : List Int) : Prop := ∀ (i : Nat) x y, a[i]? = some x → b[i]? = some y → x ≤ y
def BkLe (b : Bk) : Prop := ∀ m ∈ b.ms, LeS m.lo m.hi
def aLBook : ASp := fun ss μ P => ∃ d ob, ss = [.val (.ref d), .dat (.int 5)] ∧ μ = [(d, ob)] ∧ Dr ob ∧ ∀ b ob', Dr ob' → BkOk b → BkLe b → P (.dat (bkD b)) [ob'] []
structure MsOk (l : List Str) (n : Nat) (ms : List Mv) : Prop where
  nm : ∀ (i : Nat) m, ms[i]? = some m → l[6 + i]? = some m.nm
  st : ∀ m ∈ ms, StOk n 1000 m.tk ∧ StOk n 1000 m.lo ∧ StOk n 1000 m.hi ∧ LeS m.lo m.hi
theorem MsOk.add {l : List Str} {n : Nat} {ms : List Mv} {m : Mv} (M : MsOk l n ms) (hn : l[6 + ms.length]? = some m.nm) (h : StOk n 1000 m.tk ∧ StOk n 1000 m.lo ∧ StOk n 1000 m.hi ∧ LeS m.lo m.hi) : MsOk l n (ms ++ [m]) := by
  refine ⟨fun i x hi => ?_, fun x hx => ?_⟩
  · by_cases c : i < ms.length
    · rw [List.getElem?_append_left c] at hi
      exact M.nm i x hi
    · have : i = ms.length := by
        have := (List.getElem?_eq_some_iff.mp hi).1
        simp at this
        omega
      subst this
      simp at hi
      subst hi
      exact hn
  · rcases List.mem_append.mp hx with hx | hx
    · exact M.st x hx
    · rw [List.mem_singleton.mp hx]; exact h
theorem MsOk.book {l : List Str} {n : Nat} {ms : List Mv} (N : NmsOk l) (hl : l.length = 14) (h1 : 1 ≤ n) (h6 : n ≤ 6) (h8 : ms.length ≤ 8) (M : MsOk l n ms) : BkOk ⟨l.take n, ms⟩ ∧ BkLe ⟨l.take n, ms⟩ := by
  have ln : (l.take n).length = n := by rw [List.length_take]; omega
  have en : (⟨l.take n, ms⟩ : Bk).n = n := ln
  refine ⟨⟨by rw [en]; exact h1, by rw [en]; exact h6, h8, fun k hk => N.ok k (List.mem_of_mem_take hk), N.nodup.sublist (List.take_sublist _ _), fun m hm => ?_, ?_⟩, fun m hm => (M.st m hm).2.2.2⟩
  · obtain ⟨i, hi⟩ := List.mem_iff_getElem?.mp hm
    obtain ⟨a, b, c, _⟩ := M.st m hm
    rw [en]
    exact ⟨N.ok _ (List.mem_of_getElem? (M.nm i m hi)), a, b, c⟩
  · rw [List.Nodup, List.pairwise_iff_getElem]
    intro i j hi hj hij e
    simp at hi hj
    have h1 := M.nm i _ (List.getElem?_eq_getElem hi)
    have h2 := M.nm j _ (List.getElem?_eq_getElem hj)
    obtain ⟨a1, b1⟩ := List.getElem?_eq_some_iff.mp h1
    obtain ⟨a2, b2⟩ := List.getElem?_eq_some_iff.mp h2
    have e : ms[i].nm = ms[j].nm := by simpa using e
    rw [← b1, ← b2] at e
    have := (List.getElem_inj N.nodup).mp e
    omega
abbrev NLBook : List Str := ["_law_draws_here", "_law_most", "_law_names", "_law_n", "_law_moves", "_law_k", "_law_take_here", "_law_high", "_law_low", "_law_entry"]
theorem scLBook : FnScope NLBook ["_law_draws_here", "_law_most"] (defScope sLBook) := ⟨rfl, rfl, rfl, by decide +kernel, rfl, by decide +kernel, by decide +kernel⟩
abbrev OkLBook (P : Program) (w : World) (K : PySem.W.Frag) (mg : Str → Option Value) (base : Heap) : Prop := OkG P w K mg base "_law_book" 3 ["_law_draws_here", "_law_most"] (spA K 2 aLBook)
theorem ok_LBook {P : Program} {w : World} {K : PySem.W.Frag} {mg : Str → Option Value} {base : Heap} (T : Tx K mg) (h_LNamed : OkLNamed P w K mg base) (h_LStock : OkLStock P w K mg base) (h_LTake : OkLTake P w K mg base) : OkLBook P w K mg base :=
  (by exact getit : Hold (OkLBook P w K mg base) (by
    have S := scLBook
    refine okG_a (m := 8) T.gLBook T.fLBook S rfl rfl (fun _ _ _ _ _ _ us hl => match us, hl with | [_, _], _ => rfl) fun cdv A outer s H E hr => ⟨_,
      (pss_cons (ps_set (i := 2) S.nd rfl (Or.inl rfl) (pe_callG h_LNamed (hr.mono (by decide)) (pa_cons (pv 0) pa_nil)))
      (pss_cons (ps_set (i := 3) S.nd rfl (Or.inl rfl) (pe_op op_add pe_int (pe_callG h_LTake (hr.mono (by decide)) (pa_cons (pv 0) (pa_cons pe_int pa_nil)))))
      (pss_cons (ps_set (i := 4) S.nd rfl (Or.inl rfl) (pe_lst pa_nil))
      (pss_cons (ps_for PassesOwn.never rfl (pi_range1 (by rfl) T.b_range (pa_cons (pe_callG h_LTake (hr.mono (by decide)) (pa_cons (pv 0) (pa_cons pe_int pa_nil))) pa_nil)) (pg_name (i := 5) S.nd rfl (Or.inl rfl)) (pss_cons (ps_set (i := 6) S.nd rfl (Or.inl rfl) (pe_callG h_LStock (hr.mono (by decide)) (pa_cons (pv 0) (pa_cons (pv 3) (pa_cons (pv 1) pa_nil)))))
      (pss_cons (ps_set (i := 7) S.nd rfl (Or.inl rfl) (pe_callG h_LStock (hr.mono (by decide)) (pa_cons (pv 0) (pa_cons (pv 3) (pa_cons (pv 1) pa_nil)))))
      (pss_cons (ps_set (i := 8) S.nd rfl (Or.inl rfl) (pv 7))
      (pss_cons (ps_if (pt_cmpR (k_eq (K := K) rfl hr.units) (pe_callG h_LTake (hr.mono (by decide)) (pa_cons (pv 0) (pa_cons pe_int pa_nil))) pe_int (nomark _)) (pss_one (ps_set (i := 8) S.nd rfl (Or.inl rfl) (pe_callTy (k_tup (K := K) rfl) (by rfl) T.b_tuple (by decide +kernel) (pa_cons (pe_lc (own := [("_law_entry", 9)]) (tt := tYes) rfl S.nd (k_tupI (K := K) rfl (pv 7)) (blkOk_by (N := NLBook) (sc := defScope sLBook) (by decide +kernel)) (fun _ _ _ _ _ => (pg_name (i := 9) S.nd rfl (Or.inl rfl))) (fun _ _ _ _ _ => pts_nil) (fun _ _ _ _ _ => (pe_callG h_LTake (hr.mono (by decide)) (pa_cons (pv 0) (pa_cons (pe_op op_add (pv 9) pe_int) pa_nil))))) pa_nil)))) pss_nil)
      (pss_one (ps_expr (k_app (K := K) rfl (pv 4) (pa_cons (pe_tup (pa_cons (pe_ix (k_ixL (K := K) rfl) (pv 2) (pe_op op_add pe_int (pv 5)) (fun _ _ => rfl)) (pa_cons (pv 6) (pa_cons (pv 8) (pa_cons (pv 7) pa_nil))))) pa_nil)))))))))
      (pss_one (ps_ret (pe_tup (pa_cons (pe_callTy (k_tup (K := K) rfl) (by rfl) T.b_tuple (by decide +kernel) (pa_cons (pe_slice (k_slL (K := K) rfl) (pv 2) po_none (po_some (pv 3))) pa_nil)) (pa_cons (pe_callTy (k_tup (K := K) rfl) (by rfl) T.b_tuple (by decide +kernel) (pa_cons (pv 4) pa_nil)) pa_nil))))))))), ?_⟩
    rintro ss μ P' ⟨d, ob, rfl, rfl, D, p⟩
    walk_at "rds"
    refine cA [0] (by decide) ?_
    walk_at "rds"
    refine ⟨rfl, [_], rfl, d, ob, rfl, rfl, D, fun l ob D N ll => ?_⟩
    walk_at "rds"
    refine cA [0] (by decide) ?_
    walk_at "rds"
    refine ⟨rfl, [_], rfl, d, ob, _, rfl, rfl, D, by decide, fun x ob D x0 x1 => ?_⟩
    obtain ⟨n, hn⟩ : ∃ n : Nat, 1 + x = n := ⟨(1 + x).toNat, by omega⟩
    walk_at "rds"
    refine ev_nilO fun am => ?_
    walk_at "rds"
    rw [hn]
    refine cA [1] (by decide) ?_
    walk_at "rds"
    refine ⟨rfl, [_], rfl, d, ob, _, rfl, rfl, D, by decide, fun x ob D x0 x1 => ?_⟩
    obtain ⟨c, rfl⟩ : ∃ c : Nat, x = c := ⟨x.toNat, by omega⟩
    have hc : c ≤ 8 := by omega
    have n1 : 1 ≤ n := by omega
    have n6 : n ≤ 6 := by omega
    walk_at "rds"
    refine ⟨by omega, fun k δ' μ' => (∃ z5 z6 z7 z8 ob ms, δ' = [.val (.ref d), .dat (.int 5), .dat (.list (l.map .str)), .dat (.int n), .val (.ref am), z5, z6, z7, z8, .any] ∧ μ' = [(am, .ls (ms.map mvD)), (d, ob)] ∧ Dr ob ∧ ms.length = k ∧ MsOk l n ms), ⟨_, _, _, _, ob, [], rfl, rfl, D, rfl, ⟨fun i m hm => (by simp at hm), fun m hm => (nomatch hm)⟩⟩, fun k dd δ' μ' hd hinv => ?_, fun δ' μ' hinv => ?_⟩
    · obtain ⟨z5, z6, z7, z8, ob, ms, rfl, rfl, D, lk, M⟩ := hinv
      obtain ⟨hk, rfl⟩ := range0 hd
      walk_at "rds"
      refine cA [1] (by decide) ?_
      walk_at "rds"
      refine ⟨rfl, [_], rfl, d, ob, n, 5, rfl, rfl, D, n6, by decide, fun tk ob D Stk => ?_⟩
      walk_at "rds"
      refine cA [1] (by decide) ?_
      walk_at "rds"
      refine ⟨rfl, [_], rfl, d, ob, n, 5, rfl, rfl, D, n6, by decide, fun hi ob D Shi => ?_⟩
      have hnm : l[6 + k]? = some l[6 + k] := List.getElem?_eq_getElem (by omega)
      generalize l[6 + k] = nm at *
      walk_at "rds0"
      refine ex_nx (fun δ' μ' => ∃ lo ob, δ' = [.val (.ref d), .dat (.int 5), .dat (.list (l.map .str)), .dat (.int n), .val (.ref am), .dat (.int k), .dat (stk tk), .dat (stk hi), .dat (stk lo), .any] ∧ μ' = [(am, .ls (ms.map mvD)), (d, ob)] ∧ Dr ob ∧ StOk n 1000 lo ∧ LeS lo hi) ?_ ?_
      · walk_at "rds"
        refine cA [1] (by decide) ?_
        walk_at "rds"
        refine ⟨rfl, [_], rfl, d, ob, _, rfl, rfl, D, by decide, fun y ob D y0 y1 => ?_⟩
        walk_at "rds"
        refine ⟨fun _ => ?_, fun _ => ?_⟩
        · walk_at "rds"
          refine ev_lc (wg_name (by decide)) ?_
          walk_at "rds"
          refine ⟨fun j acc μ' => (∃ ob, ∃ vs : List Int, acc = vs.map .int ∧ μ' = [(am, .ls (ms.map mvD)), (d, ob)] ∧ Dr ob ∧ vs.length = j ∧ ∀ (i : Nat) x, vs[i]? = some x → 0 ≤ x ∧ ∀ h, hi[i]? = some h → x ≤ h), ⟨ob, [], rfl, rfl, D, rfl, fun i x hx => (by simp at hx)⟩, fun j dd acc μ' hd hinv => ?_, fun acc μ' hinv => ?_⟩
          · obtain ⟨ob, vs, rfl, rfl, D, vl, vo⟩ := hinv
            obtain ⟨h, hh, rfl⟩ := of_map hd
            have hpos := (Shi.2 h (List.mem_of_getElem? hh)).1
            have hjl := (List.getElem?_eq_some_iff.mp hh).1
            have sl := Shi.1
            walk_at "rds"
            refine et_yes ⟨fun _ => ?_, fun h => (nomatch h)⟩
            walk_at "rds"
            refine cA [1] (by decide) ?_
            walk_at "rds"
            refine ⟨rfl, [_], rfl, d, ob, _, rfl, rfl, D, by omega, fun x ob D x0 x1 => ?_⟩
            refine ⟨_, .dat _, sz_lt (by simp; omega), ob, vs ++ [x], by rw [List.map_append]; rfl, rfl, D, by simp [vl], fun i z hz => ?_⟩
            by_cases c : i < vs.length
            · rw [List.getElem?_append_left c] at hz
              exact vo i z hz
            · have : i = vs.length := by
                have := (List.getElem?_eq_some_iff.mp hz).1
                simp at this
                omega
              subst this
              simp at hz
              subst hz
              refine ⟨x0, fun h' hh' => ?_⟩
              rw [vl, hh] at hh'
              cases hh'
              omega
          · obtain ⟨ob, vs, rfl, rfl, D, vl, vo⟩ := hinv
            rw [List.length_map] at vl
            walk_at "rds"
            refine ⟨vs, ob, rfl, rfl, D, ⟨by rw [vl, Shi.1], fun x hx => ?_⟩, fun i x h hx hh => (vo i x hx).2 h hh⟩
            obtain ⟨i, hi2⟩ := List.mem_iff_getElem?.mp hx
            have hil := (List.getElem?_eq_some_iff.mp hi2).1
            have hg : hi[i]? = some hi[i] := List.getElem?_eq_getElem (by omega)
            have h1 := vo i x hi2
            have h2 := h1.2 _ hg
            have h3 := (Shi.2 _ (List.mem_of_getElem? hg)).2
            omega
        · walk_at "rds"
          exact ⟨hi, ob, rfl, rfl, D, Shi.mono (by decide), fun i x y hx hy => by rw [hx] at hy; cases hy; exact Int.le_refl _⟩
      · rintro δ' μ' ⟨lo, ob, rfl, rfl, D, Slo, Le⟩
        walk_at "rds"
        refine ⟨0, ms.map mvD, _, ⟨_, rfl, .dat _⟩, rfl, sz_lt (by simp; omega), ?_⟩
        refine ⟨_, _, _, _, ob, ms ++ [⟨nm, tk, lo, hi⟩], rfl, by rw [List.map_append]; rfl, D, by simp [lk], M.add (by rw [lk]; exact hnm) ⟨Stk.mono (by decide), Slo, Shi.mono (by decide), Le⟩⟩
    · obtain ⟨z5, z6, z7, z8, ob, ms, rfl, rfl, D, lk, M⟩ := hinv
      rw [rangeD_len] at lk
      obtain ⟨B, Le⟩ := M.book N ll n1 n6 (by omega)
      have p := p _ ob D B Le
      walk_at "rds"
      have e : cutD (l.map PyData.str) none (some (n : Int)) = (l.take n).map .str := by
        rw [cutD_map]
        unfold cutD
        rw [HT.sIx_none, HT.sIx_nat, List.drop_zero, Nat.sub_zero, Nat.min_eq_left (by omega)]
      rw [e]
      walk_at "finA"))
/-! ## F18 -/
open TL (tl)
def fLine : PSp := fun ss P => ∃ b e, ss = [.dat (bkD b), .dat (evD e)] ∧ BkOk b ∧ EvOk b e ∧ EvS b e ∧ P (.dat (.str (lineF b e)))
theorem line_wds {b : Bk} {g : List Int} (ws : List Str) : Txt.join spT (ws ++ [printF b.ks g]) = Txt.join spT (ws ++ wds (pIt b.ks (g.map wrF))) := by
  unfold printF
  rw [joinI_wds, join_join _ _ (wds_ne _)]
theorem line_sum {ws : List Str} (h : ∀ x ∈ ws, x.length ≤ 400) (hl : ws.length ≤ 10) : (ws.map (·.length)).sum + ws.length * spT.length ≤ 16777216 := by
  have := sum_le ws h
  rw [sp_len]
  omega
abbrev NLLine : List Str := ["_law_book_here", "_law_event_here", "_law_words"]
theorem scLLine : FnScope NLLine ["_law_book_here", "_law_event_here"] (defScope sLLine) := ⟨rfl, rfl, rfl, by decide +kernel, rfl, by decide +kernel, by decide +kernel⟩
abbrev OkLLine (P : Program) (w : World) (K : PySem.W.Frag) (mg : Str → Option Value) (base : Heap) : Prop := OkG P w K mg base "_law_line" 3 ["_law_book_here", "_law_event_here"] (spP K 2 fLine)
theorem ok_LLine {P : Program} {w : World} {K : PySem.W.Frag} {mg : Str → Option Value} {base : Heap} (T : Tx K mg) (h_PrintStock : OkPrintStock P w K mg base) : OkLLine P w K mg base :=
  (by exact getit : Hold (OkLLine P w K mg base) (by
    have S := scLLine
    refine okG_p (m := 1) T.gLLine T.fLLine S rfl rfl (fun _ _ _ _ _ _ us hl => match us, hl with | [_, _], _ => rfl) fun cdv A outer s H E hr => ⟨_,
      (pss_cons (ps_set (i := 2) S.nd rfl (Or.inl rfl) (pe_lst (pa_cons (pe_ix (k_ixT (K := K) rfl) (pv 1) pe_int (fun _ _ => rfl)) (pa_cons (pe_ix (k_ixT (K := K) rfl) (pv 1) pe_int (fun _ _ => rfl)) (pa_cons (pe_ix (k_ixT (K := K) rfl) (pv 1) pe_int (fun _ _ => rfl)) pa_nil)))))
      (pss_cons (ps_if (pt_cmpR (k_eq (K := K) rfl hr.units) (pe_ix (k_ixT (K := K) rfl) (pv 1) pe_int (fun _ _ => rfl)) pe_str (nomark _)) (pss_one (ps_expr (k_app (K := K) rfl (pv 2) (pa_cons (pe_ix (k_ixT (K := K) rfl) (pe_ix (k_ixT (K := K) rfl) (pe_ix (k_ixT (K := K) rfl) (pv 0) pe_int (fun _ _ => rfl)) (pe_ix (k_ixT (K := K) rfl) (pv 1) pe_int (fun _ _ => rfl)) (fun _ _ => rfl)) pe_int (fun _ _ => rfl)) pa_nil)))) (pss_one (ps_if (pt_cmpR (k_ne (K := K) rfl hr.units) (pe_ix (k_ixT (K := K) rfl) (pv 1) pe_int (fun _ _ => rfl)) pe_str (nomark _)) (pss_one (ps_expr (k_app (K := K) rfl (pv 2) (pa_cons (pe_callTy call_strA (by rfl) T.b_str (by decide +kernel) (pa_cons (pe_ix (k_ixT (K := K) rfl) (pv 1) pe_int (fun _ _ => rfl)) pa_nil)) pa_nil)))) pss_nil)))
      (pss_cons (ps_if (pt_cmpR (k_ne (K := K) rfl hr.units) (pe_ix (k_ixT (K := K) rfl) (pv 1) pe_int (fun _ _ => rfl)) pe_str (nomark _)) (pss_one (ps_expr (k_app (K := K) rfl (pv 2) (pa_cons (pe_callG h_PrintStock (hr.mono (by decide)) (pa_cons (pv 0) (pa_cons (pe_ix (k_ixT (K := K) rfl) (pv 1) (pe_un un_neg pe_int) (fun _ _ => rfl)) pa_nil))) pa_nil)))) pss_nil)
      (pss_one (ps_ret (k_join (K := K) rfl pe_str (pv 2))))))), ?_⟩
    rintro ss P' ⟨b, e, rfl, B, E, Es, p⟩
    have L := (lw_ok B E Es).1
    cases e with
    | make s u m g =>
      obtain ⟨N1, N2, _, mv, hm, _⟩ := id E
      have hn : (b.ms[m]?.map Mv.nm).getD "" = mv.nm := by rw [hm]; rfl
      have pl : (printF b.ks g).length ≤ 400 := print_len B (StOk.ab Es)
      have el : lineF b (.make s u m g) = Txt.join spT ([("make" : Str), s, u, mv.nm] ++ [printF b.ks g]) := by rw [line_wds]; unfold lineF; rw [← hn]; rfl
      have l1 : s.length ≤ 12 := N1.le
      have l2 : u.length ≤ 12 := N2.le
      have l3 := (B.ms mv (List.mem_of_getElem? hm)).nm.le
      have l0 : ("make" : Str).length = 4 := by decide +kernel
      rw [el] at p
      refine ex_seq (ex_asg (ev_lstO ?_))
      walk_at "rds"
      refine ⟨_, asds_of rfl, by walk_at "len", fun aw => ?_⟩
      walk_at "rds"
      refine ⟨0, _, _, ⟨_, rfl, .dat _⟩, rfl, (by show 3 < sizeLine; decide), ?_⟩
      walk_at "rds"
      refine ⟨rfl, b, g, rfl, B, StOk.ab Es, ?_⟩
      walk_at "rds"
      refine ⟨0, _, _, ⟨_, rfl, .dat _⟩, rfl, (by show 4 < sizeLine; decide), ?_⟩
      walk_at "rds"
      refine ⟨[("make" : Str), s, u, mv.nm, printF b.ks g], .own (by walk_at "mem"), line_sum (fun x hx => ?_) (by show 5 ≤ 10; decide), ?_⟩
      · simp only [List.mem_cons, List.not_mem_nil, or_false] at hx
        rcases hx with rfl | rfl | rfl | rfl | rfl <;> omega
      walk_at "fin"
    | hand s u o g =>
      obtain ⟨N1, N2, N3, _⟩ := id E
      have pl : (printF b.ks g).length ≤ 400 := print_len B (StOk.ab Es)
      have el : lineF b (.hand s u o g) = Txt.join spT ([("hand" : Str), s, u, o] ++ [printF b.ks g]) := by rw [line_wds]; rfl
      have l1 : s.length ≤ 12 := N1.le
      have l2 : u.length ≤ 12 := N2.le
      have l3 : o.length ≤ 12 := N3.le
      have l0 : ("hand" : Str).length = 4 := by decide +kernel
      rw [el] at p
      refine ex_seq (ex_asg (ev_lstO ?_))
      walk_at "rds"
      refine ⟨_, asds_of rfl, by walk_at "len", fun aw => ?_⟩
      walk_at "rds"
      refine ⟨0, _, _, ⟨_, rfl, .dat _⟩, rfl, (by show 3 < sizeLine; decide), ?_⟩
      walk_at "rds"
      refine ⟨rfl, b, g, rfl, B, StOk.ab Es, ?_⟩
      walk_at "rds"
      refine ⟨0, _, _, ⟨_, rfl, .dat _⟩, rfl, (by show 4 < sizeLine; decide), ?_⟩
      walk_at "rds"
      refine ⟨[("hand" : Str), s, u, o, printF b.ks g], .own (by walk_at "mem"), line_sum (fun x hx => ?_) (by show 5 ≤ 10; decide), ?_⟩
      · simp only [List.mem_cons, List.not_mem_nil, or_false] at hx
        rcases hx with rfl | rfl | rfl | rfl | rfl <;> omega
      walk_at "fin"
    | send s u t g =>
      obtain ⟨N1, N2, t1, t2, _⟩ := id E
      have pl : (printF b.ks g).length ≤ 400 := print_len B (StOk.ab Es)
      have el : lineF b (.send s u t g) = Txt.join spT ([("send" : Str), s, u, numT t] ++ [printF b.ks g]) := by rw [line_wds]; rfl
      have l1 : s.length ≤ 12 := N1.le
      have l2 : u.length ≤ 12 := N2.le
      have l3 := (num_ok (x := t) (by omega) (by omega)).2.2
      have l0 : ("send" : Str).length = 4 := by decide +kernel
      rw [el] at p
      refine ex_seq (ex_asg (ev_lstO ?_))
      walk_at "rds"
      refine ⟨_, asds_of rfl, by walk_at "len", fun aw => ?_⟩
      walk_at "rds"
      refine ca_strAI (num_log (by omega) (by omega)) ?_
      walk_at "rds"
      refine ⟨0, _, _, ⟨_, rfl, .dat _⟩, rfl, (by show 3 < sizeLine; decide), ?_⟩
      walk_at "rds"
      refine ⟨rfl, b, g, rfl, B, StOk.ab Es, ?_⟩
      walk_at "rds"
      refine ⟨0, _, _, ⟨_, rfl, .dat _⟩, rfl, (by show 4 < sizeLine; decide), ?_⟩
      walk_at "rds"
      refine ⟨[("send" : Str), s, u, numT t, printF b.ks g], .own (by walk_at "mem"), line_sum (fun x hx => ?_) (by show 5 ≤ 10; decide), ?_⟩
      · simp only [List.mem_cons, List.not_mem_nil, or_false] at hx
        rcases hx with rfl | rfl | rfl | rfl | rfl <;> omega
      walk_at "fin"
    | land s u t =>
      obtain ⟨N1, N2, t1, t2⟩ := id E
      have el : lineF b (.land s u t) = Txt.join spT [("land" : Str), s, u, numT t] := rfl
      have l1 : s.length ≤ 12 := N1.le
      have l2 : u.length ≤ 12 := N2.le
      have l3 := (num_ok (x := t) (by omega) (by omega)).2.2
      have l0 : ("land" : Str).length = 4 := by decide +kernel
      rw [el] at p
      refine ex_seq (ex_asg (ev_lstO ?_))
      walk_at "rds"
      refine ⟨_, asds_of rfl, by walk_at "len", fun aw => ?_⟩
      walk_at "rds"
      refine ca_strAI (num_log (by omega) (by omega)) ?_
      walk_at "rds"
      refine ⟨0, _, _, ⟨_, rfl, .dat _⟩, rfl, (by show 3 < sizeLine; decide), ?_⟩
      walk_at "rds"
      refine ⟨[("land" : Str), s, u, numT t], .own (by walk_at "mem"), line_sum (fun x hx => ?_) (by show 4 ≤ 10; decide), ?_⟩
      · simp only [List.mem_cons, List.not_mem_nil, or_false] at hx
        rcases hx with rfl | rfl | rfl | rfl <;> omega
      walk_at "fin"
    | forge s u g =>
      obtain ⟨N1, N2, _⟩ := id E
      have pl : (printF b.ks g).length ≤ 400 := print_len B (StOk.ab Es)
      have el : lineF b (.forge s u g) = Txt.join spT ([("forge" : Str), s, u] ++ [printF b.ks g]) := by rw [line_wds]; rfl
      have l1 : s.length ≤ 12 := N1.le
      have l2 : u.length ≤ 12 := N2.le
      have l0 : ("forge" : Str).length = 5 := by decide +kernel
      rw [el] at p
      refine ex_seq (ex_asg (ev_lstO ?_))
      walk_at "rds"
      refine ⟨_, asds_of rfl, by walk_at "len", fun aw => ?_⟩
      walk_at "rds"
      refine ⟨rfl, b, g, rfl, B, StOk.ab Es, ?_⟩
      walk_at "rds"
      refine ⟨0, _, _, ⟨_, rfl, .dat _⟩, rfl, (by show 3 < sizeLine; decide), ?_⟩
      walk_at "rds"
      refine ⟨[("forge" : Str), s, u, printF b.ks g], .own (by walk_at "mem"), line_sum (fun x hx => ?_) (by show 4 ≤ 10; decide), ?_⟩
      · simp only [List.mem_cons, List.not_mem_nil, or_false] at hx
        rcases hx with rfl | rfl | rfl | rfl <;> omega
      walk_at "fin"))
theorem sent_head {h : List Ev} {t : Int} {g : List Int} (hs : sentF h t = some g) : ((h.filter fun e => match e with | .send _ _ u _ => decide (u = t) | _ => false).map fun e => match e with | .send _ _ _ g => stk g | _ => PyData.none)[0]? = some (stk g) := by
  induction h with
  | nil => cases hs
  | cons e r ih =>
    cases e with
    | send s u t' g' =>
      have hs : (if t' = t then some g' else sentF r t) = some g := hs
      by_cases c : t' = t
      · rw [if_pos c] at hs
        cases hs
        rw [List.filter_cons, if_pos (by simp [c])]
        rfl
      · rw [if_neg c] at hs
        rw [List.filter_cons, if_neg (by simp [c])]
        exact ih hs
    | make s u m g' => exact ih hs
    | hand s u o g' => exact ih hs
    | land s u t' => exact ih hs
    | forge s u g' => exact ih hs
def fLFlow : PSp := fun ss P => ∃ b h e, ss = [.dat (bkD b), .dat (hL h), .dat (evD e)] ∧ 1 ≤ b.n ∧ b.n ≤ 6 ∧ h.length ≤ 100 ∧ FlOk b h e ∧ P (.dat (rowD (flowF b h e)))
abbrev NLFlow : List Str := ["_law_book_here", "_law_history_here", "_law_event_here", "_law_n", "_law_place", "_law_sent", "_law_one"]
theorem scLFlow : FnScope NLFlow ["_law_book_here", "_law_history_here", "_law_event_here"] (defScope sLFlow) := ⟨rfl, rfl, rfl, by decide +kernel, rfl, by decide +kernel, by decide +kernel⟩
abbrev OkLFlow (P : Program) (w : World) (K : PySem.W.Frag) (mg : Str → Option Value) (base : Heap) : Prop := OkG P w K mg base "_law_flow" 1 ["_law_book_here", "_law_history_here", "_law_event_here"] (spP K 3 fLFlow)
theorem ok_LFlow {P : Program} {w : World} {K : PySem.W.Frag} {mg : Str → Option Value} {base : Heap} (T : Tx K mg)  : OkLFlow P w K mg base :=
  (by exact getit : Hold (OkLFlow P w K mg base) (by
    have S := scLFlow
    refine okG_p (m := 4) T.gLFlow T.fLFlow S rfl rfl (fun _ _ _ _ _ _ us hl => match us, hl with | [_, _, _], _ => rfl) fun cdv A outer s H E hr => ⟨_,
      (pss_cons (ps_set (i := 3) S.nd rfl (Or.inl rfl) (pe_callB (k_len (K := K) rfl) (by rfl) T.b_len (by decide +kernel) (pa_cons (pe_ix (k_ixT (K := K) rfl) (pv 0) pe_int (fun _ _ => rfl)) pa_nil)))
      (pss_cons (ps_set (i := 4) S.nd rfl (Or.inl rfl) (pe_tup (pa_cons (pe_ix (k_ixT (K := K) rfl) (pv 2) pe_int (fun _ _ => rfl)) (pa_cons (pe_ix (k_ixT (K := K) rfl) (pv 2) pe_int (fun _ _ => rfl)) pa_nil))))
      (pss_cons (ps_if (pt_cmpR (k_eq (K := K) rfl hr.units) (pe_ix (k_ixT (K := K) rfl) (pv 2) pe_int (fun _ _ => rfl)) pe_str (nomark _)) (pss_one (ps_ret (pe_tup (pa_cons (pv 4) (pa_cons (pe_ix (k_ixT (K := K) rfl) (pe_ix (k_ixT (K := K) rfl) (pe_ix (k_ixT (K := K) rfl) (pv 0) pe_int (fun _ _ => rfl)) (pe_ix (k_ixT (K := K) rfl) (pv 2) pe_int (fun _ _ => rfl)) (fun _ _ => rfl)) pe_int (fun _ _ => rfl)) (pa_cons (pv 4) (pa_cons (pe_ix (k_ixT (K := K) rfl) (pv 2) pe_int (fun _ _ => rfl)) pa_nil))))))) pss_nil)
      (pss_cons (ps_if (pt_cmpR (k_eq (K := K) rfl hr.units) (pe_ix (k_ixT (K := K) rfl) (pv 2) pe_int (fun _ _ => rfl)) pe_str (nomark _)) (pss_one (ps_ret (pe_tup (pa_cons (pv 4) (pa_cons (pe_ix (k_ixT (K := K) rfl) (pv 2) pe_int (fun _ _ => rfl)) (pa_cons (pe_tup (pa_cons (pe_ix (k_ixT (K := K) rfl) (pv 2) pe_int (fun _ _ => rfl)) (pa_cons (pe_ix (k_ixT (K := K) rfl) (pv 2) pe_int (fun _ _ => rfl)) pa_nil))) (pa_cons (pe_ix (k_ixT (K := K) rfl) (pv 2) pe_int (fun _ _ => rfl)) pa_nil))))))) pss_nil)
      (pss_cons (ps_if (pt_cmpR (k_eq (K := K) rfl hr.units) (pe_ix (k_ixT (K := K) rfl) (pv 2) pe_int (fun _ _ => rfl)) pe_str (nomark _)) (pss_one (ps_ret (pe_tup (pa_cons (pv 4) (pa_cons (pe_ix (k_ixT (K := K) rfl) (pv 2) pe_int (fun _ _ => rfl)) (pa_cons pe_non (pa_cons (pe_op (k_repA (K := K) rfl) (pe_tup (pa_cons pe_int pa_nil)) (pv 3)) pa_nil))))))) pss_nil)
      (pss_cons (ps_if (pt_cmpR (k_eq (K := K) rfl hr.units) (pe_ix (k_ixT (K := K) rfl) (pv 2) pe_int (fun _ _ => rfl)) pe_str (nomark _)) (pss_cons (ps_setLc (i := 5) (own := [("_law_one", 6)]) rfl S.nd rfl rfl (sw_true rfl rfl rfl (by decide +kernel)) (k_list (K := K) rfl (pv 1)) (blkOk_by (N := NLFlow) (sc := defScope sLFlow) (by decide +kernel)) (fun _ _ _ _ _ => (pg_name (i := 6) S.nd rfl (Or.inl rfl))) (fun _ _ _ _ _ => (pts_one (PW.pt (pw_and (pt_cmpR (k_eq (K := K) rfl hr.units) (pe_ix (k_ixT (K := K) rfl) (pv 6) pe_int (fun _ _ => rfl)) pe_str (nomark _)) (pw_and1 (pt_cmpR (k_eq (K := K) rfl hr.units) (pe_ix (k_ixT (K := K) rfl) (pv 6) pe_int (fun _ _ => rfl)) (pe_ix (k_ixT (K := K) rfl) (pv 2) pe_int (fun _ _ => rfl)) (nomark _))))))) (fun _ _ _ _ _ => (pe_ix (k_ixT (K := K) rfl) (pv 6) pe_int (fun _ _ => rfl))))
      (pss_one (ps_ret (pe_tup (pa_cons pe_non (pa_cons (pe_op (k_repA (K := K) rfl) (pe_tup (pa_cons pe_int pa_nil)) (pv 3)) (pa_cons (pv 4) (pa_cons (pe_ix (k_ixL (K := K) rfl) (pv 5) pe_int (fun _ _ => rfl)) pa_nil)))))))) pss_nil)
      (pss_one (ps_ret (pe_tup (pa_cons pe_non (pa_cons (pe_op (k_repA (K := K) rfl) (pe_tup (pa_cons pe_int pa_nil)) (pv 3)) (pa_cons (pv 4) (pa_cons (pe_ix (k_ixT (K := K) rfl) (pv 2) pe_int (fun _ _ => rfl)) pa_nil))))))))))))), ?_⟩
    rintro ss P' ⟨b, h, e, rfl, n1, n6, hl, ho, p⟩
    cases e with
    | make s w m g =>
      obtain ⟨mv, hm⟩ := ho
      have e1 : (flowF b h (.make s w m g)) = ⟨some (s, w), mv.tk, some (s, w), g⟩ := by show Rw.mk _ ((b.ms[m]?.map Mv.tk).getD []) _ _ = _; rw [hm]; rfl
      rw [e1] at p
      walk_at "rds"
      walk_at "fin"
    | hand s w o g =>
      walk_at "rds"
      walk_at "fin"
    | send s w t g =>
      walk_at "rds"
      walk_at "fin"
    | land s w t =>
      obtain ⟨x, hx⟩ := ho
      have e1 : (flowF b h (.land s w t)) = ⟨none, zr b.n, some (s, w), x⟩ := by show Rw.mk _ _ _ ((sentF h t).getD []) = _; rw [hx]; rfl
      rw [e1] at p
      walk_at "rds"
      refine lcA h evD (fun e => match e with | .send _ _ u _ => decide (u = t) | _ => false) (fun e => match e with | .send _ _ _ g => stk g | _ => PyData.none) (wg_name (by decide)) ?_
      walk_at "rds"
      refine ⟨rfl, by omega, fun e _ => ?_, ?_⟩
      · cases e with
        | send s' w' u g =>
          walk_at "rds"
          refine ⟨rfl, ?_⟩
          walk_at "rds"
          refine ⟨rfl, rfl, fun _ => ?_⟩
          walk_at "rds"
          exact ⟨.dat _, rfl⟩
        | _ =>
          walk_at "rds"
          refine ⟨rfl, ?_⟩
          walk_at "rds"
          exact ⟨rfl, rfl, fun h => nomatch h⟩
      · walk_at "rds"
        refine op_ixL (show atI _ ((0 : Nat) : Int) = some (stk x) from atI_nat (sent_head hx)) ?_
        walk_at "rds"
        walk_at "fin"
    | forge s w g =>
      walk_at "rds"
      walk_at "fin"))
/-! ## F19 -/
open TL (tl)
theorem getD_of {a : List Int} {k : Nat} {x : Int} (h : a[k]? = some x) : a.getD k 0 = x := by rw [List.getD_eq_getElem?_getD, h]; rfl
theorem get_ex {a : List Int} {k n : Nat} (hl : a.length = n) (hk : k < n) : ∃ x, a[k]? = some x := ⟨_, List.getElem?_eq_getElem (by omega)⟩
theorem zip_range {f : Int → Int → Int} {a b : List Int} {n : Nat} (ha : a.length = n) (hb : b.length = n) : (List.range n).map (fun k => PyData.int (f (a.getD k 0) (b.getD k 0))) = (List.zipWith f a b).map .int := by
  rw [← ha]
  exact zip_map PyData.int (by omega)
def carG (h1 : HeldT) (gt : Option SS) (give : List Int) : HeldT :=
  match gt with
  | none => h1
  | some k => putD h1 k (addS (getH h1 k give.length) give)
theorem carF_eq (h : HeldT) (r : Rw) : carF h r = carG (carT h r) r.getter r.give := rfl
def aDone : ASp := fun ss μ P => ∃ b h e ah aw, ss = [.dat (bkD b), .dat (hL (h ++ [e])), .val (.ref ah), .val (.ref aw), .dat (evD e)] ∧ μ = [(ah, .dt (hdE (runW b h).held)), (aw, .dk (wyE (runW b h).way))] ∧ BkOk b ∧ Hist b h ∧ OkE b (runW b h) e ∧ h.length < 60 ∧
  P (.dat (.bool true)) [.dt (hdE (runW b (h ++ [e])).held), .dk (wyE (runW b (h ++ [e])).way)] []
abbrev NLDone : List Str := ["_law_book_here", "_law_history_here", "_law_held", "_law_way_here", "_law_event_here", "_law_n", "_law_taker", "_law_take_here", "_law_getter", "_law_give", "_law_have", "_law_k"]
theorem scLDone : FnScope NLDone ["_law_book_here", "_law_history_here", "_law_held", "_law_way_here", "_law_event_here"] (defScope sLDone) := ⟨rfl, rfl, rfl, by decide +kernel, rfl, by decide +kernel, by decide +kernel⟩
abbrev OkLDone (P : Program) (w : World) (K : PySem.W.Frag) (mg : Str → Option Value) (base : Heap) : Prop := OkG P w K mg base "_law_done" 2 ["_law_book_here", "_law_history_here", "_law_held", "_law_way_here", "_law_event_here"] (spA K 5 aDone)
theorem ok_LDone {P : Program} {w : World} {K : PySem.W.Frag} {mg : Str → Option Value} {base : Heap} (T : Tx K mg) (h_LFlow : OkLFlow P w K mg base) : OkLDone P w K mg base :=
  (by exact getit : Hold (OkLDone P w K mg base) (by
    have S := scLDone
    refine okG_a (m := 7) T.gLDone T.fLDone S rfl rfl (fun _ _ _ _ _ _ us hl => match us, hl with | [_, _, _, _, _], _ => rfl) fun cdv A outer s H E hr => ⟨_,
      (pss_cons (ps_set (i := 5) S.nd rfl (Or.inl rfl) (pe_callB (k_len (K := K) rfl) (by rfl) T.b_len (by decide +kernel) (pa_cons (pe_ix (k_ixT (K := K) rfl) (pv 0) pe_int (fun _ _ => rfl)) pa_nil)))
      (pss_cons (ps_asg (pe_callG h_LFlow (hr.mono (by decide)) (pa_cons (pv 0) (pa_cons (pv 1) (pa_cons (pv 4) pa_nil)))) (k_ptup (K := K) 4 rfl rfl (pgs_cons (pg_name (i := 6) S.nd rfl (Or.inl rfl)) (pgs_cons (pg_name (i := 7) S.nd rfl (Or.inr rfl)) (pgs_cons (pg_name (i := 8) S.nd rfl (Or.inl rfl)) (pgs_cons (pg_name (i := 9) S.nd rfl (Or.inr rfl)) pgs_nil))))))
      (pss_cons (ps_if (pt_cmp (pc_notN (pv 6)) rfl) (pss_cons (ps_set (i := 10) S.nd rfl (Or.inr rfl) (pe_dget2 (hu_of hr) (pv 2) (pv 6) (pe_op (k_repA (K := K) rfl) (pe_tup (pa_cons pe_int pa_nil)) (pv 5)) ⟨rfl, rfl, rfl, rfl⟩))
      (pss_cons (ps_if (pt_val (pe_callB (k_any (K := K) rfl rfl) (by rfl) T.b_any (by decide +kernel) (pa_cons (pe_lc (own := [("_law_k", 11)]) (tt := tYes) rfl S.nd (pi_range1 (by rfl) T.b_range (pa_cons (pv 5) pa_nil)) (blkOk_by (N := NLDone) (sc := defScope sLDone) (by decide +kernel)) (fun _ _ _ _ _ => (pg_name (i := 11) S.nd rfl (Or.inl rfl))) (fun _ _ _ _ _ => pts_nil) (fun _ _ _ _ _ => (pe_cmpR op_lt (pe_ix (k_ixT (K := K) rfl) (pv 10) (pv 11) (fun _ _ => rfl)) (pe_ix (k_ixT (K := K) rfl) (pv 7) (pv 11) (fun _ _ => rfl)) (nomark _)))) pa_nil))) (pss_one (ps_ret pe_bl)) pss_nil)
      (pss_one (ps_dput (hu_of hr) (pv 2) (pv 6) (pe_callTy (k_tup (K := K) rfl) (by rfl) T.b_tuple (by decide +kernel) (pa_cons (pe_lc (own := [("_law_k", 11)]) (tt := tYes) rfl S.nd (pi_range1 (by rfl) T.b_range (pa_cons (pv 5) pa_nil)) (blkOk_by (N := NLDone) (sc := defScope sLDone) (by decide +kernel)) (fun _ _ _ _ _ => (pg_name (i := 11) S.nd rfl (Or.inl rfl))) (fun _ _ _ _ _ => pts_nil) (fun _ _ _ _ _ => (pe_op op_sub (pe_ix (k_ixT (K := K) rfl) (pv 10) (pv 11) (fun _ _ => rfl)) (pe_ix (k_ixT (K := K) rfl) (pv 7) (pv 11) (fun _ _ => rfl))))) pa_nil)) rfl)))) pss_nil)
      (pss_cons (ps_if (pt_cmp (pc_notN (pv 8)) rfl) (pss_cons (ps_set (i := 10) S.nd rfl (Or.inr rfl) (pe_dget2 (hu_of hr) (pv 2) (pv 8) (pe_op (k_repA (K := K) rfl) (pe_tup (pa_cons pe_int pa_nil)) (pv 5)) ⟨rfl, rfl, rfl, rfl⟩))
      (pss_one (ps_dput (hu_of hr) (pv 2) (pv 8) (pe_callTy (k_tup (K := K) rfl) (by rfl) T.b_tuple (by decide +kernel) (pa_cons (pe_lc (own := [("_law_k", 11)]) (tt := tYes) rfl S.nd (pi_range1 (by rfl) T.b_range (pa_cons (pv 5) pa_nil)) (blkOk_by (N := NLDone) (sc := defScope sLDone) (by decide +kernel)) (fun _ _ _ _ _ => (pg_name (i := 11) S.nd rfl (Or.inl rfl))) (fun _ _ _ _ _ => pts_nil) (fun _ _ _ _ _ => (pe_op op_add (pe_ix (k_ixT (K := K) rfl) (pv 10) (pv 11) (fun _ _ => rfl)) (pe_ix (k_ixT (K := K) rfl) (pv 9) (pv 11) (fun _ _ => rfl))))) pa_nil)) rfl))) pss_nil)
      (pss_cons (ps_if (pt_cmpR (k_eq (K := K) rfl hr.units) (pe_ix (k_ixT (K := K) rfl) (pv 4) pe_int (fun _ _ => rfl)) pe_str (nomark _)) (pss_one (ps_dput (hu_of hr) (pv 3) (pe_ix (k_ixT (K := K) rfl) (pv 4) pe_int (fun _ _ => rfl)) (pe_ix (k_ixT (K := K) rfl) (pv 4) pe_int (fun _ _ => rfl)) rfl)) pss_nil)
      (pss_cons (ps_if (pt_cmpR (k_eq (K := K) rfl hr.units) (pe_ix (k_ixT (K := K) rfl) (pv 4) pe_int (fun _ _ => rfl)) pe_str (nomark _)) (pss_one (ps_expr (pe_dpop1 (pv 3) (pe_ix (k_ixT (K := K) rfl) (pv 4) pe_int (fun _ _ => rfl)) ⟨rfl, rfl, rfl, rfl⟩))) pss_nil)
      (pss_one (ps_ret pe_bl)))))))), ?_⟩
    rintro ss μ P' ⟨b, h, e, ah, aw, rfl, rfl, B, Hh, O, hl, p⟩
    have W := Hh.wd' B
    have fl := FlOk.of (q := [e]) W O
    have fe := flow_eq (b := b) (q := [e]) W O.ft
    have R := HrOk.of B W O
    have Ro := row_ok B W O
    have b1 := B.n1
    have b6 := B.n6
    have wh := W.hlen
    have ww := W.wlen
    rw [runW_snoc] at p
    generalize runW b h = w at *
    have ef : (stepW b w e).held = carF w.held (flowW b w e) := rfl
    have ew : (stepW b w e).way = wayE w.way e := rfl
    rw [ef, ew] at p
    have po := O.po
    walk_at "rds0"
    refine ⟨rfl, b, h ++ [e], e, rfl, b1, b6, by simp; omega, fl, ?_⟩
    rw [fe]
    have ft : FitT w e := O.ft
    generalize flowW b w e = r at *
    obtain ⟨tk, take, gt, give⟩ := r
    have tl : take.length = b.n := R.tl
    have gl : give.length = b.n := R.gl
    have tn : ∀ x ∈ take, 0 ≤ x := Ro.tn
    have cT := carT_len R
    have cS := carT_size w.held ⟨tk, take, gt, give⟩
    walk_at "rds0"
    refine ex_nx (fun δ' μ' => ∃ z, δ' = [.dat (bkD b), .dat (hL (h ++ [e])), .val (.ref ah), .val (.ref aw), .dat (evD e), .dat (.int b.n), .dat (plD tk), .dat (stk take), .dat (plD gt), .dat (stk give), z, .any] ∧ μ' = [(ah, .dt (hdE (carT w.held ⟨tk, take, gt, give⟩))), (aw, .dk (wyE w.way))]) ?_ ?_
    · cases tk with
      | none =>
        walk_at "rds"
        rfl
      | some k =>
        have po : covF (getH w.held k take.length) take = true := po
        rw [tl] at po
        have Sh := getH_ok (n := b.n) W.held (by have := Bd_pos h.length; omega) k
        have hv := Sh.1
        walk_at "rds"
        refine ⟨_, _, _, .dat _, .dat _, dic_held k (by walk_at "mem"), ?_⟩
        rw [show zr b.ks.length = zr b.n from rfl, getH_dat]
        have ec : carT w.held ⟨some k, take, gt, give⟩ = putD w.held k (subS (getH w.held k b.n) take) := by rw [← tl]; rfl
        rw [ec]
        generalize getH w.held k b.n = hv' at *
        walk_at "rds0"
        refine ex_ifP false ?_ (fun h => nomatch h) (fun _ => ?_)
        · walk_at "rds"
          refine lcU (List.range b.n) (fun k => .int (k : Nat)) (fun k => .bool (decide (hv'.getD k 0 < take.getD k 0))) (wg_name (by decide)) ?_
          walk_at "rds"
          refine ⟨by show b.n ≤ 100000; omega, by rw [rangeD_ints, List.map_map]; rfl, by simp; omega, fun k hk => ?_, ?_⟩
          · have hk := List.mem_range.mp hk
            obtain ⟨x, hx⟩ := get_ex hv hk
            obtain ⟨y, hy⟩ := get_ex tl hk
            rw [getD_of hx, getD_of hy]
            walk_at "rds"
            refine ⟨rfl, ?_⟩
            walk_at "rds"
            exact ⟨.dat _, rfl⟩
          · walk_at "rds"
            refine ca_any' (bs := (List.range b.n).map fun k => decide (hv'.getD k 0 < take.getD k 0)) (by rw [List.map_map]; rfl) ?_
            walk_at "rds"
            refine ⟨?_, rfl⟩
            rw [List.any_eq_false]
            intro x hx
            obtain ⟨k, hk, rfl⟩ := List.mem_map.mp hx
            have hk := List.mem_range.mp hk
            obtain ⟨x, hx⟩ := get_ex hv hk
            obtain ⟨y, hy⟩ := get_ex tl hk
            rw [getD_of hx, getD_of hy]
            have := covF_le po (fun x hx => (Sh.2 x hx).1) hx hy
            simp
            omega
        · walk_at "rds"
          refine ex_dputT ?_
          walk_at "rds"
          refine lcU (List.range b.n) (fun k => .int (k : Nat)) (fun k => .int (hv'.getD k 0 - take.getD k 0)) (wg_name (by decide)) ?_
          walk_at "rds"
          refine ⟨by show b.n ≤ 100000; omega, by rw [rangeD_ints, List.map_map]; rfl, by simp; omega, fun k hk => ?_, ?_⟩
          · have hk := List.mem_range.mp hk
            obtain ⟨x, hx⟩ := get_ex hv hk
            obtain ⟨y, hy⟩ := get_ex tl hk
            rw [getD_of hx, getD_of hy]
            walk_at "rds"
            refine ⟨rfl, ?_⟩
            walk_at "rds"
            exact ⟨.dat _, rfl⟩
          rw [zip_range (f := fun x y => x - y) hv tl]
          walk_at "rds"
          refine ⟨0, pairK k, stk (subS hv' take), .dat _, rfl, _, rfl, sz_lt (by simp; omega), ?_⟩
          rw [held_put]
          exact ⟨_, rfl, rfl⟩
    rintro δ' μ' ⟨z, rfl, rfl⟩
    walk_at "rds0"
    refine ex_nx (fun δ' μ' => ∃ z, δ' = [.dat (bkD b), .dat (hL (h ++ [e])), .val (.ref ah), .val (.ref aw), .dat (evD e), .dat (.int b.n), .dat (plD tk), .dat (stk take), .dat (plD gt), .dat (stk give), z, .any] ∧ μ' = [(ah, .dt (hdE (carF w.held ⟨tk, take, gt, give⟩))), (aw, .dk (wyE w.way))]) ?_ ?_
    · have ef2 : carF w.held ⟨tk, take, gt, give⟩ = carG (carT w.held ⟨tk, take, gt, give⟩) gt give := carF_eq _ _
      rw [ef2]
      generalize carT w.held ⟨tk, take, gt, give⟩ = h1 at *
      cases gt with
      | none =>
        walk_at "rds"
        rfl
      | some k =>
        have hv := getH_len cT k
        rw [show carG h1 (some k) give = putD h1 k (addS (getH h1 k give.length) give) from rfl]
        walk_at "rds"
        refine ⟨_, _, _, .dat _, .dat _, dic_held k (by walk_at "mem"), ?_⟩
        rw [show zr b.ks.length = zr b.n from rfl, getH_dat]
        rw [gl]
        generalize getH h1 k b.n = hv' at *
        walk_at "rds"
        refine ex_dputT ?_
        walk_at "rds"
        refine lcU (List.range b.n) (fun k => .int (k : Nat)) (fun k => .int (hv'.getD k 0 + give.getD k 0)) (wg_name (by decide)) ?_
        walk_at "rds"
        refine ⟨by show b.n ≤ 100000; omega, by rw [rangeD_ints, List.map_map]; rfl, by simp; omega, fun k hk => ?_, ?_⟩
        · have hk := List.mem_range.mp hk
          obtain ⟨x, hx⟩ := get_ex hv hk
          obtain ⟨y, hy⟩ := get_ex gl hk
          rw [getD_of hx, getD_of hy]
          walk_at "rds"
          refine ⟨rfl, ?_⟩
          walk_at "rds"
          exact ⟨.dat _, rfl⟩
        rw [zip_range (f := fun x y => x + y) hv gl]
        walk_at "rds"
        refine ⟨0, pairK k, stk (addS hv' give), .dat _, rfl, _, rfl, sz_lt (by simp; omega), ?_⟩
        rw [held_put]
        exact ⟨_, rfl, rfl⟩
    rintro δ' μ' ⟨z, rfl, rfl⟩
    cases e with
    | send s u t g =>
      walk_at "rds"
      refine ex_dput ?_
      walk_at "rds"
      refine ⟨1, .inl t, stk g, .dat _, .dat _, _, rfl, sz_lt (by simp; omega), ?_⟩
      rw [way_put]
      walk_at "rds"
      walk_at "finA"
    | land s u t =>
      walk_at "rds"
      obtain ⟨g, hg⟩ := valD_key (valD_keys.mp (show (valD w.way t).isSome = true from ft))
      refine ⟨1, wyE w.way, .inl t, stk g, .dat _, rfl, by rw [way_val, hg]; rfl, ?_⟩
      rw [way_drop]
      walk_at "rds"
      walk_at "finA"
    | make s u m g =>
      walk_at "rds"
      walk_at "finA"
    | hand s u o g =>
      walk_at "rds"
      walk_at "finA"
    | forge s u g =>
      walk_at "rds"
      walk_at "finA"))
/-! ## F20 -/
open TL (tl)
def nmB (x : Str) : Bool := (match tl x with | [] => false | c :: _ => isLow c) && (tl x).all (fun c => isLow c || isDig c) && decide ((tl x).length ≤ 12) && !decide (x ∈ (["kinds", "nothing", "endless", "x"] : List Str))
theorem nmB_ok {x : Str} (h : nmB x = true) : NmOk x := by
  unfold nmB at h
  simp only [Bool.and_eq_true, decide_eq_true_eq, Bool.not_eq_true', decide_eq_false_iff_not] at h
  obtain ⟨⟨⟨h1, h2⟩, h3⟩, h4⟩ := h
  refine ⟨h3, ?_, fun c hc => ?_, h4⟩
  · cases e : tl x with
    | nil => rw [e] at h1; cases h1
    | cons c r => rw [e] at h1; exact ⟨c, r, e, h1⟩
  · have := List.all_eq_true.mp h2 c hc
    simpa using this
def shs : List Str := ["east", "west"]
def pps : List Str := ["ann", "bob", "cy"]
theorem shs_ok : ∀ x ∈ shs, NmOk x := by
  have h : shs.all nmB = true := by decide +kernel
  exact fun x hx => nmB_ok (List.all_eq_true.mp h x hx)
theorem pps_ok : ∀ x ∈ pps, NmOk x := by
  have h : pps.all nmB = true := by decide +kernel
  exact fun x hx => nmB_ok (List.all_eq_true.mp h x hx)
/-- who else -/
theorem pps_other {x : Str} (hx : x ∈ pps) : (pps.filter fun y => decide (y ≠ x)).length = 2 ∧ ∀ y ∈ pps.filter (fun y => decide (y ≠ x)), NmOk y ∧ y ≠ x := by
  have h : pps.all (fun x => decide ((pps.filter fun y => decide (y ≠ x)).length = 2)) = true := by decide +kernel
  refine ⟨of_decide_eq_true (List.all_eq_true.mp h x hx), fun y hy => ?_⟩
  obtain ⟨h1, h2⟩ := List.mem_filter.mp hy
  exact ⟨pps_ok y h1, of_decide_eq_true h2⟩
def aEv : ASp := fun ss μ P => ∃ d ob b h ah aw au, ss = [.val (.ref d), .dat (bkD b), .val (.ref ah), .val (.ref aw), .val (.ref au), .dat (.bool false)] ∧ μ = [(d, ob), (ah, .dt (hdE (runW b h).held)), (aw, .dk (wyE (runW b h).way)), (au, .ls ((runW b h).tks.map .int))] ∧
  Dr ob ∧ BkOk b ∧ BkLe b ∧ Hist b h ∧ h.length < 60 ∧ ∀ e ob', Dr ob' → OkE b (runW b h) e → P (.dat (evD e)) [ob', .dt (hdE (runW b h).held), .dk (wyE (runW b h).way), .ls ((tksE (runW b h).tks e).map .int)] []
abbrev NLEvent : List Str := ["_law_draws_here", "_law_book_here", "_law_held", "_law_way_here", "_law_used", "_law_free", "_law_n", "_law_shards", "_law_people", "_law_shard", "_law_who", "_law_have", "_law_kind", "_law_m", "_law_name", "_law_take_here", "_law_low", "_law_high", "_law_gives", "_law_part", "_law_other", "_law_ticket", "_law_tickets", "_law_entry", "_law_k"]
theorem scLEvent : FnScope NLEvent ["_law_draws_here", "_law_book_here", "_law_held", "_law_way_here", "_law_used", "_law_free"] (defScope sLEvent) := ⟨rfl, rfl, rfl, by decide +kernel, rfl, by decide +kernel, by decide +kernel⟩
abbrev OkLEvent (P : Program) (w : World) (K : PySem.W.Frag) (mg : Str → Option Value) (base : Heap) : Prop := OkG P w K mg base "_law_event" 3 ["_law_draws_here", "_law_book_here", "_law_held", "_law_way_here", "_law_used", "_law_free"] (spA K 6 aEv)
theorem ok_LEvent {P : Program} {w : World} {K : PySem.W.Frag} {mg : Str → Option Value} {base : Heap} (T : Tx K mg) (h_LStock : OkLStock P w K mg base) (h_LTake : OkLTake P w K mg base) : OkLEvent P w K mg base :=
  (by exact getit : Hold (OkLEvent P w K mg base) (by
    have S := scLEvent
    refine okG_a (m := 19) T.gLEvent T.fLEvent S rfl rfl (fun _ _ _ _ _ _ us hl => match us, hl with | [_, _, _, _, _, _], _ => rfl) fun cdv A outer s H E hr => ⟨_,
      (pss_cons (ps_set (i := 6) S.nd rfl (Or.inl rfl) (pe_callB (k_len (K := K) rfl) (by rfl) T.b_len (by decide +kernel) (pa_cons (pe_ix (k_ixT (K := K) rfl) (pv 1) pe_int (fun _ _ => rfl)) pa_nil)))
      (pss_cons (ps_set (i := 7) S.nd rfl (Or.inl rfl) (pe_lst (pa_cons pe_str (pa_cons pe_str pa_nil))))
      (pss_cons (ps_set (i := 8) S.nd rfl (Or.inl rfl) (pe_lst (pa_cons pe_str (pa_cons pe_str (pa_cons pe_str pa_nil)))))
      (pss_cons (ps_set (i := 9) S.nd rfl (Or.inl rfl) (pe_ix (k_ixL (K := K) rfl) (pv 7) (pe_callG h_LTake (hr.mono (by decide)) (pa_cons (pv 0) (pa_cons pe_int pa_nil))) (fun _ _ => rfl)))
      (pss_cons (ps_set (i := 10) S.nd rfl (Or.inr rfl) (pe_ix (k_ixL (K := K) rfl) (pv 8) (pe_callG h_LTake (hr.mono (by decide)) (pa_cons (pv 0) (pa_cons pe_int pa_nil))) (fun _ _ => rfl)))
      (pss_cons (ps_set (i := 11) S.nd rfl (Or.inr rfl) (pe_dget2 (hu_of hr) (pv 2) (pe_tup (pa_cons (pv 9) (pa_cons (pv 10) pa_nil))) (pe_op (k_repA (K := K) rfl) (pe_tup (pa_cons pe_int pa_nil)) (pv 6)) ⟨rfl, rfl, rfl, rfl⟩))
      (pss_cons (ps_set (i := 12) S.nd rfl (Or.inl rfl) (pe_callG h_LTake (hr.mono (by decide)) (pa_cons (pv 0) (pa_cons pe_int pa_nil))))
      (pss_cons (ps_if (PW.pt (pw_and (pt_cmpR op_lt (pv 12) pe_int (nomark _)) (pw_and1 (pt_cmpR op_gt (pe_callB (k_len (K := K) rfl) (by rfl) T.b_len (by decide +kernel) (pa_cons (pe_ix (k_ixT (K := K) rfl) (pv 1) pe_int (fun _ _ => rfl)) pa_nil)) pe_int (nomark _))))) (pss_cons (ps_set (i := 13) S.nd rfl (Or.inl rfl) (pe_callG h_LTake (hr.mono (by decide)) (pa_cons (pv 0) (pa_cons (pe_callB (k_len (K := K) rfl) (by rfl) T.b_len (by decide +kernel) (pa_cons (pe_ix (k_ixT (K := K) rfl) (pv 1) pe_int (fun _ _ => rfl)) pa_nil)) pa_nil))))
      (pss_cons (ps_asg (pe_ix (k_ixT (K := K) rfl) (pe_ix (k_ixT (K := K) rfl) (pv 1) pe_int (fun _ _ => rfl)) (pv 13) (fun _ _ => rfl)) (k_ptup (K := K) 4 rfl rfl (pgs_cons (pg_name (i := 14) S.nd rfl (Or.inl rfl)) (pgs_cons (pg_name (i := 15) S.nd rfl (Or.inr rfl)) (pgs_cons (pg_name (i := 16) S.nd rfl (Or.inr rfl)) (pgs_cons (pg_name (i := 17) S.nd rfl (Or.inr rfl)) pgs_nil))))))
      (pss_cons (ps_set (i := 18) S.nd rfl (Or.inl rfl) (pe_callTy (k_tup (K := K) rfl) (by rfl) T.b_tuple (by decide +kernel) (pa_cons (pe_lc (own := [("_law_k", 24)]) (tt := tYes) rfl S.nd (pi_range1 (by rfl) T.b_range (pa_cons (pv 6) pa_nil)) (blkOk_by (N := NLEvent) (sc := defScope sLEvent) (by decide +kernel)) (fun _ _ _ _ _ => (pg_name (i := 24) S.nd rfl (Or.inl rfl))) (fun _ _ _ _ _ => pts_nil) (fun _ _ _ _ _ => (pe_op op_add (pe_ix (k_ixT (K := K) rfl) (pv 16) (pv 24) (fun _ _ => rfl)) (pe_callG h_LTake (hr.mono (by decide)) (pa_cons (pv 0) (pa_cons (pe_op op_add (pe_op op_sub (pe_ix (k_ixT (K := K) rfl) (pv 17) (pv 24) (fun _ _ => rfl)) (pe_ix (k_ixT (K := K) rfl) (pv 16) (pv 24) (fun _ _ => rfl))) pe_int) pa_nil)))))) pa_nil)))
      (pss_one (ps_if (PW.pt (pw_or (pt_val (pv 5)) (pw_or1 (pt_val (pe_callB (k_all (K := K) rfl rfl) (by rfl) T.b_all (by decide +kernel) (pa_cons (pe_lc (own := [("_law_k", 24)]) (tt := tYes) rfl S.nd (pi_range1 (by rfl) T.b_range (pa_cons (pv 6) pa_nil)) (blkOk_by (N := NLEvent) (sc := defScope sLEvent) (by decide +kernel)) (fun _ _ _ _ _ => (pg_name (i := 24) S.nd rfl (Or.inl rfl))) (fun _ _ _ _ _ => pts_nil) (fun _ _ _ _ _ => (pe_cmpR op_ge (pe_ix (k_ixT (K := K) rfl) (pv 11) (pv 24) (fun _ _ => rfl)) (pe_ix (k_ixT (K := K) rfl) (pv 15) (pv 24) (fun _ _ => rfl)) (nomark _)))) pa_nil)))))) (pss_one (ps_ret (pe_tup (pa_cons pe_str (pa_cons (pv 9) (pa_cons (pv 10) (pa_cons (pv 13) (pa_cons (pv 18) pa_nil)))))))) pss_nil))))) pss_nil)
      (pss_cons (ps_set (i := 19) S.nd rfl (Or.inl rfl) (pe_callTy (k_tup (K := K) rfl) (by rfl) T.b_tuple (by decide +kernel) (pa_cons (pe_lc (own := [("_law_entry", 23)]) (tt := tYes) rfl S.nd (k_tupI (K := K) rfl (pv 11)) (blkOk_by (N := NLEvent) (sc := defScope sLEvent) (by decide +kernel)) (fun _ _ _ _ _ => (pg_name (i := 23) S.nd rfl (Or.inl rfl))) (fun _ _ _ _ _ => pts_nil) (fun _ _ _ _ _ => (pe_callG h_LTake (hr.mono (by decide)) (pa_cons (pv 0) (pa_cons (pe_op op_add (pv 23) pe_int) pa_nil))))) pa_nil)))
      (pss_cons (ps_if (PW.pt (pw_and (pt_val (pv 5)) (pw_and1 (pt_cmpR (k_eq (K := K) rfl hr.units) (pe_callG h_LTake (hr.mono (by decide)) (pa_cons (pv 0) (pa_cons pe_int pa_nil))) pe_int (nomark _))))) (pss_one (ps_set (i := 19) S.nd rfl (Or.inl rfl) (pe_callG h_LStock (hr.mono (by decide)) (pa_cons (pv 0) (pa_cons (pv 6) (pa_cons pe_int pa_nil)))))) pss_nil)
      (pss_cons (ps_if (PW.pt (pw_or (pt_cmpR (k_eq (K := K) rfl hr.units) (pv 12) pe_int (nomark _)) (pw_or1 (pt_cmpR (k_eq (K := K) rfl hr.units) (pv 12) pe_int (nomark _))))) (pss_cons (ps_set (i := 20) S.nd rfl (Or.inl rfl) (pe_ix (k_ixL (K := K) rfl) (pe_lc (own := [("_law_name", 14)]) rfl S.nd (k_list (K := K) rfl (pv 8)) (blkOk_by (N := NLEvent) (sc := defScope sLEvent) (by decide +kernel)) (fun _ _ _ _ _ => (pg_name (i := 14) S.nd rfl (Or.inl rfl))) (fun _ _ _ _ _ => (pts_one (pt_cmpR (k_ne (K := K) rfl hr.units) (pv 14) (pv 10) (nomark _)))) (fun _ _ _ _ _ => (pv 14))) (pe_callG h_LTake (hr.mono (by decide)) (pa_cons (pv 0) (pa_cons pe_int pa_nil))) (fun _ _ => rfl)))
      (pss_one (ps_ret (pe_tup (pa_cons pe_str (pa_cons (pv 9) (pa_cons (pv 10) (pa_cons (pv 20) (pa_cons (pv 19) pa_nil))))))))) pss_nil)
      (pss_cons (ps_if (pt_cmpR (k_eq (K := K) rfl hr.units) (pv 12) pe_int (nomark _)) (pss_cons (ps_set (i := 21) S.nd rfl (Or.inl rfl) (pe_op op_add pe_int (pe_callG h_LTake (hr.mono (by decide)) (pa_cons (pv 0) (pa_cons pe_int pa_nil)))))
      (pss_one (ps_if (pt_cmpR (k_nin (K := K) rfl) (pv 21) (pv 4) (by rfl)) (pss_cons (ps_expr (k_app (K := K) rfl (pv 4) (pa_cons (pv 21) pa_nil)))
      (pss_one (ps_ret (pe_tup (pa_cons pe_str (pa_cons (pv 9) (pa_cons (pv 10) (pa_cons (pv 21) (pa_cons (pv 19) pa_nil))))))))) pss_nil))) pss_nil)
      (pss_cons (ps_if (PW.pt (pw_and (pt_cmpR (k_eq (K := K) rfl hr.units) (pv 12) pe_int (nomark _)) (pw_and1 (pt_cmpR (op_ne0 hr.units0) (pv 3) pe_dnewK (nomark _))))) (pss_cons (ps_set (i := 22) S.nd rfl (Or.inl rfl) (pe_callB (cr_sortDI rfl) (by rfl) T.b_sorted (by decide +kernel) (pa_cons (pv 3) pa_nil)))
      (pss_one (ps_ret (pe_tup (pa_cons pe_str (pa_cons (pv 9) (pa_cons (pv 10) (pa_cons (pe_ix (k_ixL (K := K) rfl) (pv 22) (pe_callG h_LTake (hr.mono (by decide)) (pa_cons (pv 0) (pa_cons (pe_callB (k_len (K := K) rfl) (by rfl) T.b_len (by decide +kernel) (pa_cons (pv 22) pa_nil)) pa_nil))) (fun _ _ => rfl)) pa_nil)))))))) pss_nil)
      (pss_one (ps_ret (pe_tup (pa_cons pe_str (pa_cons (pv 9) (pa_cons (pv 10) (pa_cons (pe_callG h_LStock (hr.mono (by decide)) (pa_cons (pv 0) (pa_cons (pv 6) (pa_cons pe_int pa_nil)))) pa_nil)))))))))))))))))))), ?_⟩
    rintro ss μ P' ⟨d, ob, b, h, ah, aw, au, rfl, rfl, D, B, Le, Hh, hl, p⟩
    have W := Hh.wd' B
    have tick := fun t s => Hh.tick B (t := t) (s := s)
    have b1 := B.n1
    have b6 := B.n6
    have m8 := B.m8
    have wh := W.hlen
    have ww := W.wlen
    have tkl := tks_len b h
    generalize runW b h = w at *
    have esh : [PyData.str "east", PyData.str "west"] = shs.map .str := rfl
    have epp : [PyData.str "ann", PyData.str "bob", PyData.str "cy"] = pps.map .str := rfl
    walk_at "rds"
    rw [esh]
    walk_at "rds"
    rw [epp]
    walk_at "rds"
    refine cA [0] (by decide) ?_
    walk_at "rds"
    refine ⟨rfl, [_], rfl, d, ob, _, rfl, rfl, D, by decide, fun i ob D i0 i1 => ?_⟩
    obtain ⟨k, rfl⟩ : ∃ k : Nat, i = k := ⟨i.toNat, by omega⟩
    obtain ⟨s, hs⟩ : ∃ s, shs[k]? = some s := ⟨_, List.getElem?_eq_getElem (show k < 2 by omega)⟩
    have Ns := shs_ok s (List.mem_of_getElem? hs)
    walk_at "rds"
    refine cA [0] (by decide) ?_
    walk_at "rds"
    refine ⟨rfl, [_], rfl, d, ob, _, rfl, rfl, D, by decide, fun i ob D i0 i1 => ?_⟩
    obtain ⟨k2, rfl⟩ : ∃ k : Nat, i = k := ⟨i.toNat, by omega⟩
    obtain ⟨u, hu⟩ : ∃ s, pps[k2]? = some s := ⟨_, List.getElem?_eq_getElem (show k2 < 3 by omega)⟩
    have um := List.mem_of_getElem? hu
    have Nu := pps_ok u um
    walk_at "rds"
    refine ⟨_, _, _, .dat _, .dat _, dic_held (s, u) (by walk_at "mem"), ?_⟩
    rw [show zr b.ks.length = zr b.n from rfl, getH_dat]
    have Sh := getH_ok (n := b.n) W.held (by have := Bd_pos h.length; omega) (s, u)
    have hvl := Sh.1
    have hvn : ∀ x ∈ getH w.held (s, u) b.n, 0 ≤ x := fun x hx => (Sh.2 x hx).1
    have hv0 : getH w.held (s, u) b.n = getH w.held (s, u) b.n := rfl
    generalize hvE : getH w.held (s, u) b.n = hv at *
    walk_at "rds"
    refine cA [0] (by decide) ?_
    walk_at "rds"
    refine ⟨rfl, [_], rfl, d, ob, _, rfl, rfl, D, by decide, fun kind ob D q0 q1 => ?_⟩
    walk_at "rds0"
    have po : ∀ g : List Int, g.length = b.n → (∀ x ∈ g, 0 ≤ x) → (∀ (i : Nat) x y, hv[i]? = some x → g[i]? = some y → y ≤ x) → covF (getH w.held (s, u) g.length) g = true := fun g gl gn gle => by
      rw [gl, hvE]
      exact covF_of_le hvn gn gle
    refine ex_nx (fun δ' μ' => ∃ z13 z14 z15 z16 z17 z18 ob, δ' = [.val (.ref d), .dat (bkD b), .val (.ref ah), .val (.ref aw), .val (.ref au), .dat (.bool false), .dat (.int b.n), .dat (.list (shs.map .str)), .dat (.list (pps.map .str)), .dat (.str s), .dat (.str u), .dat (stk hv), .dat (.int kind), z13, z14, z15, z16, z17, z18, .any, .any, .any, .any, .any, .any] ∧ μ' = [(d, ob), (ah, .dt (hdE w.held)), (aw, .dk (wyE w.way)), (au, .ls (w.tks.map .int))] ∧ Dr ob) ?_ ?_
    · refine ex_ifP (decide (kind < 3) && decide (0 < (b.ms.length : Int))) ?_ (fun hc => ?_) (fun hc => ?_)
      · refine et_andP (decide (kind < 3)) (decide (0 < (b.ms.length : Int))) ?_ (fun _ => ?_) ⟨rfl, rfl⟩
        · walk_at "rds"
          exact ⟨rfl, rfl⟩
        · walk_at "rds"
          exact ⟨rfl, rfl⟩
      · rw [Bool.and_eq_true] at hc
        have ml : 0 < (b.ms.length : Int) := of_decide_eq_true hc.2
        walk_at "rds"
        refine cA [0] (by decide) ?_
        walk_at "rds"
        refine ⟨rfl, [_], rfl, d, ob, _, rfl, rfl, D, by omega, fun i ob D i0 i1 => ?_⟩
        obtain ⟨m, rfl⟩ : ∃ k : Nat, i = k := ⟨i.toNat, by omega⟩
        obtain ⟨mv, hm⟩ : ∃ mv, b.ms[m]? = some mv := ⟨_, List.getElem?_eq_getElem (by omega)⟩
        have mm := List.mem_of_getElem? hm
        have Mo := B.ms mv mm
        have Ml := Le mv mm
        obtain ⟨nm, tk, lo, hi⟩ := mv
        have Mtk : StOk b.n 1000 tk := Mo.tk
        have Mlo : StOk b.n 1000 lo := Mo.lo
        have Mhi : StOk b.n 1000 hi := Mo.hi
        have Ml : LeS lo hi := Ml
        walk_at "rds"
        refine ev_lc (wg_name (by decide)) ?_
        walk_at "rds"
        refine ⟨by show b.n ≤ 100000; omega, fun j acc μ' => (∃ ob, ∃ vs : List Int, acc = vs.map .int ∧ μ' = [(d, ob), (ah, .dt (hdE w.held)), (aw, .dk (wyE w.way)), (au, .ls (w.tks.map .int))] ∧ Dr ob ∧ vs.length = j ∧ ∀ (i : Nat) x, vs[i]? = some x → ∃ y z, lo[i]? = some y ∧ hi[i]? = some z ∧ y ≤ x ∧ x ≤ z), ⟨ob, [], rfl, rfl, D, rfl, fun i x hx => (by simp at hx)⟩, fun j dd acc μ' hd hinv => ?_, fun acc μ' hinv => ?_⟩
        · obtain ⟨ob, vs, rfl, rfl, D, vl, vo⟩ := hinv
          obtain ⟨hj, rfl⟩ := range0 hd
          have hj : j < b.n := hj
          obtain ⟨y, hy⟩ := get_ex Mlo.1 hj
          obtain ⟨z, hz⟩ := get_ex Mhi.1 hj
          have hyz := Ml j y z hy hz
          walk_at "rds"
          refine et_yes ⟨fun _ => ?_, fun h => (nomatch h)⟩
          walk_at "rds"
          refine cA [0] (by decide) ?_
          walk_at "rds"
          refine ⟨rfl, [_], rfl, d, ob, _, rfl, rfl, D, by omega, fun x ob D x0 x1 => ?_⟩
          walk_at "rds"
          refine ⟨sz_lt (by simp; omega), ob, vs ++ [y + x], by rw [List.map_append]; rfl, rfl, D, by simp [vl], fun i q hq => ?_⟩
          by_cases c : i < vs.length
          · rw [List.getElem?_append_left c] at hq
            exact vo i q hq
          · have : i = vs.length := by
              have := (List.getElem?_eq_some_iff.mp hq).1
              simp at this
              omega
            subst this
            simp at hq
            subst hq
            exact ⟨y, z, by rw [vl]; exact hy, by rw [vl]; exact hz, by omega, by omega⟩
        · obtain ⟨ob, vs, rfl, rfl, D, vl, vo⟩ := hinv
          rw [rangeD_len] at vl
          have vl : vs.length = b.n := vl
          have Sv : StOk b.n 1000 vs := ⟨vl, fun x hx => by
            obtain ⟨i, hi2⟩ := List.mem_iff_getElem?.mp hx
            obtain ⟨y, z, hy, hz, h1, h2⟩ := vo i x hi2
            have := Mlo.2 y (List.mem_of_getElem? hy)
            have := Mhi.2 z (List.mem_of_getElem? hz)
            omega⟩
          have c1 : covF vs lo = true := covF_of_le (fun x hx => (Sv.2 x hx).1) (fun x hx => (Mlo.2 x hx).1) fun i x y hx hy => by
            obtain ⟨y', z, hy', hz, h1, h2⟩ := vo i x hx
            rw [hy] at hy'
            cases hy'
            exact h1
          have c2 : covF hi vs = true := covF_of_le (fun x hx => (Mhi.2 x hx).1) (fun x hx => (Sv.2 x hx).1) fun i x y hx hy => by
            obtain ⟨y', z, hy', hz, h1, h2⟩ := vo i y hy
            rw [hx] at hz
            cases hz
            exact h2
          walk_at "rds0"
          refine ex_ifP (((List.range b.n).map fun k => decide (tk.getD k 0 ≤ hv.getD k 0)).all id) ?_ (fun ha => ?_) (fun ha => ?_)
          · refine et_orP false _ ?_ (fun _ => ?_) ⟨Bool.false_or _, rfl⟩
            · walk_at "rds"
              exact ⟨rfl, rfl⟩
            · walk_at "rds"
              refine lcU (List.range b.n) (fun k => .int (k : Nat)) (fun k => .bool (decide (tk.getD k 0 ≤ hv.getD k 0))) (wg_name (by decide)) ?_
              walk_at "rds"
              refine ⟨by show b.n ≤ 100000; omega, by rw [rangeD_ints, List.map_map]; rfl, by simp; omega, fun k hk => ?_, ?_⟩
              · have hk := List.mem_range.mp hk
                obtain ⟨x, hx⟩ := get_ex hvl hk
                obtain ⟨y, hy⟩ := get_ex Mtk.1 hk
                rw [getD_of hx, getD_of hy]
                walk_at "rds"
                refine ⟨rfl, ?_⟩
                walk_at "rds"
                exact ⟨.dat _, rfl⟩
              · walk_at "rds"
                refine ca_all' (bs := (List.range b.n).map fun k => decide (tk.getD k 0 ≤ hv.getD k 0)) (by rw [List.map_map]; rfl) ?_
                walk_at "rds"
                exact ⟨rfl, rfl⟩
          · walk_at "rds"
            have pc : covF hv tk = true := covF_of_le hvn (fun x hx => (Mtk.2 x hx).1) fun i x y hx hy => by
              have hi2 : i < b.n := by have := (List.getElem?_eq_some_iff.mp hx).1; omega
              have := List.all_eq_true.mp ha _ (List.mem_map.mpr ⟨i, List.mem_range.mpr hi2, rfl⟩)
              have := of_decide_eq_true this
              rw [getD_of hx, getD_of hy] at this
              exact this
            have O : OkE b w (.make s u m vs) := ⟨⟨Ns, Nu, Sv, _, hm, c1, c2⟩, trivial, by
              show covF (getH w.held (s, u) ((b.ms[m]?.map Mv.tk).getD []).length) ((b.ms[m]?.map Mv.tk).getD []) = true
              rw [hm]
              show covF (getH w.held (s, u) tk.length) tk = true
              rw [Mtk.1, hvE]
              exact pc⟩
            have p := p _ ob D O
            walk_at "finA"
          · walk_at "rds"
            exact ⟨_, _, _, _, _, _, ob, rfl, rfl, D⟩
      · walk_at "rds"
        exact ⟨_, _, _, _, _, _, ob, rfl, rfl, D⟩
    rintro δ' μ' ⟨z13, z14, z15, z16, z17, z18, ob, rfl, rfl, D⟩
    walk_at "rds0"
    refine ev_lc (wg_name (by decide)) ?_
    walk_at "rds"
    refine ⟨fun j acc μ' => (∃ ob, ∃ vs : List Int, acc = vs.map .int ∧ μ' = [(d, ob), (ah, .dt (hdE w.held)), (aw, .dk (wyE w.way)), (au, .ls (w.tks.map .int))] ∧ Dr ob ∧ vs.length = j ∧ ∀ (i : Nat) x, vs[i]? = some x → 0 ≤ x ∧ ∀ h, hv[i]? = some h → x ≤ h), ⟨ob, [], rfl, rfl, D, rfl, fun i x hx => (by simp at hx)⟩, fun j dd acc μ' hd hinv => ?_, fun acc μ' hinv => ?_⟩
    · obtain ⟨ob, vs, rfl, rfl, D, vl, vo⟩ := hinv
      obtain ⟨h', hh, rfl⟩ := of_map hd
      have hpos := hvn h' (List.mem_of_getElem? hh)
      have hjl := (List.getElem?_eq_some_iff.mp hh).1
      walk_at "rds"
      refine et_yes ⟨fun _ => ?_, fun h => (nomatch h)⟩
      walk_at "rds"
      refine cA [0] (by decide) ?_
      walk_at "rds"
      refine ⟨rfl, [_], rfl, d, ob, _, rfl, rfl, D, by omega, fun x ob D x0 x1 => ?_⟩
      refine ⟨_, .dat _, sz_lt (by simp; omega), ob, vs ++ [x], by rw [List.map_append]; rfl, rfl, D, by simp [vl], fun i z hz => ?_⟩
      by_cases c : i < vs.length
      · rw [List.getElem?_append_left c] at hz
        exact vo i z hz
      · have : i = vs.length := by
          have := (List.getElem?_eq_some_iff.mp hz).1
          simp at this
          omega
        subst this
        simp at hz
        subst hz
        refine ⟨x0, fun h2 hh2 => ?_⟩
        rw [vl, hh] at hh2
        cases hh2
        omega
    obtain ⟨ob, g, rfl, rfl, D, vl, vo⟩ := hinv
    rw [List.length_map, hvl] at vl
    have gn : ∀ x ∈ g, 0 ≤ x := fun x hx => by
      obtain ⟨i, hi2⟩ := List.mem_iff_getElem?.mp hx
      exact (vo i x hi2).1
    have gpo := po g vl gn fun i x y hx hy => (vo i y hy).2 x hx
    walk_at "rds0"
    refine ex_ifP false (et_andP false false ?_ (fun h => nomatch h) ⟨rfl, rfl⟩) (fun h => nomatch h) (fun _ => ?_)
    · walk_at "rds"
      exact ⟨rfl, rfl⟩
    walk_at "rds0"
    refine ex_ifP (decide (kind = 3) || decide (kind = 4)) (et_orP (decide (kind = 3)) (decide (kind = 4)) ?_ (fun _ => ?_) ⟨rfl, rfl⟩) (fun hc => ?_) (fun hc => ?_)
    · walk_at "rds"
      exact ⟨rfl, rfl⟩
    · walk_at "rds"
      exact ⟨rfl, rfl⟩
    · walk_at "rds"
      have uo := Nu.asc.ok
      refine lcA pps .str (fun y => decide (y ≠ u)) .str (wg_name (by decide)) ?_
      walk_at "rds"
      refine ⟨rfl, by decide, fun y hy => ?_, ?_⟩
      · have yo := (pps_ok y hy).asc.ok
        walk_at "rds"
        refine ⟨rfl, ?_⟩
        walk_at "rds"
        refine ⟨by simp, rfl, fun _ => ?_⟩
        walk_at "rds"
        exact ⟨.dat _, rfl⟩
      obtain ⟨pl, pn⟩ := pps_other um
      generalize (pps.filter fun y => decide (y ≠ u)) = oth at *
      walk_at "rds"
      refine cA [0] (by decide) ?_
      walk_at "rds"
      refine ⟨rfl, [_], rfl, d, ob, _, rfl, rfl, D, by decide, fun i ob D i0 i1 => ?_⟩
      obtain ⟨q, rfl⟩ : ∃ k : Nat, i = k := ⟨i.toNat, by omega⟩
      obtain ⟨o, ho⟩ : ∃ o, oth[q]? = some o := ⟨_, List.getElem?_eq_getElem (by omega)⟩
      obtain ⟨No, one⟩ := pn o (List.mem_of_getElem? ho)
      walk_at "rds"
      have p := p (.hand s u o g) ob D ⟨⟨Ns, Nu, No, one, vl, gn⟩, trivial, gpo⟩
      walk_at "finA"
    walk_at "rds0"
    refine ex_nx (fun δ' μ' => ∃ z20 z21 ob, δ' = [.val (.ref d), .dat (bkD b), .val (.ref ah), .val (.ref aw), .val (.ref au), .dat (.bool false), .dat (.int b.n), .dat (.list (shs.map .str)), .dat (.list (pps.map .str)), .dat (.str s), .dat (.str u), .dat (stk hv), .dat (.int kind), z13, z14, z15, z16, z17, z18, .dat (stk g), z20, z21, .any, .any, .any] ∧ μ' = [(d, ob), (ah, .dt (hdE w.held)), (aw, .dk (wyE w.way)), (au, .ls (w.tks.map .int))] ∧ Dr ob) ?_ ?_
    · refine ex_ifP (decide (kind = 5)) ?_ (fun hc => ?_) (fun hc => ?_)
      · walk_at "rds"
        exact ⟨rfl, rfl⟩
      · walk_at "rds"
        refine cA [0] (by decide) ?_
        walk_at "rds"
        refine ⟨rfl, [_], rfl, d, ob, _, rfl, rfl, D, by decide, fun x ob D x0 x1 => ?_⟩
        walk_at "rds"
        refine op_inI (.own (by walk_at "mem")) ?_
        walk_at "rds"
        refine ⟨fun hb => ?_, fun hb => ?_⟩
        · have hn : 1 + x ∉ w.tks := by simpa using hb
          walk_at "rds"
          refine ⟨3, w.tks.map .int, _, ⟨_, rfl, .dat _⟩, rfl, sz_lt (by simp; omega), ?_⟩
          walk_at "rds"
          have p := p (.send s u (1 + x) g) ob D ⟨⟨Ns, Nu, by omega, by omega, vl, gn⟩, hn, gpo⟩
          rw [show (tksE w.tks (.send s u (1 + x) g)).map PyData.int = w.tks.map .int ++ [.int (1 + x)] by simp [tksE]] at p
          walk_at "finA"
        · walk_at "rds"
          exact ⟨_, _, ob, rfl, rfl, D⟩
      · walk_at "rds"
        exact ⟨_, _, ob, rfl, rfl, D⟩
    rintro δ' μ' ⟨z20, z21, ob, rfl, rfl, D⟩
    walk_at "rds0"
    refine ex_nx (fun δ' μ' => ∃ z22 pre, δ' = [.val (.ref d), .dat (bkD b), .val (.ref ah), .val (.ref aw), .val (.ref au), .dat (.bool false), .dat (.int b.n), .dat (.list (shs.map .str)), .dat (.list (pps.map .str)), .dat (.str s), .dat (.str u), .dat (stk hv), .dat (.int kind), z13, z14, z15, z16, z17, z18, .dat (stk g), z20, z21, z22, .any, .any] ∧ μ' = pre ++ [(d, ob), (ah, .dt (hdE w.held)), (aw, .dk (wyE w.way)), (au, .ls (w.tks.map .int))] ∧ (pre = [] ∨ ∃ p0, pre = [(p0, .dk [])])) ?_ ?_
    · refine ex_if (et_and ?_)
      walk_at "rds"
      refine ⟨fun hb => ?_, fun hb => ?_⟩
      · walk_at "rds"
        refine ev_dnewK fun p0 => ?_
        refine op_ne0d (es := wyE w.way) (by walk_at "mem") (by walk_at "mem") ?_
        refine ⟨_, rfl, fun hb => ?_, fun hb => ?_⟩
        · have wne : 1 ≤ w.way.length := by
            cases hw : w.way with
            | nil => rw [hw] at hb; cases hb
            | cons _ _ => simp
          walk_at "rds"
          refine ca_sortW (by walk_at "mem") (by omega) ?_
          have sl : (sortI (w.way.map (·.1))).length = w.way.length := by rw [(sortI_perm _).length_eq, List.length_map]
          have sk : ∀ t ∈ sortI (w.way.map (·.1)), t ∈ w.way.map (·.1) := fun t ht => (sortI_perm _).mem_iff.mp ht
          generalize sortI (w.way.map (·.1)) = ts at *
          walk_at "rds"
          refine cA [1] (by decide) ?_
          walk_at "rds"
          refine ⟨rfl, [_], rfl, d, ob, _, rfl, rfl, D, by omega, fun i ob D i0 i1 => ?_⟩
          obtain ⟨q, rfl⟩ : ∃ k : Nat, i = k := ⟨i.toNat, by omega⟩
          obtain ⟨t, ht⟩ : ∃ o, ts[q]? = some o := ⟨_, List.getElem?_eq_getElem (by omega)⟩
          obtain ⟨g2, hg2⟩ := valD_key (sk t (List.mem_of_getElem? ht))
          obtain ⟨t1, t2, _⟩ := tick t g2 hg2
          walk_at "rds"
          have p := p (.land s u t) ob D ⟨⟨Ns, Nu, t1, t2⟩, by show (valD w.way t).isSome = true; rw [hg2]; rfl, rfl⟩
          walk_at "finA"
        · walk_at "rds"
          exact ⟨_, [(p0, .dk [])], rfl, rfl, .inr ⟨p0, rfl⟩⟩
      · walk_at "rds"
        exact ⟨_, [], rfl, rfl, .inl rfl⟩
    rintro δ' μ' ⟨z22, pre, rfl, rfl, hp | ⟨p0, hp⟩⟩
    · subst hp
      walk_at "rds"
      refine cA [0] (by decide) ?_
      walk_at "rds"
      refine ⟨rfl, [_], rfl, d, ob, b.n, 9, rfl, rfl, D, b6, by decide, fun st ob D S => ?_⟩
      walk_at "rds"
      have p := p (.forge s u st) ob D ⟨⟨Ns, Nu, S.mono (by decide)⟩, trivial, rfl⟩
      walk_at "finA"
    · subst hp
      walk_at "rds"
      refine cA [1] (by decide) ?_
      walk_at "rds"
      refine ⟨rfl, [_], rfl, d, ob, b.n, 9, rfl, rfl, D, b6, by decide, fun st ob D S => ?_⟩
      walk_at "rds"
      have p := p (.forge s u st) ob D ⟨⟨Ns, Nu, S.mono (by decide)⟩, trivial, rfl⟩
      walk_at "finA"))
/-! ## F21 -/
open TL (tl)
def aHist : ASp := fun ss μ P => ∃ d ob b c, ss = [.val (.ref d), .dat (bkD b), .dat (.int (c : Nat))] ∧ μ = [(d, ob)] ∧ Dr ob ∧ BkOk b ∧ BkLe b ∧ c ≤ 60 ∧ ∀ h ob' p x y, Dr ob' → Hist b h → P (.val (.ref p)) [ob'] [(p, .tp [.dat (hD h), .val x, .val y])]
abbrev NLHistory : List Str := ["_law_draws_here", "_law_book_here", "_law_count", "_law_held", "_law_way_here", "_law_used", "_law_history_here", "_law_k", "_law_event_here"]
theorem scLHistory : FnScope NLHistory ["_law_draws_here", "_law_book_here", "_law_count"] (defScope sLHistory) := ⟨rfl, rfl, rfl, by decide +kernel, rfl, by decide +kernel, by decide +kernel⟩
abbrev OkLHistory (P : Program) (w : World) (K : PySem.W.Frag) (mg : Str → Option Value) (base : Heap) : Prop := OkG P w K mg base "_law_history" 4 ["_law_draws_here", "_law_book_here", "_law_count"] (spA K 3 aHist)
theorem ok_LHistory {P : Program} {w : World} {K : PySem.W.Frag} {mg : Str → Option Value} {base : Heap} (T : Tx K mg) (h_LDone : OkLDone P w K mg base) (h_LEvent : OkLEvent P w K mg base) : OkLHistory P w K mg base :=
  (by exact getit : Hold (OkLHistory P w K mg base) (by
    have S := scLHistory
    refine okG_a (m := 6) T.gLHistory T.fLHistory S rfl rfl (fun _ _ _ _ _ _ us hl => match us, hl with | [_, _, _], _ => rfl) fun cdv A outer s H E hr => ⟨_,
      (pss_cons (ps_set (i := 3) S.nd rfl (Or.inl rfl) pe_dnewT)
      (pss_cons (ps_set (i := 4) S.nd rfl (Or.inl rfl) pe_dnewK)
      (pss_cons (ps_set (i := 5) S.nd rfl (Or.inl rfl) (pe_lst pa_nil))
      (pss_cons (ps_set (i := 6) S.nd rfl (Or.inl rfl) (pe_lst pa_nil))
      (pss_cons (ps_for PassesOwn.never rfl (pi_range1 (by rfl) T.b_range (pa_cons (pv 2) pa_nil)) (pg_name (i := 7) S.nd rfl (Or.inl rfl)) (pss_cons (ps_set (i := 8) S.nd rfl (Or.inl rfl) (pe_callG h_LEvent (hr.mono (by decide)) (pa_cons (pv 0) (pa_cons (pv 1) (pa_cons (pv 3) (pa_cons (pv 4) (pa_cons (pv 5) (pa_cons pe_bl pa_nil))))))))
      (pss_one (ps_if (pt_val (pe_callG h_LDone (hr.mono (by decide)) (pa_cons (pv 1) (pa_cons (pe_op op_cat (pv 6) (pe_lst (pa_cons (pv 8) pa_nil))) (pa_cons (pv 3) (pa_cons (pv 4) (pa_cons (pv 8) pa_nil))))))) (pss_one (ps_expr (k_app (K := K) rfl (pv 6) (pa_cons (pv 8) pa_nil)))) pss_nil))))
      (pss_one (ps_ret (pe_tup (pa_cons (pe_callTy (k_tup (K := K) rfl) (by rfl) T.b_tuple (by decide +kernel) (pa_cons (pv 6) pa_nil)) (pa_cons (pv 3) (pa_cons (pv 4) pa_nil))))))))))), ?_⟩
    rintro ss μ P' ⟨d, ob, b, c, rfl, rfl, D, B, Le, hc, p⟩
    walk_at "rds"
    refine ev_dnewT fun ah => ?_
    walk_at "rds"
    refine ev_dnewK fun aw => ?_
    walk_at "rds"
    refine ev_nilO fun au => ?_
    walk_at "rds"
    refine ev_nilO fun ahi => ?_
    walk_at "rds"
    refine ⟨by omega, fun k δ' μ' => (∃ z7 z8 ob h, δ' = [.val (.ref d), .dat (bkD b), .dat (.int c), .val (.ref ah), .val (.ref aw), .val (.ref au), .val (.ref ahi), z7, z8] ∧ μ' = [(ahi, .ls (h.map evD)), (au, .ls ((runW b h).tks.map .int)), (aw, .dk (wyE (runW b h).way)), (ah, .dt (hdE (runW b h).held)), (d, ob)] ∧ Dr ob ∧ Hist b h ∧ h.length = k), ⟨_, _, ob, [], rfl, rfl, D, Hist.nil, rfl⟩, fun k dd δ' μ' hd hinv => ?_, fun δ' μ' hinv => ?_⟩
    · obtain ⟨z7, z8, ob, h, rfl, rfl, D, Hh, lk⟩ := hinv
      obtain ⟨hk, rfl⟩ := range0 hd
      have hl : h.length < 60 := by omega
      walk_at "rds"
      refine cA [4, 3, 2, 1] (by decide) ?_
      walk_at "rds"
      refine ⟨rfl, [_, _, _, _], rfl, d, ob, b, h, ah, aw, au, rfl, rfl, D, B, Le, Hh, hl, fun e ob D O => ?_⟩
      walk_at "rds"
      refine cA [3, 2] (by decide) ?_
      walk_at "rds"
      refine op_catL (.own (by walk_at "mem")) (.lst _) (sz_of (by simp; omega)) ?_
      walk_at "rds"
      refine ⟨rfl, [_, _], rfl, b, h, e, ah, aw, by rw [show h.map evD ++ [evD e] = (h ++ [e]).map evD by simp], rfl, B, Hh, O, hl, ?_⟩
      walk_at "rds"
      refine ⟨0, h.map evD, _, ⟨_, rfl, .dat _⟩, rfl, sz_lt (by simp; omega), ?_⟩
      walk_at "rds"
      refine ⟨_, _, ob, h ++ [e], rfl, ?_, D, Hh.snoc hl O, by simp [lk]⟩
      rw [runW_snoc]
      simp
      rfl
    · obtain ⟨z7, z8, ob, h, rfl, rfl, D, Hh, lk⟩ := hinv
      refine ex_ret (ev_tupS ?_)
      walk_at "rds"
      intro q
      have p := p h ob q (.ref ah) (.ref aw) D Hh
      walk_at "finA"))
theorem evn_ok : Asc evnT ∧ evnT.length ≤ 40 := by
  have : (tl evnT).all (· < 128) = true ∧ evnT.length ≤ 40 := by decide +kernel
  exact ⟨fun c hc => by simpa using List.all_eq_true.mp this.1 c hc, this.2⟩
def aEntered (K : PySem.W.Frag) : ASp := fun ss μ P => ∃ b h, ss = [.dat (bkD b), .dat (hD h)] ∧ μ = [] ∧ BkOk b ∧ Hist b h ∧ ∀ A, P (.val (.ref A.x)) [] (seMu K A b h (runW b h))
abbrev NLEntered : List Str := ["_law_book_here", "_law_history_here", "_law_session", "_law_k"]
theorem scLEntered : FnScope NLEntered ["_law_book_here", "_law_history_here"] (defScope sLEntered) := ⟨rfl, rfl, rfl, by decide +kernel, rfl, by decide +kernel, by decide +kernel⟩
abbrev OkLEntered (P : Program) (w : World) (K : PySem.W.Frag) (mg : Str → Option Value) (base : Heap) : Prop := OkG P w K mg base "_law_entered" 9 ["_law_book_here", "_law_history_here"] (spA K 2 (aEntered K))
theorem ok_LEntered {P : Program} {w : World} {K : PySem.W.Frag} {mg : Str → Option Value} {base : Heap} (T : Tx K mg) (h_MInit : OkMInit P w K mg base) (h_MEnter : OkMEnter P w K mg base) (h_LLine : OkLLine P w K mg base) : OkLEntered P w K mg base :=
  (by exact getit : Hold (OkLEntered P w K mg base) (by
    have S := scLEntered
    refine okG_a (m := 2) T.gLEntered T.fLEntered S rfl rfl (fun _ _ _ _ _ _ us hl => match us, hl with | [_, _], _ => rfl) fun cdv A outer s H E hr => ⟨_,
      (pss_cons (ps_set (i := 2) S.nd rfl (Or.inl rfl) (k_make (K := K) rfl T.mkS T.gSession h_MInit (hr.mono (by decide)) (pa_cons (pv 0) pa_nil)))
      (pss_cons (ps_for PassesOwn.never rfl (pi_range1 (by rfl) T.b_range (pa_cons (pe_callB (k_len (K := K) rfl) (by rfl) T.b_len (by decide +kernel) (pa_cons (pv 1) pa_nil)) pa_nil)) (pg_name (i := 3) S.nd rfl (Or.inl rfl)) (pss_one (ps_if (pt_cmpR (k_ne (K := K) rfl hr.units) (k_meth (K := K) rfl T.cl T.mEnter h_MEnter (hr.mono (by decide)) (pv 2) (pa_cons (pe_callG h_LLine (hr.mono (by decide)) (pa_cons (pv 0) (pa_cons (pe_ix (k_ixT (K := K) rfl) (pv 1) (pv 3) (fun _ _ => rfl)) pa_nil))) pa_nil)) (pe_lst (pa_cons (pe_op op_addT pe_str (pe_callTy call_strI (by rfl) T.b_str (by decide +kernel) (pa_cons (pv 3) pa_nil))) pa_nil)) (nomark _)) (pss_one (ps_ret pe_non)) pss_nil)))
      (pss_one (ps_ret (pv 2))))), ?_⟩
    rintro ss μ P' ⟨b, h, rfl, rfl, B, Hh, p⟩
    have hl60 := Hh.len
    walk_at "rds"
    refine ev_make ?_
    walk_at "rds"
    refine ⟨rfl, _, Subs.refl _, fun x => ?_⟩
    refine ⟨x, b, rfl, rfl, fun e hh w t => ⟨rfl, ?_⟩⟩
    walk_at "rds"
    have p := p ⟨x, e, hh, w, t⟩
    rw [rangeD_len]
    refine ⟨by omega, fun k δ' μ' => (∃ z, δ' = [.dat (bkD b), .dat (hD h), .val (.ref x), z] ∧ μ' = seMu K ⟨x, e, hh, w, t⟩ b (h.take k) (runW b (h.take k))), ⟨_, rfl, rfl⟩, fun k d δ' μ' hd hinv => ?_, fun δ' μ' hinv => ?_⟩
    · obtain ⟨z, rfl, rfl⟩ := hinv
      obtain ⟨hk, rfl⟩ := range0 hd
      obtain ⟨ev, X⟩ := Hh.at B hk
      have he := X.eg
      have tlen : (h.take k).length = k := by rw [List.length_take]; omega
      have Es := evs_of B X.wd X.ok (by omega)
      have nl := num_ok (x := (k : Int)) (by omega) (by omega)
      have eo := evn_ok
      walk_at "rds"
      refine cM [0, 1, 2, 3, 4] (by decide) ?_
      walk_at "rds"
      refine ⟨rfl, b, ev, rfl, B, X.ok.ev, Es, ?_⟩
      walk_at "rds"
      refine ⟨rfl, [_, _, _, _, _], rfl, ⟨x, e, hh, w, t⟩, b, h.take k, lineF b ev, [evnT ++ numT (h.take k).length], h.take k ++ [ev], rfl, rfl, B, Hh.take k, Ans.ev ev X.ok (by omega), ?_⟩
      rw [tlen]
      walk_at "rds"
      refine ca_strI (num_log (by omega) (by omega)) ?_
      walk_at "rds"
      refine op_tt (sz_of (by show evnT.length + _ ≤ _; have := eo.2; omega)) ?_
      walk_at "rds"
      refine op_ne_same (.dat _) (.dat _) (shn_lst (n := 5) fun d hd => ?_) (by decide) ?_
      · rw [List.map_singleton] at hd
        rw [List.mem_singleton.mp hd]
        exact shn_str (Asc.app eo.1 nl.2.1).ok
      walk_at "rds"
      rw [take_get he]
      rfl
    · obtain ⟨z, rfl, rfl⟩ := hinv
      rw [List.take_length]
      walk_at "rds"
      walk_at "finA"))
/-! ## M6 -/
/-! Plain: what a session is seen to hold. -/
theorem getter_pl {b : Bk} {w : Wd} {e : Ev} {k : SS} (E : EvOk b e) (ht : (flowW b w e).getter = some k) : PlOk k := by
  have P := ev_pl E
  cases e with
  | make s u m g => have : some (s, u) = some k := ht; cases this; exact P
  | hand s u o g => have : some (s, o) = some k := ht; cases this; exact ⟨E.1, E.2.2.1⟩
  | send s u t g => cases (show (none : Option SS) = some k from ht)
  | land s u t => have : some (s, u) = some k := ht; cases this; exact P
  | forge s u g => have : some (s, u) = some k := ht; cases this; exact P
theorem takerW_pl {b : Bk} {w : Wd} {e : Ev} {k : SS} (E : EvOk b e) (ht : (flowW b w e).taker = some k) : PlOk k := by
  have P := ev_pl E
  cases e with
  | make s u m g => have : some (s, u) = some k := ht; cases this; exact P
  | hand s u o g => have : some (s, u) = some k := ht; cases this; exact P
  | send s u t g => have : some (s, u) = some k := ht; cases this; exact P
  | land s u t => cases (show (none : Option SS) = some k from ht)
  | forge s u g => cases (show (none : Option SS) = some k from ht)
theorem held_pl {b : Bk} {h : List Ev} (B : BkOk b) (H : Hist b h) : ∀ k, k ≤ h.length → ∀ p ∈ (runW b (h.take k)).held, PlOk p.1
  | 0, _, p, hp => by cases hp
  | k + 1, hk, p, hp => by
    obtain ⟨e, X⟩ := H.at B (show k < h.length by omega)
    rw [X.st] at hp
    have ih := held_pl B H k (by omega)
    have hp : p ∈ carF (runW b (h.take k)).held (flowW b (runW b (h.take k)) e) := hp
    generalize runW b (h.take k) = w at *
    have h1 : ∀ p ∈ carT w.held (flowW b w e), PlOk p.1 := fun p hp => by
      unfold carT at hp
      cases ht : (flowW b w e).taker with
      | none => rw [ht] at hp; exact ih p hp
      | some k =>
        rw [ht] at hp
        rcases putD_mem hp with z | z
        · subst z; exact takerW_pl X.ok.ev ht
        · exact ih p z
    unfold carF at hp
    cases ht : (flowW b w e).getter with
    | none => rw [ht] at hp; exact h1 p hp
    | some k =>
      rw [ht] at hp
      rcases putD_mem hp with z | z
      · subst z; exact getter_pl X.ok.ev ht
      · exact h1 p z
theorem held_pl' {b : Bk} {h : List Ev} (B : BkOk b) (H : Hist b h) : ∀ p ∈ (runW b h).held, PlOk p.1 := by
  have := held_pl B H h.length (Nat.le_refl _)
  rwa [List.take_length] at this
theorem shown_mem {hd : HeldT} {p : SS × List Int} (hp : p ∈ shownF hd) : valD hd p.1 = some p.2 ∧ p.1 ∈ hd.map (·.1) := by
  unfold shownF at hp
  obtain ⟨k, hk, rfl⟩ := List.mem_map.mp hp
  have km := (sortK_perm _).mem_iff.mp (List.mem_filter.mp hk).1
  obtain ⟨s, hs⟩ := valD_key km
  exact ⟨by show valD hd k = some ((valD hd k).getD []); rw [hs]; rfl, km⟩
theorem zero_stk {n : Nat} {s : List Int} (hl : s.length = n) (h : s.any (· != 0) = false) : s = zr n := by
  subst hl
  rw [List.eq_replicate_iff]
  refine ⟨rfl, fun x hx => ?_⟩
  have := List.any_eq_false.mp h x hx
  simpa using this
theorem seen_head {hd : HeldT} {n : Nat} (hl : ∀ p ∈ hd, p.2.length = n) (k : SS) : (((shownF hd).filter fun p => decide (p.1 = k)).map (fun p => stk p.2) ++ [stk (zr n)])[0]? = some (stk (getH hd k n)) := by
  cases hf : (shownF hd).filter fun p => decide (p.1 = k) with
  | cons p r =>
    have hp : p ∈ (shownF hd).filter fun p => decide (p.1 = k) := by rw [hf]; exact List.mem_cons_self
    obtain ⟨h1, h2⟩ := List.mem_filter.mp hp
    have h2 : p.1 = k := of_decide_eq_true h2
    have h3 := (shown_mem h1).1
    rw [h2] at h3
    show some (stk p.2) = some (stk (getH hd k n))
    unfold getH
    rw [h3]
    rfl
  | nil =>
    show some (stk (zr n)) = some (stk (getH hd k n))
    congr 2
    unfold getH
    cases hv : valD hd k with
    | none => rfl
    | some s =>
      have hm := valD_mem hv
      show zr n = s
      have hz : s.any (· != 0) = false := by
        cases ha : s.any (· != 0) with
        | false => rfl
        | true =>
          exfalso
          have km : k ∈ hd.map (·.1) := List.mem_map.mpr ⟨_, hm, rfl⟩
          have : (k, s) ∈ (shownF hd).filter fun p => decide (p.1 = k) := by
            refine List.mem_filter.mpr ⟨?_, decide_eq_true rfl⟩
            unfold shownF
            refine List.mem_map.mpr ⟨k, List.mem_filter.mpr ⟨(sortK_perm _).mem_iff.mpr km, ?_⟩, ?_⟩
            · rw [hv]; exact ha
            · rw [hv]; rfl
          rw [hf] at this
          cases this
      exact (zero_stk (hl _ hm) hz).symm
theorem wayF_mem {w : WayT} {p : Int × List Int} (hp : p ∈ wayF w) : valD w p.1 = some p.2 := by
  unfold wayF at hp
  obtain ⟨t, ht, rfl⟩ := List.mem_map.mp hp
  obtain ⟨s, hs⟩ := valD_key ((sortI_perm _).mem_iff.mp ht)
  show valD w t = some ((valD w t).getD [])
  rw [hs]; rfl
theorem wayLs_eq (b : Bk) (w : WayT) : wayLs b w = (wayF w).map fun p => numT p.1 ++ spT ++ printF b.ks p.2 := by
  unfold wayLs wayF
  rw [List.map_map]
  rfl
def hldT : Str := "holding "
theorem hold_line (s u : Str) : hldT ++ s ++ spT ++ u = Txt.join spT [holdT, s, u] := by
  apply TL.ext_tl
  rw [TL.tl_append, TL.tl_append, TL.tl_append, join_tl, tl_sp]
  have : TL.tl hldT = TL.tl holdT ++ [32] := by unfold hldT holdT; decide +kernel
  rw [this]
  show _ = TL.tl holdT ++ ([32] ++ (TL.tl s ++ ([32] ++ TL.tl u)))
  simp
/-! ## F22 -/
open TL (tl)
def aSeen (K : PySem.W.Frag) : ASp := fun ss μ P => ∃ A b h, ss = [.val (.ref A.x), .dat (bkD b), .dat (hD h)] ∧ μ = seMu K A b h (runW b h) ∧ BkOk b ∧ Hist b h ∧ P (.dat (.bool true)) (seOb K A b h (runW b h)) []
theorem eqv_pair (a b c d : Str) : PyData.eqv (.tuple [.str a, .str b]) (.tuple [.str c, .str d]) = decide ((a, b) = (c, d)) := by
  have e : PyData.eqv (.tuple [.str a, .str b]) (.tuple [.str c, .str d]) = ((a == c) && (b == d)) := by
    simp [PyData.eqv, PyData.eqvAll]
  rw [e]
  by_cases h1 : a = c
  · by_cases h2 : b = d
    · simp [h1, h2]
    · simp [h1, h2]
  · simp [h1]
abbrev NLSeen : List Str := ["_law_session", "_law_book_here", "_law_history_here", "_law_holdings", "_law_under_way", "_law_shard", "_law_who", "_law_stock_here", "_law_lines", "_law_ticket", "_law_row"]
theorem scLSeen : FnScope NLSeen ["_law_session", "_law_book_here", "_law_history_here"] (defScope sLSeen) := ⟨rfl, rfl, rfl, by decide +kernel, rfl, by decide +kernel, by decide +kernel⟩
abbrev OkLSeen (P : Program) (w : World) (K : PySem.W.Frag) (mg : Str → Option Value) (base : Heap) : Prop := OkG P w K mg base "_law_seen" 9 ["_law_session", "_law_book_here", "_law_history_here"] (spA K 3 (aSeen K))
theorem ok_LSeen {P : Program} {w : World} {K : PySem.W.Frag} {mg : Str → Option Value} {base : Heap} (T : Tx K mg) (h_MEnter : OkMEnter P w K mg base) (h_CarryOut : OkCarryOut P w K mg base) (h_PrintStock : OkPrintStock P w K mg base) : OkLSeen P w K mg base :=
  (by exact getit : Hold (OkLSeen P w K mg base) (by
    have S := scLSeen
    refine okG_a (m := 8) T.gLSeen T.fLSeen S rfl rfl (fun _ _ _ _ _ _ us hl => match us, hl with | [_, _, _], _ => rfl) fun cdv A outer s H E hr => ⟨_,
      (pss_cons (ps_asg (pe_callG h_CarryOut (hr.mono (by decide)) (pa_cons (pv 1) (pa_cons (pv 2) pa_nil))) (k_ptup (K := K) 2 rfl rfl (pgs_cons (pg_name (i := 3) S.nd rfl (Or.inl rfl)) (pgs_cons (pg_name (i := 4) S.nd rfl (Or.inl rfl)) pgs_nil))))
      (pss_cons (ps_for PassesOwn.never rfl (k_list (K := K) rfl (pe_lst (pa_cons pe_str (pa_cons pe_str pa_nil)))) (pg_name (i := 5) S.nd rfl (Or.inr rfl)) (pss_one (ps_for PassesOwn.never rfl (k_list (K := K) rfl (pe_lst (pa_cons pe_str (pa_cons pe_str (pa_cons pe_str pa_nil))))) (pg_name (i := 6) S.nd rfl (Or.inr rfl)) (pss_cons (ps_set (i := 7) S.nd rfl (Or.inl rfl) (pe_op op_cat (pe_lc (own := [("_law_row", 10)]) rfl S.nd (k_tupI (K := K) rfl (pv 3)) (blkOk_by (N := NLSeen) (sc := defScope sLSeen) (by decide +kernel)) (fun _ _ _ _ _ => (pg_name (i := 10) S.nd rfl (Or.inl rfl))) (fun _ _ _ _ _ => (pts_one (pt_cmpR (k_eq (K := K) rfl hr.units) (pe_slice (k_slT (K := K) rfl) (pv 10) po_none (po_some pe_int)) (pe_tup (pa_cons (pv 5) (pa_cons (pv 6) pa_nil))) (nomark _)))) (fun _ _ _ _ _ => (pe_ix (k_ixT (K := K) rfl) (pv 10) pe_int (fun _ _ => rfl)))) (pe_lst (pa_cons (pe_op (k_repA (K := K) rfl) (pe_tup (pa_cons pe_int pa_nil)) (pe_callB (k_len (K := K) rfl) (by rfl) T.b_len (by decide +kernel) (pa_cons (pe_ix (k_ixT (K := K) rfl) (pv 1) pe_int (fun _ _ => rfl)) pa_nil))) pa_nil))))
      (pss_one (ps_if (pt_cmpR (k_ne (K := K) rfl hr.units) (k_meth (K := K) rfl T.cl T.mEnter h_MEnter (hr.mono (by decide)) (pv 0) (pa_cons (pe_op op_addT (pe_op op_addT (pe_op op_addT pe_str (pv 5)) pe_str) (pv 6)) pa_nil)) (pe_lst (pa_cons (pe_callG h_PrintStock (hr.mono (by decide)) (pa_cons (pv 1) (pa_cons (pe_ix (k_ixL (K := K) rfl) (pv 7) pe_int (fun _ _ => rfl)) pa_nil))) pa_nil)) (nomark _)) (pss_one (ps_ret pe_bl)) pss_nil))))))
      (pss_cons (ps_setLc (i := 8) (own := [("_law_ticket", 9), ("_law_stock_here", 7)]) (tt := tYes) rfl S.nd rfl rfl (sw_true rfl rfl rfl (by decide +kernel)) (k_tupI (K := K) rfl (pv 4)) (blkOk_by (N := NLSeen) (sc := defScope sLSeen) (by decide +kernel)) (fun _ _ _ _ _ => (k_ptup (K := K) 2 rfl rfl (pgs_cons (pg_name (i := 9) S.nd rfl (Or.inl rfl)) (pgs_cons (pg_name (i := 7) S.nd rfl (Or.inl rfl)) pgs_nil)))) (fun _ _ _ _ _ => pts_nil) (fun _ _ _ _ _ => (pe_op op_addT (pe_op op_addT (pe_callTy call_strI (by rfl) T.b_str (by decide +kernel) (pa_cons (pv 9) pa_nil)) pe_str) (pe_callG h_PrintStock (hr.mono (by decide)) (pa_cons (pv 1) (pa_cons (pv 7) pa_nil))))))
      (pss_one (ps_ret (pe_cmpR (k_eq (K := K) rfl hr.units) (k_meth (K := K) rfl T.cl T.mEnter h_MEnter (hr.mono (by decide)) (pv 0) (pa_cons pe_str pa_nil)) (pe_ifExp (pt_cmpR (k_ne (K := K) rfl hr.units) (pv 8) (pe_lst pa_nil) (nomark _)) (pv 8) (pe_lst (pa_cons pe_str pa_nil))) (nomark _))))))), ?_⟩
    rintro ss μ P' ⟨A, b, h, rfl, rfl, B, Hh, p⟩
    have hl60 := Hh.len
    have b1 := B.n1
    have b6 := B.n6
    have W := Hh.wd' B
    have hlens : ∀ p ∈ (runW b h).held, p.2.length = b.n := fun q hq => (W.held q hq).1
    have hbd : ∀ k, AbOk b.n (10 ^ 25) (getH (runW b h).held k b.n) := fun k => ((getH_ok W.held (by have := Bd_pos h.length; omega) k).mono (Int.le_of_lt (Bd_60 (by omega)))).ab
    have hpl := held_pl' B Hh
    have tick := fun t s => Hh.tick B (t := t) (s := s)
    have wh := W.hlen
    have ww := W.wlen
    have sln : (shownF (runW b h).held).length ≤ 1000 := by
      unfold shownF
      rw [List.length_map]
      refine Nat.le_trans (List.length_filter_le _ _) ?_
      rw [(sortK_perm _).length_eq, List.length_map]
      omega
    have esh : [PyData.str "east", PyData.str "west"] = shs.map .str := rfl
    have epp : [PyData.str "ann", PyData.str "bob", PyData.str "cy"] = pps.map .str := rfl
    walk_at "rds"
    refine ⟨rfl, b, h, rfl, B, Hh, ?_⟩
    walk_at "rds"
    refine ⟨fun k δ' μ' => (∃ z5 z6 z7, δ' = [.val (.ref A.x), .dat (bkD b), .dat (hD h), .dat (shD (shownF (runW b h).held)), .dat (wayD (wayF (runW b h).way)), z5, z6, z7, .any, .any, .any] ∧ μ' = seMu K A b h (runW b h)), ⟨_, _, _, rfl, rfl⟩, fun k d δ' μ' hd hinv => ?_, fun δ' μ' hinv => ?_⟩
    · obtain ⟨z5, z6, z7, rfl, rfl⟩ := hinv
      rw [esh] at hd
      obtain ⟨s, hs, rfl⟩ := of_map hd
      have Ns := shs_ok s (List.mem_of_getElem? hs)
      walk_at "rds"
      refine ⟨fun k δ' μ' => (∃ z6 z7, δ' = [.val (.ref A.x), .dat (bkD b), .dat (hD h), .dat (shD (shownF (runW b h).held)), .dat (wayD (wayF (runW b h).way)), .dat (.str s), z6, z7, .any, .any, .any] ∧ μ' = seMu K A b h (runW b h)), ⟨_, _, rfl, rfl⟩, fun k d δ' μ' hd hinv => ?_, fun δ' μ' hinv => ?_⟩
      · obtain ⟨z6, z7, rfl, rfl⟩ := hinv
        rw [epp] at hd
        obtain ⟨u, hu, rfl⟩ := of_map hd
        have Nu := pps_ok u (List.mem_of_getElem? hu)
        have s12 := Ns.le
        have u12 := Nu.le
        walk_at "rds"
        refine lcA (shownF (runW b h).held) (fun p => .tuple [.str p.1.1, .str p.1.2, stk p.2]) (fun p => decide (p.1 = (s, u))) (fun p => stk p.2) (wg_name (by decide)) ?_
        walk_at "rds"
        refine ⟨rfl, by omega, fun p hp => ?_, ?_⟩
        · obtain ⟨⟨a, c⟩, st⟩ := p
          have pm := (shown_mem hp).2
          obtain ⟨q, hq, eq⟩ := List.mem_map.mp pm
          have N := hpl q hq
          rw [eq] at N
          have N1 : NmOk a := N.1
          have N2 : NmOk c := N.2
          walk_at "rds"
          refine ⟨rfl, ?_⟩
          walk_at "rds"
          rw [show cutD [PyData.str a, PyData.str c, stk st] none (some 2) = [.str a, .str c] from rfl]
          have sh2 : ∀ x y : Str, NmOk x → NmOk y → Shn 6 (.tuple [.str x, .str y]) := fun x y hx hy => shn_tup (n := 5) fun d hd => by
            simp only [List.mem_cons, List.not_mem_nil, or_false] at hd
            rcases hd with rfl | rfl
            · exact shn_str hx.asc.ok
            · exact shn_str hy.asc.ok
          refine op_eqd (.dat _) (.dat _) (sh2 a c N1 N2).ok (sh2 s u Ns Nu).ok ?_
          rw [eqv_pair]
          walk_at "rds"
          refine ⟨rfl, rfl, fun _ => ?_⟩
          walk_at "rds"
          exact ⟨.dat _, rfl⟩
        have fl : ((shownF (runW b h).held).filter fun p => decide (p.1 = (s, u))).length ≤ 1000 := Nat.le_trans (List.length_filter_le _ _) sln
        have hx := seen_head hlens (s, u)
        walk_at "rds"
        refine op_catL (.lst _) (.lst _) (sz_of (by simp; omega)) ?_
        rw [show zr b.ks.length = zr b.n from rfl]
        generalize ((shownF (runW b h).held).filter fun p => decide (p.1 = (s, u))).map (fun p => stk p.2) ++ [stk (zr b.n)] = lst at *
        walk_at "rds"
        have l1 : hldT.length = 8 := by unfold hldT; decide +kernel
        have AB := hbd (s, u)
        have pa := print_asc B AB
        refine cM [0, 1, 2, 3, 4] (by decide) ?_
        walk_at "rds"
        refine op_tt (sz_of (by show hldT.length + _ ≤ _; omega)) ?_
        walk_at "rds"
        refine op_tt (sz_of (by rw [len_app]; show hldT.length + _ + spT.length ≤ _; rw [sp_len]; omega)) ?_
        walk_at "rds"
        refine op_tt (sz_of (by rw [len_app, len_app]; show hldT.length + _ + spT.length + _ ≤ _; rw [sp_len]; omega)) ?_
        rw [show Str.ofString "holding " ++ s ++ Str.ofString " " ++ u = Txt.join spT [holdT, s, u] from hold_line s u]
        walk_at "rds"
        refine ⟨rfl, [_, _, _, _, _], rfl, A, b, h, _, _, h, rfl, rfl, B, Hh, Ans.hold s u Ns Nu, ?_⟩
        walk_at "rds"
        refine op_ixL (show atI lst ((0 : Nat) : Int) = some (stk (getH (runW b h).held (s, u) b.n)) from atI_nat hx) ?_
        walk_at "rds"
        refine ⟨rfl, b, _, rfl, B, AB, ?_⟩
        walk_at "rds"
        refine op_ne_same (.dat _) (.dat _) (shn_lst (n := 5) fun d hd => ?_) (by decide) ?_
        · rw [List.map_singleton] at hd
          rw [List.mem_singleton.mp hd]
          exact shn_str pa.ok
        walk_at "rds"
        first | rfl | exact ⟨_, _, rfl, rfl⟩
      · obtain ⟨z6, z7, rfl, rfl⟩ := hinv
        exact ⟨_, _, _, rfl, rfl⟩
    · obtain ⟨z5, z6, z7, rfl, rfl⟩ := hinv
      walk_at "rds"
      refine lcU (wayF (runW b h).way) (fun p => .tuple [.int p.1, stk p.2]) (fun p => .str (numT p.1 ++ spT ++ printF b.ks p.2)) (wg_tup (wgs_cons (wg_name (by decide)) (wgs_cons (wg_name (by decide)) wgs_nil))) ?_
      walk_at "rds"
      have wm := fun p (hp : p ∈ wayF (runW b h).way) => tick p.1 p.2 (wayF_mem hp)
      have wl : (wayF (runW b h).way).length ≤ 60 := by
        unfold wayF
        rw [List.length_map, (sortI_perm _).length_eq, List.length_map]
        omega
      refine ⟨rfl, by omega, fun p hp => ?_, ?_⟩
      · obtain ⟨t, st⟩ := p
        obtain ⟨t1, t2, St⟩ := wm _ hp
        have t1 : 1 ≤ t := t1
        have t2 : t ≤ 1000 := t2
        have nl := (num_ok (x := t) (by omega) (by omega)).2.2
        have pl : (printF b.ks st).length ≤ 400 := print_len B St.ab
        walk_at "rds"
        refine ⟨rfl, ?_⟩
        walk_at "rds"
        refine ca_strI (num_log (by omega) (by omega)) ?_
        walk_at "rds"
        refine op_tt (sz_of (by show (numT t).length + spT.length ≤ _; rw [sp_len]; omega)) ?_
        walk_at "rds"
        refine ⟨rfl, b, st, rfl, B, St.ab, ?_⟩
        refine op_tt (sz_of (by rw [len_app]; show (numT t).length + spT.length + _ ≤ _; rw [sp_len]; omega)) ?_
        exact ⟨.dat _, rfl⟩
      have e : (wayF (runW b h).way).map (fun p => PyData.str (numT p.1 ++ spT ++ printF b.ks p.2)) = (wayLs b (runW b h).way).map .str := by
        rw [wayLs_eq, List.map_map]
        rfl
      rw [e]
      have la : ∀ x ∈ wayLs b (runW b h).way, Asc x := fun x hx => by
        rw [wayLs_eq] at hx
        obtain ⟨p, hp, rfl⟩ := List.mem_map.mp hx
        obtain ⟨t1, t2, St⟩ := wm _ hp
        exact ((num_ok (x := p.1) (by omega) (by omega)).2.1.app asc_sp).app (print_asc B St.ab)
      have sl : ∀ l : List Str, (∀ x ∈ l, Asc x) → Shn 6 (.list (l.map .str)) := fun l hl => shn_lst (n := 5) fun d hd => by
        obtain ⟨x, hx, rfl⟩ := List.mem_map.mp hd
        exact shn_str (hl x hx).ok
      have fin : ∀ l : List Str, l = orNone (wayLs b (runW b h).way) → (∀ x ∈ l, Asc x) := fun l hl x hx => by
        subst hl
        unfold orNone at hx
        split at hx
        · rw [List.mem_singleton.mp hx]; exact nothing_ok.2.1
        · exact la x hx
      walk_at "rds"
      refine cM [0, 1, 2, 3, 4] (by decide) ?_
      walk_at "rds"
      refine ⟨rfl, [_, _, _, _, _], rfl, A, b, h, _, _, h, rfl, rfl, B, Hh, Ans.way, ?_⟩
      walk_at "rds0"
      have on : orNone (wayLs b (runW b h).way) = if wayLs b (runW b h).way = [] then [("nothing" : Str)] else wayLs b (runW b h).way := rfl
      refine ev_ifP (decide (wayLs b (runW b h).way ≠ [])) ?_ (fun hb => ?_) (fun hb => ?_)
      · walk_at "rds"
        refine ev_nilD ?_
        refine op_ned (.dat _) (.dat _) (sl _ la).ok (sl [] (fun x hx => nomatch hx)).ok ?_
        refine ⟨_, rfl, ?_, rfl⟩
        cases wayLs b (runW b h).way with
        | nil => simp [PyData.eqv, PyData.eqvAll]
        | cons _ _ => simp [PyData.eqv, PyData.eqvAll]
      · rw [if_neg (of_decide_eq_true hb)] at on
        rw [on]
        walk_at "rds"
        refine op_eq_same (.dat _) (.dat _) (sl _ la) (by decide) ?_
        walk_at "finA"
      · rw [if_pos (Decidable.not_not.mp (of_decide_eq_false hb))] at on
        rw [on]
        walk_at "rds"
        refine op_eq_same (.dat _) (.dat _) (sl [("nothing" : Str)] fun x hx => by rw [List.mem_singleton.mp hx]; exact nothing_ok.2.1) (by decide) ?_
        walk_at "finA"))
/-! ## F23 -/
open TL (tl)
theorem shn_stk {n : Nat} (s : List Int) : Shn (n + 1) (stk s) := shn_tup fun d hd => by
  obtain ⟨x, _, rfl⟩ := List.mem_map.mp hd
  exact shn_int x
theorem shn_ev {b : Bk} {e : Ev} (E : EvOk b e) : Shn 5 (evD e) := by
  have st : ∀ x : Str, Asc x → Shn 4 (.str x) := fun x hx => shn_str hx.ok
  obtain ⟨k1, k2, k3, k4, k5⟩ := kd_asc
  cases e with
  | make s u m g =>
    refine shn_tup fun d hd => ?_
    simp only [evL, List.mem_cons, List.not_mem_nil, or_false] at hd
    rcases hd with rfl | rfl | rfl | rfl | rfl
    · exact st _ k1
    · exact st _ E.1.asc
    · exact st _ E.2.1.asc
    · exact shn_int _
    · exact shn_stk g
  | hand s u o g =>
    refine shn_tup fun d hd => ?_
    simp only [evL, List.mem_cons, List.not_mem_nil, or_false] at hd
    rcases hd with rfl | rfl | rfl | rfl | rfl
    · exact st _ k2
    · exact st _ E.1.asc
    · exact st _ E.2.1.asc
    · exact st _ E.2.2.1.asc
    · exact shn_stk g
  | send s u t g =>
    refine shn_tup fun d hd => ?_
    simp only [evL, List.mem_cons, List.not_mem_nil, or_false] at hd
    rcases hd with rfl | rfl | rfl | rfl | rfl
    · exact st _ k3
    · exact st _ E.1.asc
    · exact st _ E.2.1.asc
    · exact shn_int _
    · exact shn_stk g
  | land s u t =>
    refine shn_tup fun d hd => ?_
    simp only [evL, List.mem_cons, List.not_mem_nil, or_false] at hd
    rcases hd with rfl | rfl | rfl | rfl
    · exact st _ k4
    · exact st _ E.1.asc
    · exact st _ E.2.1.asc
    · exact shn_int _
  | forge s u g =>
    refine shn_tup fun d hd => ?_
    simp only [evL, List.mem_cons, List.not_mem_nil, or_false] at hd
    rcases hd with rfl | rfl | rfl | rfl
    · exact st _ k5
    · exact st _ E.1.asc
    · exact st _ E.2.1.asc
    · exact shn_stk g
theorem shn_hist {b : Bk} {h : List Ev} (B : BkOk b) (H : Hist b h) : Shn 6 (hD h) := shn_tup fun d hd => by
  obtain ⟨e, he, rfl⟩ := List.mem_map.mp hd
  obtain ⟨k, hk⟩ := List.mem_iff_getElem?.mp he
  exact shn_ev (H.ok k e hk).ev
theorem shn_book {b : Bk} (B : BkOk b) : Shn 6 (bkD b) := shn_tup (n := 5) fun d hd => by
  simp only [List.mem_cons, List.not_mem_nil, or_false] at hd
  rcases hd with rfl | rfl
  · exact shn_tup (n := 4) fun d hd => by
      obtain ⟨x, hx, rfl⟩ := List.mem_map.mp hd
      exact shn_str (B.ks x hx).asc.ok
  · exact shn_tup (n := 4) fun d hd => by
      obtain ⟨m, hm, rfl⟩ := List.mem_map.mp hd
      refine shn_tup (n := 3) fun d hd => ?_
      simp only [List.mem_cons, List.not_mem_nil, or_false] at hd
      rcases hd with rfl | rfl | rfl | rfl
      · exact shn_str (B.ms m hm).nm.asc.ok
      · exact shn_stk _
      · exact shn_stk _
      · exact shn_stk _
theorem kw_line {k0 k1 : Str} (hk : tl k1 = tl k0 ++ [32]) {l : List Str} (hl : l ≠ []) : k1 ++ Txt.join spT l = Txt.join spT (k0 :: l) := by
  apply TL.ext_tl
  rw [TL.tl_append, join_tl, join_tl, tl_sp, hk]
  cases l with
  | nil => exact absurd rfl hl
  | cons a r =>
    show tl k0 ++ [32] ++ _ = tl k0 ++ ([32] ++ TL.joinL [32] (tl a :: r.map tl))
    simp
abbrev stk1 : Str := "strike "
abbrev rfd1 : Str := "refunds "
theorem stk1_tl : tl stk1 = tl stkT ++ [32] := by decide +kernel
theorem rfd1_tl : tl rfd1 = tl rfdT ++ [32] := by decide +kernel
def fLaw : PSp := fun ss P => ∃ ns, ss = [.scr ns] ∧ ns.length ≤ 63 ∧ P (.dat (.bool true))
/-- a def with its promise, the record of it as it is found in the view -/
abbrev OkF (P : Program) (w : World) (K : PySem.W.Frag) (mg : Str → Option Value) (base : Heap) (x : Str) (k : Nat) (ps : List Str) (sp : Sp) (st : Stmt) : Prop :=
  ∀ fd, FunD K x x (defArgs st) (defBody st) (defScope st) [] [] (He.ga K x) fd → FnOk P w K mg base CX0 k (He.ga K x) fd ps sp
theorem okF_p {P : Program} {w : World} {K : PySem.W.Frag} {mg : Str → Option Value} {base : Heap} {x : Str} {st : Stmt} {ps N : List Str} {n m k : Nat} {F : PSp} (S : FnScope N ps (defScope st)) (hp : ps.length = n) (hN : N.length = n + m)
    (body : ∀ (cdv : Value) (A : Around) (outer : List PySem.Env) (s : Shared) (H : Hp) (E : XK), Room k (A.deeper (envOfC x (defScope st) s.heap.objs.size (He.ga K x) cdv)) →
      ∃ t, PSs (cxOf CX0 P w K mg base N x (defScope st) (He.ga K x) cdv A outer s H E).nox (defBody st) t ∧ ∀ ss P', F ss P' → ExC K t (ss ++ List.replicate m .any) [] (AEp P')) : OkF P w K mg base x (k + 1) ps (spP K n F) st := fun fd FD => by
  refine FD.ok S (fun vs H Q E h => (spP_len h).trans hp.symm) fun cdv A outer s H vs Q E hr h => ?_
  obtain ⟨t, h1, h2⟩ := body cdv A outer s H E hr
  exact ⟨t, h1.nox, body_p h hN h2⟩
abbrev NLaw : List Str := ["_law_script", "_law_draws_here", "_law_book_here", "_law_history_here", "_law_held", "_law_way_here", "_law_session", "_law_recall", "_law_words", "_law_rows", "_law_second", "_law_k", "_law_row"]
theorem scLaw : FnScope NLaw ["_law_script"] (defScope sLaw) := ⟨rfl, rfl, rfl, by decide +kernel, rfl, by decide +kernel, by decide +kernel⟩
abbrev OkLaw (P : Program) (w : World) (K : PySem.W.Frag) (mg : Str → Option Value) (base : Heap) : Prop := OkF P w K mg base "law" 40 ["_law_script"] (spP K 1 fLaw) sLaw
theorem ok_Law {P : Program} {w : World} {K : PySem.W.Frag} {mg : Str → Option Value} {base : Heap} (T : Tx K mg) (h_MBook : OkMBook P w K mg base) (h_MEnter : OkMEnter P w K mg base) (h_MHistory : OkMHistory P w K mg base) (h_LBook : OkLBook P w K mg base) (h_LDraws : OkLDraws P w K mg base) (h_LEntered : OkLEntered P w K mg base) (h_LHistory : OkLHistory P w K mg base) (h_LSeen : OkLSeen P w K mg base) (h_LTake : OkLTake P w K mg base) (h_LogsOf : OkLogsOf P w K mg base) (h_Merged : OkMerged P w K mg base) (h_PrintStock : OkPrintStock P w K mg base) (h_Refunds : OkRefunds P w K mg base) (h_Strike : OkStrike P w K mg base) : OkLaw P w K mg base :=
  (by exact getit : Hold (OkLaw P w K mg base) (by
    have S := scLaw
    refine okF_p (m := 12) S rfl rfl fun cdv A outer s H E hr => ⟨_,
      (pss_cons (ps_set (i := 1) S.nd rfl (Or.inr rfl) (pe_callG h_LDraws (hr.mono (by decide)) (pa_cons (pv 0) (pa_cons pe_int pa_nil))))
      (pss_cons (ps_set (i := 2) S.nd rfl (Or.inr rfl) (pe_callG h_LBook (hr.mono (by decide)) (pa_cons (pv 1) (pa_cons pe_int pa_nil))))
      (pss_cons (ps_asg (pe_callG h_LHistory (hr.mono (by decide)) (pa_cons (pv 1) (pa_cons (pv 2) (pa_cons (pe_callG h_LTake (hr.mono (by decide)) (pa_cons (pv 1) (pa_cons pe_int pa_nil))) pa_nil)))) (k_ptup (K := K) 3 rfl rfl (pgs_cons (pg_name (i := 3) S.nd rfl (Or.inr rfl)) (pgs_cons (pg_name (i := 4) S.nd rfl (Or.inl rfl)) (pgs_cons (pg_name (i := 5) S.nd rfl (Or.inl rfl)) pgs_nil)))))
      (pss_cons (ps_set (i := 6) S.nd rfl (Or.inl rfl) (pe_callG h_LEntered (hr.mono (by decide)) (pa_cons (pv 2) (pa_cons (pv 3) pa_nil))))
      (pss_cons (ps_if (PW.pt (pw_or (pt_cmp (pc_isN (pv 6)) rfl) (pw_or (pt_cmpR (k_ne (K := K) rfl hr.units) (k_meth0 (K := K) rfl T.cl T.mHistory h_MHistory (hr.mono (by decide)) (pv 6)) (pv 3) (nomark _)) (pw_or1 (pt_not (pt_val (pe_callG h_LSeen (hr.mono (by decide)) (pa_cons (pv 6) (pa_cons (pv 2) (pa_cons (pv 3) pa_nil)))))))))) (pss_one (ps_ret pe_bl)) pss_nil)
      (pss_cons (ps_set (i := 7) S.nd rfl (Or.inl rfl) (pe_callTy (k_tup (K := K) rfl) (by rfl) T.b_tuple (by decide +kernel) (pa_cons (pe_lc (own := [("_law_k", 11)]) rfl S.nd (pi_range1 (by rfl) T.b_range (pa_cons (pe_callB (k_len (K := K) rfl) (by rfl) T.b_len (by decide +kernel) (pa_cons (pv 3) pa_nil)) pa_nil)) (blkOk_by (N := NLaw) (sc := defScope sLaw) (by decide +kernel)) (fun _ _ _ _ _ => (pg_name (i := 11) S.nd rfl (Or.inl rfl))) (fun _ _ _ _ _ => (pts_one (PW.pt (pw_and (pt_cmpR (k_eq (K := K) rfl hr.units) (pe_ix (k_ixT (K := K) rfl) (pe_ix (k_ixT (K := K) rfl) (pv 3) (pv 11) (fun _ _ => rfl)) pe_int (fun _ _ => rfl)) pe_str (nomark _)) (pw_and1 (pt_cmpR (k_eq (K := K) rfl hr.units) (pe_callG h_LTake (hr.mono (by decide)) (pa_cons (pv 1) (pa_cons pe_int pa_nil))) pe_int (nomark _))))))) (fun _ _ _ _ _ => (pv 11))) pa_nil)))
      (pss_cons (ps_if (pt_cmpR (k_ne (K := K) rfl hr.units) (pv 7) (pe_tup pa_nil) (nomark _)) (pss_cons (ps_set (i := 8) S.nd rfl (Or.inl rfl) (k_join (K := K) rfl pe_str (pe_lc (own := [("_law_k", 11)]) (tt := tYes) rfl S.nd (k_tupI (K := K) rfl (pv 7)) (blkOk_by (N := NLaw) (sc := defScope sLaw) (by decide +kernel)) (fun _ _ _ _ _ => (pg_name (i := 11) S.nd rfl (Or.inl rfl))) (fun _ _ _ _ _ => pts_nil) (fun _ _ _ _ _ => (pe_callTy call_strI (by rfl) T.b_str (by decide +kernel) (pa_cons (pv 11) pa_nil))))))
      (pss_cons (ps_if (pt_cmpR (k_ne (K := K) rfl hr.units) (k_meth (K := K) rfl T.cl T.mEnter h_MEnter (hr.mono (by decide)) (pv 6) (pa_cons (pe_op op_addT pe_str (pv 8)) pa_nil)) (pe_lst (pa_cons (k_join (K := K) rfl pe_str (pe_op op_cat (pe_lst (pa_cons pe_str pa_nil)) (pe_lc (own := [("_law_k", 11)]) (tt := tYes) rfl S.nd (k_tupI (K := K) rfl (pe_ix (k_ixT (K := K) rfl) (pe_callG h_Strike (hr.mono (by decide)) (pa_cons (pv 2) (pa_cons (pv 3) (pa_cons (pv 7) pa_nil)))) pe_int (fun _ _ => rfl))) (blkOk_by (N := NLaw) (sc := defScope sLaw) (by decide +kernel)) (fun _ _ _ _ _ => (pg_name (i := 11) S.nd rfl (Or.inl rfl))) (fun _ _ _ _ _ => pts_nil) (fun _ _ _ _ _ => (pe_callTy call_strI (by rfl) T.b_str (by decide +kernel) (pa_cons (pv 11) pa_nil)))))) pa_nil)) (nomark _)) (pss_one (ps_ret pe_bl)) pss_nil)
      (pss_cons (ps_setLc (i := 9) (own := [("_law_row", 12)]) (tt := tYes) rfl S.nd rfl rfl (sw_true rfl rfl rfl (by decide +kernel)) (k_tupI (K := K) rfl (pe_callG h_Refunds (hr.mono (by decide)) (pa_cons (pv 2) (pa_cons (pv 3) (pa_cons (pv 7) pa_nil))))) (blkOk_by (N := NLaw) (sc := defScope sLaw) (by decide +kernel)) (fun _ _ _ _ _ => (pg_name (i := 12) S.nd rfl (Or.inl rfl))) (fun _ _ _ _ _ => pts_nil) (fun _ _ _ _ _ => (pe_op op_addT (pe_op op_addT (pe_op op_addT (pe_op op_addT (pe_ix (k_ixT (K := K) rfl) (pv 12) pe_int (fun _ _ => rfl)) pe_str) (pe_ix (k_ixT (K := K) rfl) (pv 12) pe_int (fun _ _ => rfl))) pe_str) (pe_callG h_PrintStock (hr.mono (by decide)) (pa_cons (pv 2) (pa_cons (pe_ix (k_ixT (K := K) rfl) (pv 12) pe_int (fun _ _ => rfl)) pa_nil))))))
      (pss_one (ps_if (pt_cmpR (k_ne (K := K) rfl hr.units) (k_meth (K := K) rfl T.cl T.mEnter h_MEnter (hr.mono (by decide)) (pv 6) (pa_cons (pe_op op_addT pe_str (pv 8)) pa_nil)) (pe_ifExp (pt_cmpR (k_ne (K := K) rfl hr.units) (pv 9) (pe_lst pa_nil) (nomark _)) (pv 9) (pe_lst (pa_cons pe_str pa_nil))) (nomark _)) (pss_one (ps_ret pe_bl)) pss_nil))))) pss_nil)
      (pss_cons (ps_if (PW.pt (pw_or (pt_cmpR (k_ne (K := K) rfl hr.units) (k_meth0 (K := K) rfl T.cl T.mHistory h_MHistory (hr.mono (by decide)) (pv 6)) (pv 3) (nomark _)) (pw_or1 (pt_not (pt_val (pe_callG h_LSeen (hr.mono (by decide)) (pa_cons (pv 6) (pa_cons (pv 2) (pa_cons (pv 3) pa_nil))))))))) (pss_one (ps_ret pe_bl)) pss_nil)
      (pss_cons (ps_set (i := 10) S.nd rfl (Or.inl rfl) (pe_callG h_LEntered (hr.mono (by decide)) (pa_cons (pv 2) (pa_cons (pe_callG h_Merged (hr.mono (by decide)) (pa_cons (pe_callG h_LogsOf (hr.mono (by decide)) (pa_cons (k_meth0 (K := K) rfl T.cl T.mHistory h_MHistory (hr.mono (by decide)) (pv 6)) pa_nil)) pa_nil)) pa_nil))))
      (pss_one (ps_ret (pe_and (pe_cmp (pc_notN (pv 10)) rfl) (pe_and (pe_cmpR (k_eq (K := K) rfl hr.units) (k_meth0 (K := K) rfl T.cl T.mHistory h_MHistory (hr.mono (by decide)) (pv 10)) (pv 3) (nomark _)) (pe_one (pe_cmpR (k_eq (K := K) rfl hr.units) (k_meth0 (K := K) rfl T.cl T.mBook h_MBook (hr.mono (by decide)) (pv 10)) (k_meth0 (K := K) rfl T.cl T.mBook h_MBook (hr.mono (by decide)) (pv 6)) (nomark _)))))))))))))))), ?_⟩
    rintro ss P' ⟨ns, rfl, hns, p⟩
    walk_at "rds"
    refine cA [] (by decide) ?_
    walk_at "rds"
    refine ⟨rfl, [], rfl, ns, rfl, rfl, hns, fun d ob D => ?_⟩
    walk_at "rds"
    refine cA [0] (by decide) ?_
    walk_at "rds"
    refine ⟨rfl, [_], rfl, d, ob, rfl, rfl, D, fun b ob D B Le => ?_⟩
    walk_at "rds"
    refine cA [0] (by decide) ?_
    walk_at "rds"
    refine cA [0] (by decide) ?_
    walk_at "rds"
    refine ⟨rfl, [_], rfl, d, ob, _, rfl, rfl, D, by decide, fun x ob D x0 x1 => ?_⟩
    obtain ⟨c, rfl⟩ : ∃ c : Nat, x = c := ⟨x.toNat, by omega⟩
    walk_at "rds"
    refine ⟨rfl, [_], rfl, d, ob, b, c, rfl, rfl, D, B, Le, by omega, fun h ob p0 v1 v2 D Hh => ?_⟩
    refine tg_tupS (by walk_at "mem") rfl ?_
    walk_at "rds"
    refine cA [] (by decide) ?_
    walk_at "rds"
    refine ⟨rfl, [], rfl, b, h, rfl, rfl, B, Hh, fun Z => ?_⟩
    have hl60 := Hh.len
    have sh := shn_hist B Hh
    have sb := shn_book B
    walk_at "rds0"
    refine ex_nx (fun δ' μ' => δ' = [.scr ns, .val (.ref d), .dat (bkD b), .dat (hD h), .val v1, .val v2, .val (.ref Z.x), .any, .any, .any, .any, .any, .any] ∧ ∃ q, μ' = seMu K Z b h (runW b h) ++ [q, (d, ob)]) ?_ ?_
    · walk_at "rds"
      refine cM [0, 1, 2, 3, 4] (by decide) ?_
      walk_at "rds"
      refine ⟨rfl, [_, _, _, _, _], rfl, Z, b, h, runW b h, rfl, rfl, ?_⟩
      walk_at "rds"
      refine op_ne_same (.dat _) (.dat _) sh (by decide) ?_
      walk_at "rds"
      refine cA [0, 1, 2, 3, 4] (by decide) ?_
      walk_at "rds"
      refine ⟨rfl, [_, _, _, _, _], rfl, Z, b, h, rfl, rfl, B, Hh, ?_⟩
      walk_at "rds"
      exact ⟨rfl, _, rfl⟩
    rintro δ' μ' ⟨rfl, q, rfl⟩
    walk_at "rds0"
    refine ev_lc (wg_name (by decide)) ?_
    walk_at "rds"
    refine ⟨by omega, fun j acc μ' => (∃ ob, ∃ rs : List Int, acc = rs.map .int ∧ μ' = seMu K Z b h (runW b h) ++ [q, (d, ob)] ∧ Dr ob ∧ (∀ r ∈ rs, ∃ k : Nat, r = k ∧ k < j ∧ ∃ s u g, h[k]? = some (.forge s u g)) ∧ rs.Pairwise (· < ·) ∧ rs.length ≤ j), ⟨ob, [], rfl, rfl, D, fun r hr => (nomatch hr), .nil, Nat.le_refl _⟩, fun j dd acc μ' hd hinv => ?_, fun acc μ' hinv => ?_⟩
    · obtain ⟨ob, rs, rfl, rfl, D, ro, ra, rl⟩ := hinv
      obtain ⟨hj, rfl⟩ := range0 hd
      have he : h[j]? = some h[j] := List.getElem?_eq_getElem hj
      generalize h[j] = e at he
      have up : ∀ r ∈ rs, ∃ k : Nat, r = k ∧ k < j + 1 ∧ ∃ s u g, h[k]? = some (.forge s u g) := fun r hr => by
        obtain ⟨k, h1, h2, h3⟩ := ro r hr
        exact ⟨k, h1, by omega, h3⟩
      cases e with
      | forge s u g =>
        walk_at "rds"
        refine cA [6] (by decide) ?_
        walk_at "rds"
        refine ⟨rfl, [_], rfl, d, ob, _, rfl, rfl, D, by decide, fun x ob D x0 x1 => ?_⟩
        walk_at "rds"
        refine ⟨fun _ => ?_, fun _ => ⟨ob, rs, rfl, rfl, D, up, ra, by omega⟩⟩
        walk_at "rds"
        refine ⟨sz_lt (by simp; omega), ob, rs ++ [(j : Int)], by rw [List.map_append]; rfl, rfl, D, fun r hr => ?_, ?_, by simp; omega⟩
        · rcases List.mem_append.mp hr with hr | hr
          · exact up r hr
          · rw [List.mem_singleton.mp hr]; exact ⟨j, rfl, by omega, s, u, g, he⟩
        · rw [List.pairwise_append]
          refine ⟨ra, by simp, fun x hx y hy => ?_⟩
          obtain ⟨k, h1, h2, _⟩ := ro x hx
          rw [List.mem_singleton.mp hy]
          omega
      | _ =>
        walk_at "rds"
        exact ⟨ob, rs, rfl, rfl, D, up, ra, by omega⟩
    obtain ⟨ob, rs, rfl, rfl, D, ro, ra, rl⟩ := hinv
    rw [rangeD_len] at ro rl
    have hrs : rs ≠ [] → RcOk h rs := fun hn => ⟨fun r hr => by
      obtain ⟨k, h1, _, h3⟩ := ro r hr
      exact ⟨k, h1, h3⟩, ra, hn, by omega⟩
    walk_at "rds0"
    refine ex_nx (fun δ' μ' => ∃ z8 z9, δ' = [.scr ns, .val (.ref d), .dat (bkD b), .dat (hD h), .val v1, .val v2, .val (.ref Z.x), .dat (stk rs), z8, z9, .any, .any, .any] ∧ μ' = seMu K Z b h (runW b h) ++ [q, (d, ob)]) ?_ ?_
    · refine ex_ifP (decide (rs ≠ [])) ?_ (fun hb => ?_) (fun hb => ?_)
      · walk_at "rds"
        refine op_ned (.dat _) (.dat _) (shn_stk (n := 5) rs).ok (shn_stk (n := 5) []).ok ?_
        refine ⟨_, rfl, ?_, rfl⟩
        cases rs with
        | nil => simp [PyData.eqv, PyData.eqvAll]
        | cons _ _ => simp [PyData.eqv, PyData.eqvAll]
      · have R := hrs (of_decide_eq_true hb)
        have rne := R.ne
        walk_at "rds0"
        refine lcU rs .int (fun r => .str (numT r)) (wg_name (by decide)) ?_
        walk_at "rds0"
        have rl60 := R.len
        obtain ⟨pcS, plS⟩ := rc_words R hl60 two_ok.1
        have numle : ∀ x ∈ rs.map numT, x.length ≤ 40 := fun x hx => (pcS x (List.mem_cons_of_mem _ hx)).2.2
        have sm := sum_le _ numle
        have jl := join_len spT numle
        rw [List.length_map] at sm jl
        rw [sp_len] at jl
        refine ⟨rfl, by omega, fun r hr => ?_, ?_⟩
        · have := rc_nums R hl60 r hr
          walk_at "rds"
          refine ⟨rfl, ?_⟩
          walk_at "rds"
          refine ca_strI (num_log (by omega) (by omega)) ?_
          exact ⟨.dat _, rfl⟩
        refine ⟨rs.map numT, by rw [show rs.map (fun r => PyData.str (numT r)) = (rs.map numT).map .str by rw [List.map_map]; rfl]; exact .lst _, ?_, ?_⟩
        · show _ + _ * spT.length ≤ _
          rw [sp_len, List.length_map]
          omega
        have K1 : (skRun b h rs h.length).struck.length ≤ h.length := (skok (rc := rs) B Hh h.length (Nat.le_refl _)).kn
        have K2 : ∀ i ∈ (skRun b h rs h.length).struck, i < h.length := struck_lt b h rs h.length
        have ls1 : stk1.length = 7 := by decide +kernel
        have ls2 : rfd1.length = 8 := by decide +kernel
        walk_at "rds0"
        refine ex_ifP false ?_ (fun h => nomatch h) (fun _ => ?_)
        · walk_at "rds"
          refine cM [0, 1, 2, 3, 4] (by decide) ?_
          walk_at "rds"
          refine op_tt (sz_of (by show stk1.length + (Txt.join spT (rs.map numT)).length ≤ _; omega)) ?_
          rw [show Str.ofString "strike " ++ Txt.join (Str.ofString " ") (rs.map numT) = Txt.join spT (stkT :: rs.map numT) from kw_line stk1_tl (by simpa using rne)]
          walk_at "rds"
          refine ⟨rfl, [_, _, _, _, _], rfl, Z, b, h, _, _, h, rfl, rfl, B, Hh, Ans.strike rs R, ?_⟩
          walk_at "rds"
          refine lcU (skRun b h rs h.length).struck (fun (i : Nat) => .int i) (fun (i : Nat) => .str (numT i)) (wg_name (by decide)) ?_
          walk_at "rds"
          refine ⟨rfl, b, h, rs, rfl, B, Hh, fun x y => ?_⟩
          walk_at "rds"
          refine ⟨rfl, by omega, fun i hi => ?_, ?_⟩
          · have := K2 i hi
            walk_at "rds"
            refine ⟨rfl, ?_⟩
            walk_at "rds"
            refine ca_strI (num_log (by omega) (by omega)) ?_
            exact ⟨.dat _, rfl⟩
          rw [nat_num]
          refine op_catL (.lst _) (.lst _) (sz_of (by simp; omega)) ?_
          have wl : ∀ x ∈ strT :: (skRun b h rs h.length).struck.map (fun (i : Nat) => numT i), x.length ≤ 40 ∧ Asc x := fun x hx => by
            rcases List.mem_cons.mp hx with rfl | hx
            · exact ⟨two_ok.2.2.2.2.2, two_ok.2.2.2.2.1⟩
            · obtain ⟨i, hi, rfl⟩ := List.mem_map.mp hx
              have := K2 i hi
              have := num_ok (x := (i : Int)) (by omega) (by omega)
              exact ⟨this.2.2, this.2.1⟩
          have h2 := sum_le _ fun x hx => (wl x hx).1
          have h3 : (strT :: (skRun b h rs h.length).struck.map (fun (i : Nat) => numT i)).length ≤ 61 := by simp; omega
          refine ⟨strT :: (skRun b h rs h.length).struck.map (fun (i : Nat) => numT i), .lst _, ?_, ?_⟩
          · show _ + _ * spT.length ≤ _
            rw [sp_len]
            omega
          walk_at "rds"
          have sa : Asc (strikeT b h rs) := join_asc asc_sp fun x hx => (wl x hx).2
          refine op_ne_same (d := .list [.str (strikeT b h rs)]) (.dat _) (.dat _) (shn_lst (n := 5) fun d hd => ?_) (by decide) ?_
          · rw [List.mem_singleton.mp hd]
            exact shn_str sa.ok
          walk_at "rds"
          exact ⟨rfl, rfl⟩
        have Rl := refunds_len (rc := rs) B Hh
        have Ra := refunds_ab (rc := rs) B Hh
        have Rp := refunds_pl (rc := rs) Hh
        walk_at "rds0"
        refine lcU (refundsF b h rs) (fun p => .tuple [.str p.1.1, .str p.1.2, stk p.2]) (fun p => .str (refL b p)) (wg_name (by decide)) ?_
        walk_at "rds0"
        refine ⟨rfl, b, h, rs, rfl, B, Hh, ?_⟩
        walk_at "rds0"
        refine ⟨rfl, by omega, fun p hp => ?_, ?_⟩
        · have N := Rp p hp
          have AB := Ra p hp
          obtain ⟨⟨s, u⟩, st⟩ := p
          have pr : (printF b.ks st).length ≤ 400 := print_len B AB
          have N1 : s.length ≤ 12 := N.1.le
          have N2 : u.length ≤ 12 := N.2.le
          walk_at "rds"
          refine ⟨rfl, ?_⟩
          walk_at "rds"
          refine op_tt (sz_of (by show s.length + spT.length ≤ _; rw [sp_len]; omega)) ?_
          walk_at "rds"
          refine op_tt (sz_of (by rw [len_app]; show s.length + spT.length + u.length ≤ _; rw [sp_len]; omega)) ?_
          walk_at "rds"
          refine op_tt (sz_of (by rw [len_app, len_app]; show s.length + spT.length + u.length + spT.length ≤ _; rw [sp_len]; omega)) ?_
          walk_at "rds"
          refine ⟨rfl, b, st, rfl, B, AB, ?_⟩
          refine op_tt (sz_of (by rw [len_app, len_app, len_app]; show s.length + spT.length + u.length + spT.length + _ ≤ _; rw [sp_len]; omega)) ?_
          exact ⟨.dat _, rfl⟩
        have e : (refundsF b h rs).map (fun p => PyData.str (refL b p)) = (refLs b h rs).map .str := by
          unfold refLs
          rw [List.map_map]
          rfl
        rw [e]
        have la : ∀ x ∈ refLs b h rs, Asc x := fun x hx => by
          unfold refLs at hx
          obtain ⟨p, hp, rfl⟩ := List.mem_map.mp hx
          have N := Rp p hp
          exact ((((N.1.asc.app asc_sp).app N.2.asc).app asc_sp).app (print_asc B (Ra p hp)))
        have sl : ∀ l : List Str, (∀ x ∈ l, Asc x) → Shn 6 (.list (l.map .str)) := fun l hl => shn_lst (n := 5) fun d hd => by
          obtain ⟨x, hx, rfl⟩ := List.mem_map.mp hd
          exact shn_str (hl x hx).ok
        walk_at "rds0"
        refine ex_ifP false ?_ (fun h => nomatch h) (fun _ => ?_)
        · walk_at "rds"
          refine cM [0, 1, 2, 3, 4] (by decide) ?_
          walk_at "rds"
          refine op_tt (sz_of (by show rfd1.length + (Txt.join spT (rs.map numT)).length ≤ _; omega)) ?_
          rw [show Str.ofString "refunds " ++ Txt.join (Str.ofString " ") (rs.map numT) = Txt.join spT (rfdT :: rs.map numT) from kw_line rfd1_tl (by simpa using rne)]
          walk_at "rds"
          refine ⟨rfl, [_, _, _, _, _], rfl, Z, b, h, _, _, h, rfl, rfl, B, Hh, Ans.refunds rs R, ?_⟩
          walk_at "rds0"
          have on : orNone (refLs b h rs) = if refLs b h rs = [] then [("nothing" : Str)] else refLs b h rs := rfl
          refine ev_ifP (decide (refLs b h rs ≠ [])) ?_ (fun hb => ?_) (fun hb => ?_)
          · walk_at "rds"
            refine ev_nilD ?_
            refine op_ned (.dat _) (.dat _) (sl _ la).ok (sl [] (fun x hx => nomatch hx)).ok ?_
            refine ⟨_, rfl, ?_, rfl⟩
            cases refLs b h rs with
            | nil => simp [PyData.eqv, PyData.eqvAll]
            | cons _ _ => simp [PyData.eqv, PyData.eqvAll]
          · rw [if_neg (of_decide_eq_true hb)] at on
            rw [on]
            walk_at "rds"
            refine op_ne_same (.dat _) (.dat _) (sl _ la) (by decide) ?_
            walk_at "rds"
            exact ⟨rfl, rfl⟩
          · rw [if_pos (Decidable.not_not.mp (of_decide_eq_false hb))] at on
            rw [on]
            walk_at "rds"
            refine op_ne_same (.dat _) (.dat _) (sl [("nothing" : Str)] fun x hx => by rw [List.mem_singleton.mp hx]; exact nothing_ok.2.1) (by decide) ?_
            walk_at "rds"
            exact ⟨rfl, rfl⟩
        walk_at "rds"
        exact ⟨_, _, rfl, rfl⟩
      · walk_at "rds"
        exact ⟨_, _, rfl, rfl⟩
    rintro δ' μ' ⟨z8, z9, rfl, rfl⟩
    walk_at "rds0"
    refine ex_ifP false ?_ (fun h => nomatch h) (fun _ => ?_)
    · refine et_orP false false ?_ (fun _ => ?_) ⟨rfl, rfl⟩
      · walk_at "rds"
        refine cM [0, 1, 2, 3, 4] (by decide) ?_
        walk_at "rds"
        refine ⟨rfl, [_, _, _, _, _], rfl, Z, b, h, runW b h, rfl, rfl, ?_⟩
        walk_at "rds"
        refine op_ne_same (.dat _) (.dat _) sh (by decide) ?_
        walk_at "rds"
        exact ⟨rfl, rfl⟩
      · walk_at "rds"
        refine cA [0, 1, 2, 3, 4] (by decide) ?_
        walk_at "rds"
        refine ⟨rfl, [_, _, _, _, _], rfl, Z, b, h, rfl, rfl, B, Hh, ?_⟩
        walk_at "rds"
        exact ⟨rfl, rfl⟩
    walk_at "rds0"
    refine cA [] (by decide) ?_
    walk_at "rds0"
    refine cA [0] (by decide) ?_
    walk_at "rds0"
    refine cA [] (by decide) ?_
    walk_at "rds0"
    refine cM [0, 1, 2, 3, 4] (by decide) ?_
    walk_at "rds0"
    refine ⟨rfl, [_, _, _, _, _], rfl, Z, b, h, runW b h, rfl, rfl, ?_⟩
    walk_at "rds0"
    refine ⟨rfl, [], rfl, h, rfl, rfl, hl60, fun pl l L => ?_⟩
    walk_at "rds0"
    refine ⟨rfl, [_], rfl, pl, h, l, rfl, rfl, L, hl60, fun j e he => (ev_pl (Hh.ok j e he).ev).1.asc.ok, ?_⟩
    walk_at "rds0"
    refine ⟨rfl, [], rfl, b, h, rfl, rfl, B, Hh, fun Z2 => ?_⟩
    walk_at "rds0"
    refine cM [0, 1, 2, 3, 4] (by decide) ?_
    walk_at "rds0"
    refine ⟨rfl, [_, _, _, _, _], rfl, Z2, b, h, runW b h, rfl, rfl, ?_⟩
    walk_at "rds0"
    refine op_eq_same (.dat _) (.dat _) sh (by decide) ?_
    walk_at "rds0"
    refine cM [0, 1, 2, 3, 4] (by decide) ?_
    walk_at "rds0"
    refine ⟨rfl, [_, _, _, _, _], rfl, Z2, b, h, runW b h, rfl, rfl, ?_⟩
    walk_at "rds0"
    refine cM [6, 7, 8, 9, 10] (by decide) ?_
    walk_at "rds0"
    refine ⟨_, _, rfl, (show _ ∈ _ from .tail _ (.tail _ (.tail _ (.tail _ (.tail _ (.tail _ (.tail _ (.tail _ (.tail _ (.tail _ (.head _))))))))))), rfl, ?_⟩
    walk_at "rds0"
    refine ⟨rfl, [_, _, _, _, _], rfl, Z, b, h, runW b h, rfl, rfl, ?_⟩
    walk_at "rds0"
    refine op_eq_same (.dat _) (.dat _) sb (by decide) ?_
    walk_at "fin"))
end K81
/-! ## K9end -/
set_option Elab.async false
set_option linter.all false
set_option maxRecDepth 100000
set_option maxHeartbeats 4000000
/-! The defs joined, level by level; the end. -/
namespace K81
open PySem PySem.Spec PyProof.Rows L2 K81H
theorem law_all {P : Program} {w : World} {K : PySem.W.Frag} {mg : Str → Option Value} {base : Heap} (T : Tx K mg) : OkLaw P w K mg base := by
  have h_MBook := ok_MBook (P := P) (w := w) (base := base) T
  have h_IsName := ok_IsName (P := P) (w := w) (base := base) T
  have h_CheckNames := ok_CheckNames (P := P) (w := w) (base := base) T h_IsName
  have h_Cut := ok_Cut (P := P) (w := w) (base := base) T
  have h_NumberOf := ok_NumberOf (P := P) (w := w) (base := base) T
  have h_NumberIn := ok_NumberIn (P := P) (w := w) (base := base) T h_NumberOf
  have h_MLanded := ok_MLanded (P := P) (w := w) (base := base) T h_CheckNames h_Cut h_NumberIn
  have h_ReadItems := ok_ReadItems (P := P) (w := w) (base := base) T
  have h_EntriesOf := ok_EntriesOf (P := P) (w := w) (base := base) T h_NumberOf h_ReadItems
  have h_ReadStock := ok_ReadStock (P := P) (w := w) (base := base) T h_EntriesOf
  have h_MStockOf := ok_MStockOf (P := P) (w := w) (base := base) T h_ReadStock
  have h_Covers := ok_Covers (P := P) (w := w) (base := base) T
  have h_FitsRange := ok_FitsRange (P := P) (w := w) (base := base) T h_Covers
  have h_MoveIndex := ok_MoveIndex (P := P) (w := w) (base := base) T
  have h_MMade := ok_MMade (P := P) (w := w) (base := base) T h_MStockOf h_CheckNames h_Cut h_FitsRange h_MoveIndex
  have h_MOtherEvent := ok_MOtherEvent (P := P) (w := w) (base := base) T h_MStockOf h_CheckNames h_Cut
  have h_MSent := ok_MSent (P := P) (w := w) (base := base) T h_MStockOf h_CheckNames h_Cut h_NumberIn
  have h_Less := ok_Less (P := P) (w := w) (base := base) T
  have h_Plus := ok_Plus (P := P) (w := w) (base := base) T
  have h_Carry := ok_Carry (P := P) (w := w) (base := base) T h_Less h_Plus
  have h_SentStockL := ok_SentStockL (P := P) (w := w) (base := base) T
  have h_FlowL := ok_FlowL (P := P) (w := w) (base := base) T h_SentStockL
  have h_IsPossible := ok_IsPossible (P := P) (w := w) (base := base) T h_Covers
  have h_MEvent := ok_MEvent (P := P) (w := w) (base := base) T h_MLanded h_MMade h_MOtherEvent h_MSent h_Carry h_FlowL h_IsPossible
  have h_PrintItems := ok_PrintItems (P := P) (w := w) (base := base) T
  have h_Written := ok_Written (P := P) (w := w) (base := base) T
  have h_PrintStock := ok_PrintStock (P := P) (w := w) (base := base) T h_PrintItems h_Written
  have h_MHolding := ok_MHolding (P := P) (w := w) (base := base) T h_CheckNames h_PrintStock
  have h_MHistory := ok_MHistory (P := P) (w := w) (base := base) T
  have h_IsNumber := ok_IsNumber (P := P) (w := w) (base := base) T
  have h_IsRecall := ok_IsRecall (P := P) (w := w) (base := base) T h_IsNumber
  have h_Greater := ok_Greater (P := P) (w := w) (base := base) T
  have h_SentStock := ok_SentStock (P := P) (w := w) (base := base) T
  have h_Flow := ok_Flow (P := P) (w := w) (base := base) T h_SentStock
  have h_KeptNumbers := ok_KeptNumbers (P := P) (w := w) (base := base) T
  have h_Lacks := ok_Lacks (P := P) (w := w) (base := base) T h_Carry h_Flow h_Greater h_KeptNumbers h_Less
  have h_Shown := ok_Shown (P := P) (w := w) (base := base) T
  have h_LeastRefunds := ok_LeastRefunds (P := P) (w := w) (base := base) T h_Greater h_Lacks h_Shown
  have h_Refunds := ok_Refunds (P := P) (w := w) (base := base) T h_LeastRefunds
  have h_WayOf := ok_WayOf (P := P) (w := w) (base := base) T
  have h_Strike := ok_Strike (P := P) (w := w) (base := base) T h_Carry h_Flow h_IsPossible h_Shown h_WayOf
  have h_MRecall := ok_MRecall (P := P) (w := w) (base := base) T h_MHistory h_Cut h_IsRecall h_NumberIn h_PrintStock h_Refunds h_Strike
  have h_MWayLines := ok_MWayLines (P := P) (w := w) (base := base) T h_PrintStock
  have h_MAnswer := ok_MAnswer (P := P) (w := w) (base := base) T h_MEvent h_MHolding h_MRecall h_MWayLines
  have h_MEnter := ok_MEnter (P := P) (w := w) (base := base) T h_MAnswer
  have h_LTake := ok_LTake (P := P) (w := w) (base := base) T
  have h_LNamed := ok_LNamed (P := P) (w := w) (base := base) T h_LTake
  have h_LStock := ok_LStock (P := P) (w := w) (base := base) T h_LTake
  have h_LBook := ok_LBook (P := P) (w := w) (base := base) T h_LNamed h_LStock h_LTake
  have h_LMix := ok_LMix (P := P) (w := w) (base := base) T
  have h_LNumbers := ok_LNumbers (P := P) (w := w) (base := base) T h_LMix
  have h_LDraws := ok_LDraws (P := P) (w := w) (base := base) T h_LNumbers
  have h_MInit := ok_MInit (P := P) (w := w) (base := base) T
  have h_LLine := ok_LLine (P := P) (w := w) (base := base) T h_PrintStock
  have h_LEntered := ok_LEntered (P := P) (w := w) (base := base) T h_MInit h_MEnter h_LLine
  have h_LFlow := ok_LFlow (P := P) (w := w) (base := base) T
  have h_LDone := ok_LDone (P := P) (w := w) (base := base) T h_LFlow
  have h_LEvent := ok_LEvent (P := P) (w := w) (base := base) T h_LStock h_LTake
  have h_LHistory := ok_LHistory (P := P) (w := w) (base := base) T h_LDone h_LEvent
  have h_CarryOut := ok_CarryOut (P := P) (w := w) (base := base) T h_Carry h_Flow h_IsPossible h_Shown
  have h_LSeen := ok_LSeen (P := P) (w := w) (base := base) T h_MEnter h_CarryOut h_PrintStock
  have h_LogsOf := ok_LogsOf (P := P) (w := w) (base := base) T
  have h_Merged := ok_Merged (P := P) (w := w) (base := base) T
  have h_Law := ok_Law (P := P) (w := w) (base := base) T h_MBook h_MEnter h_MHistory h_LBook h_LDraws h_LEntered h_LHistory h_LSeen h_LTake h_LogsOf h_Merged h_PrintStock h_Refunds h_Strike
  exact h_Law
theorem sp_law {K : PySem.W.Frag} {vs : List V} {H : Hp} {Q : VK} {E : XK} (h : spLaw K vs H Q E) : spP K 1 fLaw vs H Q E := by
  obtain ⟨a, ns, rfl, hS, hl, q⟩ := h
  refine ⟨rfl, H, [.scr ns], fun s => s = .dat (.bool true), Same.refl H, ⟨sl_scr hS, trivial⟩, ⟨ns, rfl, hl, rfl⟩, fun v s I' H' _ o e => ?_⟩
  subst e
  obtain ⟨v', ev, hv⟩ := o
  cases ev
  rw [dp_bl hv]
  exact q H'
theorem lawFacts : LawFacts := by
  intro w K h mg f X G hfa c r
  have T := tx_of X G c r
  have e := hfa.symm.trans T.gLaw
  cases e
  obtain ⟨fd, F⟩ := T.fLaw
  have b := FunD.bindsA (ps := ["_law_script"]) F fun _ _ _ _ _ _ us hl => match us, hl with | [_], _ => rfl
  exact ⟨fd, fun s v => b s [v] rfl, fun base _ _ => (law_all (w := w) (base := base) T fd F).imp fun vs H Q E h => sp_law h⟩
end K81
theorem PySem.Challenge.cw_mintlaw_k81_whole_sessions_tell_historie_holds : PySem.Challenge.rw_mintlaw_k81_whole_sessions_tell_historie.Holds :=
  K81H.ends K81.lawFacts
