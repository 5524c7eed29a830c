import PyProof.Rows.All
import Wide.All
import OpenK.AllK
import Wide.FinOn
import KE.KStateDown
import KE.KExcSuper
import HandS.ForMost
import HandS.ForExc
import HandS.Defaults
import HandS.Head0
import HandS.Head1
import HandS.Head2
import HandS.HeadEnd
import HandS.HeadHook1
import HandS.HeadHook2
import HandS.ExcInit
import HandS.ExcField
import HandS.ClsMeth
import PySem.Challenge.RW_carrylog_k12_whole_ring_tables
import HandS.MakeKw
import HandS.MakeKwOnly
import HandS.Star
import HandS.FStr
import HandS.DictComp
import HandS.TryOnly
import HandS.CallSlots
import HandS.GenList
import HandS.SlotsOwn
import HandS.IsInst
import HandS.Wide
import HandS.ListItems
import HandS.Conv
import HandS.Flow
import HandS.Finally
import HandS.SortKw
import HandS.HeadWalk
import HandS.EndBits
import PyProof.Rows.SortShellAny
import HandS.Evl
import PyProof.StrLawsRepr
set_option Elab.async false
set_option linter.all false
set_option maxRecDepth 100000
set_option maxHeartbeats 4000000
namespace K12
open PySem PySem.Spec PyProof.Rows L2
abbrev pg : Program := PySem.Challenge.pw_carrylog_k12_whole_ring_tables
def top (i : Nat) : Stmt := PySem.Challenge.pw_carrylog_k12_whole_ring_tables.main.body.getD i (.Pass ⟨0, 0, 0, 0⟩)
abbrev sRingLogInit : Stmt := inClass (top 21) 0
abbrev sRingLogTrim : Stmt := inClass (top 21) 1
abbrev sRingLogCopied : Stmt := inClass (top 21) 3
abbrev sRingLogFindLiving : Stmt := inClass (top 21) 4
abbrev sRingLogNeededCount : Stmt := inClass (top 21) 6
abbrev sRingLogAppendEntry : Stmt := inClass (top 21) 7
abbrev sRingLogReleaseAt : Stmt := inClass (top 21) 8
abbrev sRingLogCarryTail : Stmt := inClass (top 21) 9
abbrev sRingInit : Stmt := inClass (top 23) 0
abbrev sRingLen : Stmt := inClass (top 23) 12
abbrev sRingContains : Stmt := inClass (top 23) 13
abbrev sRingRead : Stmt := inClass (top 23) 14
abbrev sRingTable : Stmt := inClass (top 23) 15
abbrev sRingScan : Stmt := inClass (top 23) 17
abbrev sRingAge : Stmt := inClass (top 23) 18
abbrev sRingPut : Stmt := inClass (top 23) 19
abbrev sRingDelete : Stmt := inClass (top 23) 20
abbrev sRingComplete : Stmt := inClass (top 23) 21
abbrev sRingAppendTo : Stmt := inClass (top 23) 22
abbrev sRingCarryIn : Stmt := inClass (top 23) 23
abbrev sRoundInit : Stmt := inClass (top 25) 1
abbrev sRoundLen : Stmt := inClass (top 25) 4
abbrev sRoundAdd : Stmt := inClass (top 25) 6
abbrev sRoundAt : Stmt := inClass (top 25) 7
abbrev sAtLeast : Stmt := top 11
abbrev sAtMost : Stmt := top 12
abbrev sWholeNumber : Stmt := top 13
abbrev sGoodKey : Stmt := top 14
abbrev sIsNeeded : Stmt := top 20
abbrev sLawCell : Stmt := top 27
abbrev sLawPurse : Stmt := top 28
abbrev sLawMixed : Stmt := top 29
abbrev sLawTake : Stmt := top 30
abbrev sLawCycle : Stmt := top 31
abbrev sLawRound : Stmt := top 32
abbrev sLawName : Stmt := top 33
abbrev sLawPool : Stmt := top 34
abbrev sLawWorth : Stmt := top 35
abbrev sLawTerms : Stmt := top 36
abbrev sLawRing : Stmt := top 37
abbrev sLawWorld : Stmt := top 38
abbrev sLawTrimmed : Stmt := top 39
abbrev sLawMoved : Stmt := top 40
abbrev sLawAhead : Stmt := top 41
abbrev sLawDue : Stmt := top 42
abbrev sLawPick : Stmt := top 43
abbrev sLawTally : Stmt := top 44
abbrev sLawDeed : Stmt := top 45
abbrev sLawMove : Stmt := top 46
abbrev sLawRead : Stmt := top 47
abbrev sLawAge : Stmt := top 48
abbrev sLawDepth : Stmt := top 49
abbrev sLawKept : Stmt := top 50
abbrev sLawTurn : Stmt := top 51
abbrev sLaw : Stmt := top 52
abbrev sKeyLimitInit : Stmt := inClass (top 4) 0
abbrev sUnknownKeyInit : Stmt := inClass (top 5) 0
abbrev sBadChoiceInit : Stmt := inClass (top 6) 0
abbrev sStalledInit : Stmt := inClass (top 7) 0

def dRingLogInit : He.DefD := ⟨("RingLog", some "__init__"), "__init__", "RingLog.__init__", defArgs sRingLogInit, defBody sRingLogInit, defScope sRingLogInit, [], []⟩
def dRingLogTrim : He.DefD := ⟨("RingLog", some "trim"), "trim", "RingLog.trim", defArgs sRingLogTrim, defBody sRingLogTrim, defScope sRingLogTrim, [], []⟩
def dRingLogCopied : He.DefD := ⟨("RingLog", some "copied"), "copied", "RingLog.copied", defArgs sRingLogCopied, defBody sRingLogCopied, defScope sRingLogCopied, [], []⟩
def dRingLogFindLiving : He.DefD := ⟨("RingLog", some "find_living"), "find_living", "RingLog.find_living", defArgs sRingLogFindLiving, defBody sRingLogFindLiving, defScope sRingLogFindLiving, [], []⟩
def dRingLogNeededCount : He.DefD := ⟨("RingLog", some "needed_count"), "needed_count", "RingLog.needed_count", defArgs sRingLogNeededCount, defBody sRingLogNeededCount, defScope sRingLogNeededCount, [], []⟩
def dRingLogAppendEntry : He.DefD := ⟨("RingLog", some "append_entry"), "append_entry", "RingLog.append_entry", defArgs sRingLogAppendEntry, defBody sRingLogAppendEntry, defScope sRingLogAppendEntry, [], []⟩
def dRingLogReleaseAt : He.DefD := ⟨("RingLog", some "release_at"), "release_at", "RingLog.release_at", defArgs sRingLogReleaseAt, defBody sRingLogReleaseAt, defScope sRingLogReleaseAt, [], []⟩
def dRingLogCarryTail : He.DefD := ⟨("RingLog", some "carry_tail"), "carry_tail", "RingLog.carry_tail", defArgs sRingLogCarryTail, defBody sRingLogCarryTail, defScope sRingLogCarryTail, [], []⟩
def dRingInit : He.DefD := ⟨("Ring", some "__init__"), "__init__", "Ring.__init__", defArgs sRingInit, defBody sRingInit, defScope sRingInit, [], [("late", .bl false), ("readers", .int 0)]⟩
def dRingLen : He.DefD := ⟨("Ring", some "__len__"), "__len__", "Ring.__len__", defArgs sRingLen, defBody sRingLen, defScope sRingLen, [], []⟩
def dRingContains : He.DefD := ⟨("Ring", some "__contains__"), "__contains__", "Ring.__contains__", defArgs sRingContains, defBody sRingContains, defScope sRingContains, [], []⟩
def dRingRead : He.DefD := ⟨("Ring", some "read"), "read", "Ring.read", defArgs sRingRead, defBody sRingRead, defScope sRingRead, [], []⟩
def dRingTable : He.DefD := ⟨("Ring", some "table"), "table", "Ring.table", defArgs sRingTable, defBody sRingTable, defScope sRingTable, [], []⟩
def dRingScan : He.DefD := ⟨("Ring", some "scan"), "scan", "Ring.scan", defArgs sRingScan, defBody sRingScan, defScope sRingScan, [], []⟩
def dRingAge : He.DefD := ⟨("Ring", some "age"), "age", "Ring.age", defArgs sRingAge, defBody sRingAge, defScope sRingAge, [], []⟩
def dRingPut : He.DefD := ⟨("Ring", some "put"), "put", "Ring.put", defArgs sRingPut, defBody sRingPut, defScope sRingPut, [.non], []⟩
def dRingDelete : He.DefD := ⟨("Ring", some "delete"), "delete", "Ring.delete", defArgs sRingDelete, defBody sRingDelete, defScope sRingDelete, [.non], []⟩
def dRingComplete : He.DefD := ⟨("Ring", some "_complete"), "_complete", "Ring._complete", defArgs sRingComplete, defBody sRingComplete, defScope sRingComplete, [], []⟩
def dRingAppendTo : He.DefD := ⟨("Ring", some "_append_to"), "_append_to", "Ring._append_to", defArgs sRingAppendTo, defBody sRingAppendTo, defScope sRingAppendTo, [], []⟩
def dRingCarryIn : He.DefD := ⟨("Ring", some "_carry_in"), "_carry_in", "Ring._carry_in", defArgs sRingCarryIn, defBody sRingCarryIn, defScope sRingCarryIn, [], []⟩
def dRoundInit : He.DefD := ⟨("Round", some "__init__"), "__init__", "Round.__init__", defArgs sRoundInit, defBody sRoundInit, defScope sRoundInit, [], []⟩
def dRoundLen : He.DefD := ⟨("Round", some "__len__"), "__len__", "Round.__len__", defArgs sRoundLen, defBody sRoundLen, defScope sRoundLen, [], []⟩
def dRoundAdd : He.DefD := ⟨("Round", some "__add__"), "__add__", "Round.__add__", defArgs sRoundAdd, defBody sRoundAdd, defScope sRoundAdd, [], []⟩
def dRoundAt : He.DefD := ⟨("Round", some "at"), "at", "Round.at", defArgs sRoundAt, defBody sRoundAt, defScope sRoundAt, [], []⟩
def dAtLeast : He.DefD := ⟨("at_least", none), "at_least", "at_least", defArgs sAtLeast, defBody sAtLeast, defScope sAtLeast, [], []⟩
def dAtMost : He.DefD := ⟨("at_most", none), "at_most", "at_most", defArgs sAtMost, defBody sAtMost, defScope sAtMost, [], []⟩
def dWholeNumber : He.DefD := ⟨("whole_number", none), "whole_number", "whole_number", defArgs sWholeNumber, defBody sWholeNumber, defScope sWholeNumber, [], []⟩
def dGoodKey : He.DefD := ⟨("good_key", none), "good_key", "good_key", defArgs sGoodKey, defBody sGoodKey, defScope sGoodKey, [], []⟩
def dIsNeeded : He.DefD := ⟨("is_needed", none), "is_needed", "is_needed", defArgs sIsNeeded, defBody sIsNeeded, defScope sIsNeeded, [], []⟩
def dLawCell : He.DefD := ⟨("_law_cell", none), "_law_cell", "_law_cell", defArgs sLawCell, defBody sLawCell, defScope sLawCell, [], []⟩
def dLawPurse : He.DefD := ⟨("_law_purse", none), "_law_purse", "_law_purse", defArgs sLawPurse, defBody sLawPurse, defScope sLawPurse, [], []⟩
def dLawMixed : He.DefD := ⟨("_law_mixed", none), "_law_mixed", "_law_mixed", defArgs sLawMixed, defBody sLawMixed, defScope sLawMixed, [], []⟩
def dLawTake : He.DefD := ⟨("_law_take", none), "_law_take", "_law_take", defArgs sLawTake, defBody sLawTake, defScope sLawTake, [], []⟩
def dLawCycle : He.DefD := ⟨("_law_cycle", none), "_law_cycle", "_law_cycle", defArgs sLawCycle, defBody sLawCycle, defScope sLawCycle, [], []⟩
def dLawRound : He.DefD := ⟨("_law_round", none), "_law_round", "_law_round", defArgs sLawRound, defBody sLawRound, defScope sLawRound, [], []⟩
def dLawName : He.DefD := ⟨("_law_name", none), "_law_name", "_law_name", defArgs sLawName, defBody sLawName, defScope sLawName, [], []⟩
def dLawPool : He.DefD := ⟨("_law_pool", none), "_law_pool", "_law_pool", defArgs sLawPool, defBody sLawPool, defScope sLawPool, [], []⟩
def dLawWorth : He.DefD := ⟨("_law_worth", none), "_law_worth", "_law_worth", defArgs sLawWorth, defBody sLawWorth, defScope sLawWorth, [], []⟩
def dLawTerms : He.DefD := ⟨("_law_terms", none), "_law_terms", "_law_terms", defArgs sLawTerms, defBody sLawTerms, defScope sLawTerms, [], []⟩
def dLawRing : He.DefD := ⟨("_law_ring", none), "_law_ring", "_law_ring", defArgs sLawRing, defBody sLawRing, defScope sLawRing, [], []⟩
def dLawWorld : He.DefD := ⟨("_law_world", none), "_law_world", "_law_world", defArgs sLawWorld, defBody sLawWorld, defScope sLawWorld, [], []⟩
def dLawTrimmed : He.DefD := ⟨("_law_trimmed", none), "_law_trimmed", "_law_trimmed", defArgs sLawTrimmed, defBody sLawTrimmed, defScope sLawTrimmed, [], []⟩
def dLawMoved : He.DefD := ⟨("_law_moved", none), "_law_moved", "_law_moved", defArgs sLawMoved, defBody sLawMoved, defScope sLawMoved, [], []⟩
def dLawAhead : He.DefD := ⟨("_law_ahead", none), "_law_ahead", "_law_ahead", defArgs sLawAhead, defBody sLawAhead, defScope sLawAhead, [], []⟩
def dLawDue : He.DefD := ⟨("_law_due", none), "_law_due", "_law_due", defArgs sLawDue, defBody sLawDue, defScope sLawDue, [], []⟩
def dLawPick : He.DefD := ⟨("_law_pick", none), "_law_pick", "_law_pick", defArgs sLawPick, defBody sLawPick, defScope sLawPick, [], []⟩
def dLawTally : He.DefD := ⟨("_law_tally", none), "_law_tally", "_law_tally", defArgs sLawTally, defBody sLawTally, defScope sLawTally, [], []⟩
def dLawDeed : He.DefD := ⟨("_law_deed", none), "_law_deed", "_law_deed", defArgs sLawDeed, defBody sLawDeed, defScope sLawDeed, [], []⟩
def dLawMove : He.DefD := ⟨("_law_move", none), "_law_move", "_law_move", defArgs sLawMove, defBody sLawMove, defScope sLawMove, [], []⟩
def dLawRead : He.DefD := ⟨("_law_read", none), "_law_read", "_law_read", defArgs sLawRead, defBody sLawRead, defScope sLawRead, [], []⟩
def dLawAge : He.DefD := ⟨("_law_age", none), "_law_age", "_law_age", defArgs sLawAge, defBody sLawAge, defScope sLawAge, [], []⟩
def dLawDepth : He.DefD := ⟨("_law_depth", none), "_law_depth", "_law_depth", defArgs sLawDepth, defBody sLawDepth, defScope sLawDepth, [], []⟩
def dLawKept : He.DefD := ⟨("_law_kept", none), "_law_kept", "_law_kept", defArgs sLawKept, defBody sLawKept, defScope sLawKept, [], []⟩
def dLawTurn : He.DefD := ⟨("_law_turn", none), "_law_turn", "_law_turn", defArgs sLawTurn, defBody sLawTurn, defScope sLawTurn, [], []⟩
def dLaw : He.DefD := ⟨("law", none), "law", "law", defArgs sLaw, defBody sLaw, defScope sLaw, [], []⟩
def defsAll : List He.DefD := [dRingLogInit, dRingLogTrim, dRingLogCopied, dRingLogFindLiving, dRingLogNeededCount, dRingLogAppendEntry, dRingLogReleaseAt, dRingLogCarryTail, dRingInit, dRingLen, dRingContains, dRingRead, dRingTable, dRingScan, dRingAge, dRingPut, dRingDelete, dRingComplete, dRingAppendTo, dRingCarryIn, dRoundInit, dRoundLen, dRoundAdd, dRoundAt, dAtLeast, dAtMost, dWholeNumber, dGoodKey, dIsNeeded, dLawCell, dLawPurse, dLawMixed, dLawTake, dLawCycle, dLawRound, dLawName, dLawPool, dLawWorth, dLawTerms, dLawRing, dLawWorld, dLawTrimmed, dLawMoved, dLawAhead, dLawDue, dLawPick, dLawTally, dLawDeed, dLawMove, dLawRead, dLawAge, dLawDepth, dLawKept, dLawTurn, dLaw]
def factsA : List He.Fa := [.glo "at_least",
  .glo "at_most",
  .glo "whole_number",
  .glo "good_key",
  .glo "is_needed",
  .glo "_law_cell",
  .glo "_law_purse",
  .glo "_law_mixed",
  .glo "_law_take",
  .glo "_law_cycle",
  .glo "_law_round",
  .glo "_law_name",
  .glo "_law_pool",
  .glo "_law_worth",
  .glo "_law_terms",
  .glo "_law_ring",
  .glo "_law_world",
  .glo "_law_trimmed",
  .glo "_law_moved",
  .glo "_law_ahead",
  .glo "_law_due",
  .glo "_law_pick",
  .glo "_law_tally",
  .glo "_law_deed",
  .glo "_law_move",
  .glo "_law_read",
  .glo "_law_age",
  .glo "_law_depth",
  .glo "_law_kept",
  .glo "_law_turn",
  .glo "law",
  .glo "RingLog",
  .glo "Ring",
  .glo "Round",
  .glo "StoreError",
  .glo "KeyLimit",
  .glo "UnknownKey",
  .glo "BadChoice",
  .glo "Stalled",
  .free "abs",
  .free "bool",
  .free "dict",
  .free "enumerate",
  .free "int",
  .free "isinstance",
  .free "len",
  .free "list",
  .free "max",
  .free "min",
  .free "range",
  .free "repr",
  .free "sorted",
  .free "str",
  .free "sum",
  .free "super",
  .free "tuple",
  .int "KEY_LENGTH" 12,
  .int "KEY" 0,
  .int "VALUE" 1,
  .int "LIVING" 2,
  .int "READERS" 3,
  .str "KEY_CHARACTERS" "abcdefghijklmnopqrstuvwxyz0123456789",
  .cls "RingLog",
  .mkr "RingLog",
  .noat "RingLog" "entries",
  .meth "RingLog" "trim",
  .meth "RingLog" "copied",
  .meth "RingLog" "find_living",
  .meth "RingLog" "needed_count",
  .meth "RingLog" "append_entry",
  .meth "RingLog" "release_at",
  .meth "RingLog" "carry_tail",
  .cls "Ring",
  .mkr "Ring",
  .noat "Ring" "_places",
  .noat "Ring" "_limit",
  .noat "Ring" "_budgets",
  .noat "Ring" "_late",
  .noat "Ring" "_readers",
  .noat "Ring" "_log",
  .noat "Ring" "_done",
  .noat "Ring" "_phase",
  .noat "Ring" "_carried",
  .noat "Ring" "_last_wait",
  .noat "Ring" "_opened",
  .noat "Ring" "_open",
  .meth "Ring" "__len__",
  .meth "Ring" "__contains__",
  .meth "Ring" "read",
  .meth "Ring" "table",
  .meth "Ring" "scan",
  .meth "Ring" "age",
  .meth "Ring" "put",
  .meth "Ring" "delete",
  .meth "Ring" "_complete",
  .meth "Ring" "_append_to",
  .meth "Ring" "_carry_in",
  .cls "Round",
  .mkr "Round",
  .noat "Round" "_budgets",
  .meth "Round" "__len__",
  .meth "Round" "__add__",
  .meth "Round" "at",
  .exm "KeyLimit" "StoreError" true,
  .exm "UnknownKey" "StoreError" true,
  .exm "BadChoice" "StoreError" true,
  .exm "Stalled" "StoreError" true,
  .exm "UnknownKey" "UnknownKey" true]
def loose0 : List PySem.Str := [("_wall" : PySem.Str), ("StoreError" : PySem.Str), ("InvalidInput" : PySem.Str), ("KeyLimit" : PySem.Str), ("UnknownKey" : PySem.Str), ("BadChoice" : PySem.Str), ("Stalled" : PySem.Str), ("KEY_CHARACTERS" : PySem.Str), ("KEY_LENGTH" : PySem.Str), ("at_least" : PySem.Str)]
def loose1 : List PySem.Str := [("at_most" : PySem.Str), ("whole_number" : PySem.Str), ("good_key" : PySem.Str), ("KEY" : PySem.Str), ("VALUE" : PySem.Str), ("LIVING" : PySem.Str), ("READERS" : PySem.Str), ("is_needed" : PySem.Str), ("RingLog" : PySem.Str), ("Ring" : PySem.Str)]
def loose2 : List PySem.Str := [("Round" : PySem.Str), ("_law_cell" : PySem.Str), ("_law_purse" : PySem.Str), ("_law_mixed" : PySem.Str), ("_law_take" : PySem.Str), ("_law_cycle" : PySem.Str), ("_law_round" : PySem.Str), ("_law_name" : PySem.Str), ("_law_pool" : PySem.Str), ("_law_worth" : PySem.Str)]
def loose3 : List PySem.Str := [("_law_terms" : PySem.Str), ("_law_ring" : PySem.Str), ("_law_world" : PySem.Str), ("_law_trimmed" : PySem.Str), ("_law_moved" : PySem.Str), ("_law_ahead" : PySem.Str), ("_law_due" : PySem.Str), ("_law_pick" : PySem.Str), ("_law_tally" : PySem.Str), ("_law_deed" : PySem.Str)]
def loose4 : List PySem.Str := [("_law_move" : PySem.Str), ("_law_read" : PySem.Str), ("_law_age" : PySem.Str), ("_law_depth" : PySem.Str), ("_law_kept" : PySem.Str), ("_law_turn" : PySem.Str)]
def looseAll : List PySem.Str := loose0 ++ loose1 ++ loose2 ++ loose3 ++ loose4
def namesC : List Str := [("RingLog" : Str), ("Ring" : Str), ("Round" : Str), ("StoreError" : Str), ("KeyLimit" : Str), ("UnknownKey" : Str), ("BadChoice" : Str), ("Stalled" : Str)]
def namesM : List (Str × Str) := [(("RingLog" : Str), ("__init__" : Str)),
  (("RingLog" : Str), ("trim" : Str)),
  (("RingLog" : Str), ("copied" : Str)),
  (("RingLog" : Str), ("find_living" : Str)),
  (("RingLog" : Str), ("needed_count" : Str)),
  (("RingLog" : Str), ("append_entry" : Str)),
  (("RingLog" : Str), ("release_at" : Str)),
  (("RingLog" : Str), ("carry_tail" : Str)),
  (("Ring" : Str), ("__init__" : Str)),
  (("Ring" : Str), ("__len__" : Str)),
  (("Ring" : Str), ("__contains__" : Str)),
  (("Ring" : Str), ("read" : Str)),
  (("Ring" : Str), ("table" : Str)),
  (("Ring" : Str), ("scan" : Str)),
  (("Ring" : Str), ("age" : Str)),
  (("Ring" : Str), ("put" : Str)),
  (("Ring" : Str), ("delete" : Str)),
  (("Ring" : Str), ("_complete" : Str)),
  (("Ring" : Str), ("_append_to" : Str)),
  (("Ring" : Str), ("_carry_in" : Str)),
  (("Round" : Str), ("__init__" : Str)),
  (("Round" : Str), ("__len__" : Str)),
  (("Round" : Str), ("__add__" : Str)),
  (("Round" : Str), ("at" : Str))] ++ [(("KeyLimit" : Str), ("__init__" : Str)), (("UnknownKey" : Str), ("__init__" : Str)), (("BadChoice" : Str), ("__init__" : Str)), (("Stalled" : Str), ("__init__" : Str))]
def namesF0 : List Str := [("at_least" : Str), ("at_most" : Str), ("whole_number" : Str), ("good_key" : Str), ("is_needed" : Str), ("_law_cell" : Str), ("_law_purse" : Str), ("_law_mixed" : Str), ("_law_take" : Str), ("_law_cycle" : Str)]
def namesF1 : List Str := [("_law_round" : Str), ("_law_name" : Str), ("_law_pool" : Str), ("_law_worth" : Str), ("_law_terms" : Str), ("_law_ring" : Str), ("_law_world" : Str), ("_law_trimmed" : Str), ("_law_moved" : Str), ("_law_ahead" : Str)]
def namesF2 : List Str := [("_law_due" : Str), ("_law_pick" : Str), ("_law_tally" : Str), ("_law_deed" : Str), ("_law_move" : Str), ("_law_read" : Str), ("_law_age" : Str), ("_law_depth" : Str), ("_law_kept" : Str), ("_law_turn" : Str)]
def namesF3 : List Str := [("law" : Str)]
def namesF : List Str := namesF0 ++ namesF1 ++ namesF2 ++ namesF3
/-! facts of the exception classes -/
def cellOf (K : PySem.W.Frag) (fd : FuncData) : Addr := match fd.closure with
  | [(_, c)] => c
  | _ => 0
/-- the class at x, its field f, its own `__init__` with the cell of `__class__` -/
def excB (K : PySem.W.Frag) (x f : Str) : Bool :=
  (match K.lookup (He.ga K x) with
    | some ⟨.type "type", _, .cls cd, sl⟩ => (match cd.mro, sl.toList with
      | .ref C' :: bm, [_, _, _, _, some (.builtin n), _] => C' == He.ga K x && (n == "ValueError.__new__" && (!cd.hasDel && (cd.hasDict && HandSPX.refsVE bm)))
      | _, _ => false)
    | _ => false) &&
  (decide (PySem.W.findIn K (.ref (He.ga K x)) "__setattr__" = some (some (.builtin "object.__setattr__"))) &&
  (decide (PySem.W.subIn K (.ref (He.ga K x)) (.type "BaseException") = some true) &&
  (decide (PySem.W.typeIn K (.ref (He.ga K x)) = some (.type "type")) &&
  (PySem.W.keepIn K (.ref (He.ga K x)) &&
  (decide (PySem.W.findIn K (.ref (He.ga K x)) f = some none) &&
  (decide (PySem.W.findIn K (.ref (He.ga K x)) "__init__" = some (some (.ref (He.ma K (He.ga K x) "__init__")))) &&
  (decide (PySem.W.typeIn K (.ref (He.ma K (He.ga K x) "__init__")) = some (.type "function")) &&
  (decide (PySem.W.mroIn K (He.ga K x) (.ref (He.ga K x)) = some true) &&
  (decide (PySem.W.subIn K (.ref (He.ga K x)) (.type "ValueError") = some true) &&
  (decide (PySem.W.ks_superIn K (He.ga K x) (He.ga K x) "__init__" = some (some (.builtin "ValueError.__init__")))))))))))))
/-- its `__init__`'s function object besides what fnY says: code, closure, defaults -/
def excF (K : PySem.W.Frag) (x : Str) (q : Str) : Bool :=
  (match K.lookup (He.ma K (He.ga K x) "__init__") with
    | some ⟨_, _, .func fd, _⟩ => PySem.W.codeIn K fd.code q &&
      ((match fd.closure with
        | [(y, cc)] => decide (y = "__class__") && (match K.lookup cc with
          | some ⟨_, _, .cell (some (.ref D)), _⟩ => D == He.ga K x
          | _ => false)
        | _ => false) &&
      ((match fd.code with
        | .ref c => (match K.lookup c with
          | some ⟨_, _, .fields vs, _⟩ => (match (vs[2]? : Option Value) with
            | some (.str file _) => decide ((pg.main.file : Str) = file)
            | _ => false)
          | _ => false)
        | _ => false) &&
      (match fd.defaults with
        | .none => true
        | _ => false)))
    | _ => false)
abbrev FnY : Type := Option (Str × Str × Arguments × FuncBody × Scope × Addr × Addr)
def fnY (K : PySem.W.Frag) (x : Str) : FnY := match K.lookup (He.ma K (He.ga K x) "__init__") with
  | some ⟨_, _, .func fd, _⟩ => some (fd.name, fd.qualname, fd.params, fd.body, fd.scope, fd.globals, fd.builtins)
  | _ => none
def exD (x : Str) (st : Stmt) (q : Str) : FnY := some ("__init__", q, defArgs st, .stmts (defBody st), defScope st, mainGlobals, builtinsNs)
def clsSpec (K : PySem.W.Frag) (x m : Str) : Bool := PySem.W.isFn K (.ref (He.ma K (He.ga K x) m)) && decide (PySem.W.findIn K (.ref (He.ga K x)) m = some (some (.ref (He.ma K (He.ga K x) m))))
/-- what isinstance asks of a class of one's own -/
def isiB (K : PySem.W.Frag) (C : Addr) : Bool :=
  decide (PySem.W.findIn K (.ref C) "__class__" = some (some (.builtin "object.__class__"))) && (decide (PySem.W.specialIn K (.builtin "object.__class__") "__get__" = some (some (.builtin "getset_descriptor.__get__"))) &&
  (decide (PySem.W.takesIn K (.builtin "object.__class__") = some true) && decide (PySem.W.mroIn K C (.type "object") = some true)))
/-- all further facts -/
def exB (K : PySem.W.Frag) : Bool :=
  excB K "KeyLimit" "most" && (excB K "UnknownKey" "key" && (excB K "BadChoice" "choice" && (excB K "Stalled" "deeds" &&
  (excF K "KeyLimit" "KeyLimit.__init__" && (excF K "UnknownKey" "UnknownKey.__init__" && (excF K "BadChoice" "BadChoice.__init__" && (excF K "Stalled" "Stalled.__init__" &&
  (L2.xfB K (He.ga K "UnknownKey") &&
  (decide (PySem.W.nsIn K cStatics "thirdparty.any" = some none) &&
  (clsSpec K "Ring" "__len__" && (clsSpec K "Ring" "__contains__" && (clsSpec K "Round" "__len__" && (clsSpec K "Round" "__add__" &&
  (PySem.W.selfFirst K (He.ga K "Round") &&
  (PySem.W.readsIn K (He.ga K "Round") (.type "type") &&
  (decide (PySem.W.specialIn K (.ref (He.ga K "Round")) "__getattribute__" = some (some (.builtin "type.__getattribute__"))) &&
  (isiB K (He.ga K "Round") &&
  (match PySem.W.findCls K (.ref (He.ga K "Round")) (.type "type") "MOST" with
    | some (.val (.int 12 _)) => true
    | _ => false))))))))))))))))))
def obsM (K : PySem.W.Frag) : He.AlD × Bool × List FnY := (He.obsD factsA defsAll K, exB K, [fnY K "KeyLimit", fnY K "UnknownKey", fnY K "BadChoice", fnY K "Stalled"])
def valM : He.AlD × Bool × List FnY := (He.valD defsAll, true, [exD "KeyLimit" sKeyLimitInit "KeyLimit.__init__", exD "UnknownKey" sUnknownKeyInit "UnknownKey.__init__", exD "BadChoice" sBadChoiceInit "BadChoice.__init__", exD "Stalled" sStalledInit "Stalled.__init__"])
/-! what K holds: by paths, each list written out in the kernel before it is used -/
def frL {α : Type} : List Addr → (List Addr → α) → α
  | [], k => k []
  | a :: r, k => HandSHeadRun.frNat a fun a' => frL r fun r' => k (a' :: r')
theorem frL_eq {α : Type} : ∀ (l : List Addr) (k : List Addr → α), frL l k = k l
  | [], _ => rfl
  | a :: r, k => by
    show HandSHeadRun.frNat a (fun a' => frL r fun r' => k (a' :: r')) = k (a :: r)
    rw [HandSHeadRun.frNat_eq, frL_eq r]
def frK {α : Type} (g : Addr → Option Obj) : List Addr → (PySem.W.Frag → α) → α
  | [], k => k []
  | a :: r, k => match g a with
    | some o => frK g r fun K => k ((a, o) :: K)
    | none => frK g r k
/-- K tells what g tells -/
def Tells (g : Addr → Option Obj) (K : PySem.W.Frag) : Prop := ∀ p ∈ K, g p.1 = some p.2
theorem frK_eq {α : Type} {g : Addr → Option Obj} : ∀ (l : List Addr) (k : PySem.W.Frag → α), ∃ K, Tells g K ∧ frK g l k = k K
  | [], _ => ⟨[], (fun _ h => by cases h), rfl⟩
  | a :: r, k => by
    cases e : g a with
    | none =>
      obtain ⟨K, h1, h2⟩ := frK_eq r k
      refine ⟨K, h1, ?_⟩
      show (match g a with | some o => frK g r fun K => k ((a, o) :: K) | none => frK g r k) = k K
      rw [e]
      exact h2
    | some o =>
      obtain ⟨K, h1, h2⟩ := frK_eq r fun K => k ((a, o) :: K)
      refine ⟨(a, o) :: K, fun p hp => ?_, ?_⟩
      · rcases List.mem_cons.mp hp with q | q
        · rw [q]; exact e
        · exact h1 p q
      · show (match g a with | some o => frK g r fun K => k ((a, o) :: K) | none => frK g r k) = k ((a, o) :: K)
        rw [e]
        exact h2
def frF {α : Type} : PySem.W.Frag → (PySem.W.Frag → α) → α
  | [], k => k []
  | p :: r, k => frF r fun r' => k (p :: r')
theorem frF_eq {α : Type} : ∀ (l : PySem.W.Frag) (k : PySem.W.Frag → α), frF l k = k l
  | [], _ => rfl
  | p :: r, k => by
    show (frF r fun r' => k (p :: r')) = k (p :: r)
    rw [frF_eq r]
theorem Tells.app {g : Addr → Option Obj} {K L : PySem.W.Frag} (a : Tells g K) (b : Tells g L) : Tells g (K ++ L) := fun p hp => (List.mem_append.mp hp).elim (a p) (b p)
theorem lookup_mem {a : Addr} {o : Obj} : ∀ {l : List (Addr × Obj)}, l.lookup a = some o → (a, o) ∈ l
  | [], h => by cases h
  | (b, u) :: r, h => by
    by_cases e : a = b
    · subst e
      have h2 : some u = some o := by simpa [List.lookup] using h
      rw [Option.some.inj h2]
      exact List.mem_cons_self
    · have h2 : r.lookup a = some o := by
        have q : (a == b) = false := by simpa using e
        simpa [List.lookup, q] using h
      exact List.mem_cons_of_mem _ (lookup_mem h2)
theorem Tells.in_ {h : Heap} {K : PySem.W.Frag} (t : Tells h.get? K) : K.In h := fun _ _ e => t _ (lookup_mem e)
def nsOf (K : PySem.W.Frag) (x : Str) : Addr := match K.lookup (He.ga K x) with
  | some ⟨_, _, .cls cd, _⟩ => cd.ns
  | _ => 0
def ofFun (K : PySem.W.Frag) (f : Addr) : List Addr := match K.lookup f with
  | some ⟨_, _, .func fd, _⟩ => He.refV fd.code ++ (He.refV fd.defaults ++ (He.refV fd.kwdefaults ++ fd.closure.map (·.2)))
  | _ => []
/-- one stage: the objects at l behind K -/
def stage {α : Type} (g : Addr → Option Obj) (K : PySem.W.Frag) (l : List Addr) (k : PySem.W.Frag → α) : α := frL l fun l => frK g l fun L => frF (K ++ L) k
theorem stage_eq {α : Type} {g : Addr → Option Obj} {K : PySem.W.Frag} {l : List Addr} (k : PySem.W.Frag → α) (t : Tells g K) : ∃ L, Tells g L ∧ stage g K l k = k L := by
  unfold stage
  rw [frL_eq]
  obtain ⟨L, h1, h2⟩ := frK_eq (g := g) l fun L => frF (K ++ L) k
  exact ⟨K ++ L, t.app h1, h2.trans (frF_eq _ _)⟩
def gather {α : Type} (g : Addr → Option Obj) (k : PySem.W.Frag → α) : α :=
  stage g [] [mainGlobals, cStatics] fun K0 =>
  stage g K0 (namesC.map (He.ga K0)) fun K1 =>
  stage g K1 (namesC.map (nsOf K1)) fun K2 =>
  stage g K2 (namesF.map (He.ga K2) ++ namesM.map fun p => He.ma K2 (He.ga K2 p.1) p.2) fun K3 =>
  stage g K3 ((namesF.map (He.ga K3) ++ namesM.map fun p => He.ma K3 (He.ga K3 p.1) p.2).flatMap (ofFun K3)) k
theorem gather_eq {α : Type} {g : Addr → Option Obj} (k : PySem.W.Frag → α) : ∃ K, Tells g K ∧ gather g k = k K := by
  unfold gather
  obtain ⟨K0, t0, e0⟩ := stage_eq (g := g) (K := []) (l := [mainGlobals, cStatics]) _ (fun _ h => by cases h)
  rw [e0]
  obtain ⟨K1, t1, e1⟩ := stage_eq _ t0
  rw [e1]
  obtain ⟨K2, t2, e2⟩ := stage_eq _ t1
  rw [e2]
  obtain ⟨K3, t3, e3⟩ := stage_eq _ t2
  rw [e3]
  exact stage_eq _ t3
abbrev AlM : Type := He.AlD × Bool × List FnY
def obsMG (g : Addr → Option Obj) : AlM := gather g obsM
theorem says_of {h : Heap} (e : obsMG h.get? = valM) : ∃ K : PySem.W.Frag, K.In h ∧ obsM K = valM := by
  obtain ⟨K, t, q⟩ := gather_eq (g := h.get?) obsM
  exact ⟨K, t.in_, q.symm.trans e⟩
abbrev hookM : PySem.W.Hook where
  α := AlM
  obs := fun s => obsMG s.heap.get?
  val := fun _ => valM
  says := fun _ h => ∃ K : PySem.W.Frag, K.In h ∧ obsM K = valM
  of := fun _ _ e => says_of e
  keeps := fun _ _ _ ⟨K, hK, c⟩ k => ⟨K, PySem.W.Frag.In.keeps hK k, c⟩
def ob (s : PySem.W.SharedT) : AlM := obsMG (HandSHeadRun.getT s)
theorem ob_eq (s : PySem.W.SharedT) : ob s = hookM.obs s.abs := by
  have e : HandSHeadRun.getT s = s.abs.heap.get? := funext (HandSHeadRun.getT_eq s)
  show obsMG (HandSHeadRun.getT s) = obsMG s.abs.heap.get?
  rw [e]
abbrev RR : PySem.W.OpenRow := PySem.W.OpenLaw.row PySem.Challenge.rw_carrylog_k12_whole_ring_tables
set_option maxHeartbeats 0 in
theorem run (w : World) : HandSHeadRun.RunEq RR (PySem.W.view RR.prog [52]) hookM ob 20000 looseAll w := by
  intro os
  kernel_rfl
end K12

set_option Elab.async false
set_option linter.all false
set_option maxRecDepth 100000
set_option maxHeartbeats 4000000
namespace K12
open PySem PySem.Spec PyProof.Rows L2
/-! ## calls by a positional promise; what is raised is wished for at the caller's slots -/
section
variable {X : Cx} {k : Nat} {f C : Addr} {sp : Sp} {W : WX} {x m : Str} {p pos apos : Pos} {e o : Expr} {es : List Expr} {ta : TE} {t : TA}
/-- the callee runs; whatever it lets out is taken by W -/
theorem runF {pins : List (Addr × Obj)} {σ : L2.St} {H : Hp} {s : Shared} {Q : VK} {us : List Value} {vs : List V}
    (F : FnR X.prog X.w X.K X.mg X.base (L2.CX X.prog X.w) k f sp) (hr : Room k X.A) (tk : Takes X W)
    (I : Inv X pins σ H s) (r : Vals vs us) (h : sp vs H Q (WE W σ)) :
    wpAny (model X.prog X.w) X.A (call (.ref f) us) (EP X pins σ Q) X.xe s := by
  refine wpAny_call (codeAny_mono (F X.A X.stack s H us vs Q _ hr I.env0 r h) fun r s' hq => ?_)
  cases r with
  | error e => exact passAt tk σ pins H s e s' I hq
  | ok fl =>
    cases fl with
    | ret u => exact I.after hq
    | next => exact False.elim hq
    | brk => exact False.elim hq
    | cont => exact False.elim hq
def tF (sp : Sp) (W : WX) (t : TA) : TE := fun σ H Q => t σ H fun vs H1 => sp vs H1 Q (WE W σ)
/-- f(e, ..), f a def of the module -/
theorem pe_F (F : FnR X.prog X.w X.K X.mg X.base (L2.CX X.prog X.w) k f sp) (hr : Room k X.A) (hm : X.mg x = some (.ref f))
    (hk : PySem.W.keepIn X.K (.ref f) = true) (tk : Takes X W) (ha : PA X (e :: es) t) (hg : Gl X x := by rfl)
    (hdb : (x == ("__debug__" : Str)) = false := by decide)
    (he : starEach (e :: es) X.env = (false, eval e X.env) :: starEach es X.env := by rfl)
    (hpl : (backTo pos (starEach es X.env)).any (·.1) = false := by rfl) : PE X (.Call (.Name x p) (e :: es) [] pos) (tF sp W t) := by
  refine ⟨fun pins s σ H Q I h => ?_⟩
  refine wpAny_Call_Name_kw (ld_glob I hg hm ?_ hdb)
  refine PySem.W.callWith_K (h₀ := X.base) I.ok.mod.kin hk (thn (ha.run pos pins s σ H _ I h) fun us s1 hh => ?_) he hpl
  obtain ⟨vs, H1, I1, r, q⟩ := hh
  exact ⟨I1.kIn, runF F hr tk I1 r q⟩
def tM (C : Addr) (m : Str) (sp : Sp) (W : WX) (ta : TE) (t : TA) : TE := fun σ H Q => ta σ H fun x H1 =>
  ∃ a dx fs, x = .ref a ∧ H1 a = some (.ins C dx fs) ∧ fs.lookup m = none ∧ t σ H1 fun vs H2 => sp (x :: vs) H2 Q (WE W σ)
/-- o.m(e, ..), o an instance of the class at C -/
theorem pe_M {pl : Sem Bool} (he : PE X o ta) (c : Cls X.K C) (hm : Meth X.K C m f)
    (F : FnR X.prog X.w X.K X.mg X.base (L2.CX X.prog X.w) k f sp) (hr : Room k X.A) (tk : Takes X W) (ha : PA X (e :: es) t)
    (hst : starEach (e :: es) X.env = (false, eval e X.env) :: starEach es X.env := by rfl)
    (hpl : (backTo pos (starEach es X.env)).any (·.1) = false := by rfl)
    (ht : eval (.Call (.Attribute o m apos) (e :: es) [] pos) X.env = (eval o X.env >>= fun ov => standAt apos.atName >>= fun _ =>
      holding [ov] (getMethod ov m pl) >>= fun q => callWith pos q.1 q.2 (backTo pos (starEach (e :: es) X.env)) (backToKw pos (keywordEach [] X.env))) := by rfl) :
    PE X (.Call (.Attribute o m apos) (e :: es) [] pos) (tM C m sp W ta t) := by
  refine ⟨fun pins s σ H Q I h => ?_⟩
  refine PySem.W.methodCall_KW (pl := pl) (thn (he.run pins s σ H _ I h) fun u s1 hh => ?_) ht
  obtain ⟨x, H1, I1, rx, a, dx, fs, ex, ea, l, q⟩ := hh
  subst ex
  obtain rfl : u = Value.ref a := rx
  refine getmeth_ok I1 ea c hm l ?_
  refine PySem.W.callWith_K (first := [.ref a]) (h₀ := X.base) I.ok.mod.kin hm.kp (thn (ha.run pos pins s1 σ H1 _ I1 q) fun us s2 hh => ?_) hst hpl
  obtain ⟨vs, H2, I2, r, q2⟩ := hh
  exact ⟨I2.kIn, runF (us := .ref a :: us) (vs := .ref a :: vs) F hr tk I2 (.cons rfl r) q2⟩
/-- o.m() -/
theorem pe_M0 {pl : Sem Bool} (he : PE X o ta) (c : Cls X.K C) (hm : Meth X.K C m f)
    (F : FnR X.prog X.w X.K X.mg X.base (L2.CX X.prog X.w) k f sp) (hr : Room k X.A) (tk : Takes X W)
    (ht : eval (.Call (.Attribute o m apos) [] [] pos) X.env = (eval o X.env >>= fun ov => standAt apos.atName >>= fun _ =>
      holding [ov] (getMethod ov m pl) >>= fun q => callWith pos q.1 q.2 (backTo pos (starEach [] X.env)) (backToKw pos (keywordEach [] X.env))) := by rfl) :
    PE X (.Call (.Attribute o m apos) [] [] pos) (tM C m sp W ta tNil) := by
  refine ⟨fun pins s σ H Q I h => ?_⟩
  refine PySem.W.methodCall_KW (pl := pl) (thn (he.run pins s σ H _ I h) fun u s1 hh => ?_) ht
  obtain ⟨x, H1, I1, rx, a, dx, fs, ex, ea, l, q⟩ := hh
  subst ex
  obtain rfl : u = Value.ref a := rx
  refine getmeth_ok I1 ea c hm l ?_
  exact PySem.W.callWith_K0 (first := [.ref a]) I1.kIn hm.kp (runF (us := [.ref a]) (vs := [.ref a]) F hr tk I1 (.cons rfl .nil) q)
/-- C() by a positional promise of its `__init__` -/
theorem pe_make0R {CX : CXT} {E : XK} (M : Mk X.K C f) (F : FnR X.prog X.w X.K X.mg X.base CX k f sp) (hr : Room (k + 1) X.A) (hm : X.mg x = some (.ref C))
    (hx : Passes CX X E) (hg : Gl X x := by rfl) (hdb : (x == ("__debug__" : Str)) = false := by decide) :
    PE X (.Call (.Name x p) [] [] pos) (StX.tMakeR C sp E tNil) := by
  refine ⟨fun pins s σ H Q I h => ?_⟩
  refine wpAny_Call_Name_kw (ld_glob I hg hm ?_ hdb)
  exact PySem.W.callWith_K0 I.kIn M.kp (StX.run_makeR (us := []) M F hr hx I .nil h)
end
/-! ## special methods of own classes -/
section
variable {X : Cx} {k : Nat} {g C : Addr} {sp : Sp} {E : XK} {CX : CXT}
/-- len(o) by an own `__len__` -/
def rLenOwn (C : Addr) (sp : Sp) (E : XK) : List V → Hp → VK → Prop := fun xs H Q =>
  ∃ a dx fs, xs = [V.ref a] ∧ H a = some (.ins C dx fs) ∧ sp [.ref a] H (fun z H' => ∃ i : Int, z = .int i ∧ 0 ≤ i ∧ i < 2 ^ 63 ∧ Q z H') E
theorem call_lenOwn (hs : PySem.W.findIn X.K (.ref C) "__len__" = some (some (.ref g))) (hf : PySem.W.isFn X.K (.ref g) = true)
    (F : FnR X.prog X.w X.K X.mg X.base CX k g sp) (hr : Room (k + 1) X.A) (hx : Passes CX X E) : CallR X (.builtin "len") (rLenOwn C sp E) := by
  intro pins s σ H xs us Q I r h
  obtain ⟨a, dx, fs, rfl, ha, q⟩ := h
  obtain ⟨u, rfl, ru⟩ := r.one
  cases (show u = Value.ref a from ru)
  obtain ⟨mA, O, _⟩ := ins_get I.hok ha
  obtain ⟨od, J, _⟩ := O.look
  obtain ⟨m, hF⟩ := I.fr
  refine PySem.W.len_K hF I.ok.mod.kin J hs hf (wpAny_mono (wpAny_call (SlX.run_at (us := [.ref a]) (ws := [.ref a]) F hr.in1 I.env0.in1 hx I (.cons rfl .nil) q)) (fun w s' z => ?_) fun _ _ x => x)
  obtain ⟨z', H', I', rz, i, ei, h0, h1, qz⟩ := z
  subst ei
  obtain ⟨t, e⟩ := (show ∃ t, w = Value.int i t from rz)
  cases e
  exact ⟨⟨h0, h1⟩, .int i, H', I'.tok _, ⟨_, rfl⟩, qz⟩
/-- x in o by an own `__contains__` that gives a truth value -/
def rInOwn (C : Addr) (sp : Sp) (E : XK) (neg : Bool) : R2 := fun x y H Q =>
  ∃ a dx fs, y = V.ref a ∧ H a = some (.ins C dx fs) ∧ sp [.ref a, x] H (fun z H' => ∃ b : Bool, z = .bl b ∧ Q (.bl (b ^^ neg)) H') E
theorem op_inOwn (hs : PySem.W.findIn X.K (.ref C) "__contains__" = some (some (.ref g))) (hf : PySem.W.isFn X.K (.ref g) = true)
    (F : FnR X.prog X.w X.K X.mg X.base CX k g sp) (hr : Room k X.A) (hx : Passes CX X E) : OpR X (compareOp .In) (rInOwn C sp E false) := by
  intro pins s σ H x y v u Q I rx ry h
  obtain ⟨a, dx, fs, rfl, ha, q⟩ := h
  cases (show u = Value.ref a from ry)
  obtain ⟨mA, O, _⟩ := ins_get I.hok ha
  obtain ⟨od, J, _⟩ := O.look
  obtain ⟨m, hF⟩ := I.fr
  refine PySem.W.in_K hF I.ok.mod.kin J hs hf (wpAny_mono (wpAny_call (run_fnR (us := [.ref a, v]) (vs := [.ref a, x]) F hr hx I (.cons rfl (.cons rx .nil)) q)) (fun w s' z => ?_) fun _ _ x => x)
  obtain ⟨z', H', I', rz, b, eb, qz⟩ := z
  subst eb
  cases (show w = Value.bool b from rz)
  refine wpAny_truthy_bool ⟨.bl b, H', I', rfl, ?_⟩
  have e : (b ^^ false) = b := by cases b <;> rfl
  rw [e] at qz
  exact qz
theorem op_notInOwn (hs : PySem.W.findIn X.K (.ref C) "__contains__" = some (some (.ref g))) (hf : PySem.W.isFn X.K (.ref g) = true)
    (F : FnR X.prog X.w X.K X.mg X.base CX k g sp) (hr : Room k X.A) (hx : Passes CX X E) : OpR X (compareOp .NotIn) (rInOwn C sp E true) := by
  intro pins s σ H x y v u Q I rx ry h
  obtain ⟨a, dx, fs, rfl, ha, q⟩ := h
  cases (show u = Value.ref a from ry)
  obtain ⟨mA, O, _⟩ := ins_get I.hok ha
  obtain ⟨od, J, _⟩ := O.look
  obtain ⟨m, hF⟩ := I.fr
  refine PySem.W.notIn_K hF I.ok.mod.kin J hs hf (wpAny_mono (wpAny_call (run_fnR (us := [.ref a, v]) (vs := [.ref a, x]) F hr hx I (.cons rfl (.cons rx .nil)) q)) (fun w s' z => ?_) fun _ _ x => x)
  obtain ⟨z', H', I', rz, b, eb, qz⟩ := z
  subst eb
  cases (show w = Value.bool b from rz)
  refine wpAny_truthy_bool ⟨.bl (!b), H', I', rfl, ?_⟩
  have e : (b ^^ true) = !b := by cases b <;> rfl
  rw [e] at qz
  exact qz
/-- a + b of two instances of one class, by its own `__add__` -/
def rAddOwn (C : Addr) (sp : Sp) (E : XK) : R2 := fun x y H Q =>
  ∃ a dx fs b dy gs, x = V.ref a ∧ y = V.ref b ∧ H a = some (.ins C dx fs) ∧ H b = some (.ins C dy gs) ∧ sp [x, y] H Q E
theorem op_addOwn (hs : PySem.W.findIn X.K (.ref C) "__add__" = some (some (.ref g))) (hf : PySem.W.isFn X.K (.ref g) = true) (hc : PySem.W.selfFirst X.K C = true)
    (F : FnR X.prog X.w X.K X.mg X.base CX k g sp) (hr : Room k X.A) (hx : Passes CX X E) : OpR X (binaryOp .Add) (rAddOwn C sp E) := by
  intro pins s σ H x y v u Q I rx ry h
  obtain ⟨a, dx, fs, b, dy, gs, rfl, rfl, ha, hb, q⟩ := h
  cases (show v = Value.ref a from rx)
  cases (show u = Value.ref b from ry)
  obtain ⟨mA, O, _⟩ := ins_get I.hok ha
  obtain ⟨od, J, _⟩ := O.look
  obtain ⟨mB, O', _⟩ := ins_get I.hok hb
  obtain ⟨od', J', _⟩ := O'.look
  obtain ⟨m, hF⟩ := I.fr
  refine PySem.W.binop_K (op := .Add) hF I.ok.mod.kin J J'.type hc hs hf ?_
  refine wpAny_mono (wpAny_call (run_fnR (us := [.ref a, .ref b]) (vs := [.ref a, .ref b]) F hr hx I (.cons rfl (.cons rfl .nil)) q)) (fun w s' z => ?_) fun _ _ x => x
  obtain ⟨z', H', I', rz, qz⟩ := z
  exact SlX.cmpback rz ⟨z', H', I', rz, qz⟩
end
end K12

set_option Elab.async false
set_option linter.all false
set_option maxRecDepth 100000
set_option maxHeartbeats 4000000
namespace K12
open PySem PySem.Spec PyProof.Rows L2
/-! ## the own errors: `super().__init__(text)`, then one field -/
/-- what the written part says of such a class and of its `__init__` -/
structure ExT (K : PySem.W.Frag) (C fI : Addr) (f : Str) (st : Stmt) (qual : Str) : Prop where
  cls : OexC K C
  noF : PySem.W.findIn K (.ref C) f = some none
  ini : PySem.W.findIn K (.ref C) "__init__" = some (some (.ref fI))
  tyI : PySem.W.typeIn K (.ref fI) = some (.type "function")
  self : PySem.W.mroIn K C (.ref C) = some true
  ve : PySem.W.subIn K (.ref C) (.type "ValueError") = some true
  sup : PySem.W.ks_superIn K C C "__init__" = some (some (.builtin "ValueError.__init__"))
  tp : PySem.W.nsIn K cStatics "thirdparty.any" = some none
  fn : ∃ (oc : Value) (od : Option Addr) (kV doc pm : Value) (an : Option Addr) (cda : Addr) (ct : Value) (osl : Array (Option Value)) (cc : Addr),
    K.lookup fI = some ⟨oc, od, .func (PySem.W.fnX "__init__" qual (defArgs st) (defBody st) (defScope st) [("__class__", cc)] .none kV doc pm an (.ref cda) ct), osl⟩ ∧
    PySem.W.codeIn K (.ref cda) qual = true ∧ (∃ cl cld csl, K.lookup cc = some ⟨cl, cld, .cell (some (.ref C)), csl⟩) ∧
    ∃ ccl cdd vs ccs file tf, K.lookup cda = some ⟨ccl, cdd, .fields vs, ccs⟩ ∧ vs[2]? = some (.str file tf) ∧ (pg.main.file : Str) = file
theorem ba {a b : Bool} (h : (a && b) = true) : a = true ∧ b = true := Bool.and_eq_true_iff.mp h
theorem ext_of {K : PySem.W.Frag} {x f q : Str} {st : Stmt} (h1 : excB K x f = true) (h2 : excF K x q = true) (h3 : fnY K x = exD x st q)
    (tp : PySem.W.nsIn K cStatics "thirdparty.any" = some none) : ExT K (He.ga K x) (He.ma K (He.ga K x) "__init__") f st q := by
  unfold excB at h1
  obtain ⟨a0, h1⟩ := ba h1
  obtain ⟨a1, h1⟩ := ba h1
  obtain ⟨a2, h1⟩ := ba h1
  obtain ⟨a3, h1⟩ := ba h1
  obtain ⟨a4, h1⟩ := ba h1
  obtain ⟨a5, h1⟩ := ba h1
  obtain ⟨a6, h1⟩ := ba h1
  obtain ⟨a7, h1⟩ := ba h1
  obtain ⟨a8, h1⟩ := ba h1
  obtain ⟨a9, a10⟩ := ba h1
  refine ⟨⟨?_, of_decide_eq_true a1, of_decide_eq_true a2, of_decide_eq_true a3, a4⟩, of_decide_eq_true a5, of_decide_eq_true a6, of_decide_eq_true a7, of_decide_eq_true a8, of_decide_eq_true a9, of_decide_eq_true a10, tp, ?_⟩
  · split at a0
    · rename_i dd cd sl ho
      split at a0
      · rename_i C' bm k0 k1 k2 k3 n k5 hm hs
        obtain ⟨b1, a0⟩ := ba a0
        obtain ⟨b2, a0⟩ := ba a0
        obtain ⟨b3, a0⟩ := ba a0
        obtain ⟨b4, b5⟩ := ba a0
        have e1 : C' = He.ga K x := beq_iff_eq.mp b1
        have e2 : n = "ValueError.__new__" := beq_iff_eq.mp b2
        obtain ⟨nm, bs, mro, ns, qn, hd, sn, sub, ab, col, del⟩ := cd
        dsimp only at hm b3 b4
        have e3 : del = false := by cases del with
          | false => rfl
          | true => cases b3
        subst e1 e2 e3 hm b4
        have hsl : sl = #[k0, k1, k2, k3, some (.builtin "ValueError.__new__"), k5] := by
          obtain ⟨l⟩ := sl
          simp only at hs
          rw [hs]
        subst hsl
        exact ⟨nm, qn, ns, bs, bm, sn, sub, ab, col, dd, k0, k1, k2, k3, k5, ho, b5⟩
      · cases a0
    · cases a0
  · unfold excF at h2
    unfold fnY exD at h3
    cases q1 : K.lookup (He.ma K (He.ga K x) "__init__") with
    | none => rw [q1] at h2; cases h2
    | some o =>
      obtain ⟨oc, od, dt, osl⟩ := o
      rw [q1] at h2 h3
      cases dt with
      | func fd =>
        obtain ⟨n1, n2, n3, n4, n5, n6, n7, n8, n9, n10, n11, n12, n13, n14, n15⟩ := fd
        have e2 : (some (n1, n2, n3, n4, n5, n6, n15) : FnY) = (some ("__init__", q, defArgs st, .stmts (defBody st), defScope st, mainGlobals, builtinsNs) : FnY) := h3
        simp only [Option.some.injEq, Prod.mk.injEq] at e2
        obtain ⟨g1, g2, g3, g4, g5, g6, g7⟩ := e2
        subst g1 g2 g3 g4 g5 g6 g7
        obtain ⟨c1, h2⟩ := ba h2
        obtain ⟨c2, h2⟩ := ba h2
        obtain ⟨c3, c4⟩ := ba h2
        dsimp only at c1 c2 c3 c4
        have ed : n8 = .none := by
          cases n8 <;> first | rfl | cases c4
        obtain ⟨cda, ec⟩ : ∃ a, n13 = .ref a := by
          cases n13 with
          | ref a => exact ⟨a, rfl⟩
          | _ => cases c3
        subst ed ec
        obtain ⟨cc, ecl, hcell⟩ : ∃ cc, n7 = [(("__class__" : Str), cc)] ∧ ∃ cl cld csl, K.lookup cc = some ⟨cl, cld, .cell (some (.ref (He.ga K x))), csl⟩ := by
          cases n7 with
          | nil => cases c2
          | cons p r =>
            cases r with
            | cons _ _ => cases c2
            | nil =>
              obtain ⟨y, cc⟩ := p
              obtain ⟨d1, d2⟩ := ba c2
              refine ⟨cc, by rw [show y = ("__class__" : Str) from of_decide_eq_true d1], ?_⟩
              cases q2 : K.lookup cc with
              | none => rw [q2] at d2; cases d2
              | some o2 =>
                obtain ⟨cl, cld, dt2, csl⟩ := o2
                rw [q2] at d2
                cases dt2 with
                | cell v =>
                  cases v with
                  | none => cases d2
                  | some v =>
                    cases v with
                    | ref D =>
                      have e : D = He.ga K x := beq_iff_eq.mp d2
                      rw [e]
                      exact ⟨_, _, _, rfl⟩
                    | _ => cases d2
                | _ => cases d2
        subst ecl
        refine ⟨oc, od, _, _, _, _, cda, _, osl, cc, rfl, c1, hcell, ?_⟩
        have c3 : (match K.lookup cda with
          | some ⟨_, _, .fields vs, _⟩ => (match (vs[2]? : Option Value) with
            | some (.str file _) => decide ((pg.main.file : Str) = file)
            | _ => false)
          | _ => false) = true := c3
        cases q3 : K.lookup cda with
        | none => rw [q3] at c3; cases c3
        | some o3 =>
          obtain ⟨ccl, cdd, dt3, ccs⟩ := o3
          rw [q3] at c3
          cases dt3 with
          | fields vs =>
            dsimp only at c3
            cases q4 : vs[2]? with
            | none => rw [q4] at c3; cases c3
            | some v =>
              rw [q4] at c3
              cases v with
              | str file tf => exact ⟨ccl, cdd, vs, ccs, file, tf, rfl, q4, of_decide_eq_true c3⟩
              | _ => cases c3
          | _ => cases c3
      | _ => cases h2
/-! ### the body of such an `__init__` -/
/-- its context -/
def ecx (w : World) (K : PySem.W.Frag) (mg : Str → Option Value) (base : Heap) (N : List Str) (qual : Str) (scope : Scope) (f : Addr) (cd : Value) (cc : Addr) (A : Around) (outer : List Env) (s : Shared) (H : Hp) : Cx where
  prog := pg
  w := w
  K := K
  mg := mg
  base := base
  A := A.deeper (PySem.W.envX qual scope s.heap.objs.size f cd [("__class__", cc)])
  N := N
  s_0 := s
  H_0 := H
  env := PySem.W.envX qual scope s.heap.objs.size f cd [("__class__", cc)]
  outer := outer
  stack := PySem.W.envX qual scope s.heap.objs.size f cd [("__class__", cc)] :: outer
  ex := []
  calm := true
  fn := fun x => decide (x ≠ "__class__")
  pn := []
  xe := fun _ _ => False
theorem ecx_inv {w : World} {K : PySem.W.Frag} {mg : Str → Option Value} {base : Heap} {fld qual : Str} {scope : Scope} {f cc C : Addr} {cd : Value} {A : Around} {outer : List Env} {s : Shared} {H : Hp} {h1 : Heap} {tk : Nat} {u1 u2 : Value} {v1 v2 : V}
    {cl : Value} {cld : Option Addr} {csl : Array (Option Value)}
    (hd : A.handled = none) (e0 : Env0 pg w K mg base A outer s H) (r1 : RelV v1 u1) (r2 : RelV v2 u2) (hcell : K.lookup cc = some ⟨cl, cld, .cell (some (.ref C)), csl⟩)
    (kind : scope.kind = .function) (l1 : scope.names.lookup ("self" : Str) = some .local) (l2 : scope.names.lookup fld = some .local)
    (hfree : ∀ y, scope.names.lookup y = some .cell ∨ scope.names.lookup y = some .free → y = ("__class__" : Str)) (hne : ¬ fld = "self")
    (hns : h1.Ns s.heap.objs.size (fun x => ([("self", u1), (fld, u2)] : List (Str × Value)).reverse.lookup x)) (hk : ∀ b o, s.heap.get? b = some o → h1.get? b = some o) :
    Inv (ecx w K mg base ["self", fld] qual scope f cd cc A outer s H) [] [some v1, some v2] H { s with heap := h1, toks := tk } := by
  have KX : K.In base := e0.mod.kin
  have hb : base.get? cc = some ⟨cl, cld, .cell (some (.ref C)), csl⟩ := KX _ _ hcell
  have noA : ∀ b : Addr, b ∉ (ecx w K mg base ["self", fld] qual scope f cd cc A outer s H).ex := fun b z => absurd (show b ∈ ([] : List Addr) from z) (by simp)
  have cl1 : ∀ (y : Str) c, ([(("__class__" : Str), cc)] : List (Str × Addr)).lookup y = some c → y = ("__class__" : Str) ∧ c = cc := fun y c e => by
    by_cases q : y = ("__class__" : Str)
    · subst q
      have e' : some cc = some c := by simpa [List.lookup] using e
      exact ⟨rfl, (Option.some.inj e').symm⟩
    · have e' : (none : Option Addr) = some c := by
        have z : (y == ("__class__" : Str)) = false := by simpa using q
        simpa [List.lookup, z] using e
      cases e'
  refine ⟨⟨e0.mod, kind, rfl, rfl, Nat.le_refl _, fun y z c h1 h2 => ?_, fun y hy => ?_, fun y c hf h => ?_, fun _ => hd, Around.frames_deeper e0.frames, .inr ⟨rfl, rfl⟩, fun b z => absurd z (noA b), e0.bs, e0.bsz, fun b _ _ => noA b, fun b z => absurd z (noA b), e0.funs, e0.frf⟩,
    rfl, e0.bare, Un.kept hk, ⟨_, hns, fun i y v h1 h2 h3 => ?_⟩, fun y c h => ?_, e0.hok.fresh (Nat.le_refl _), fun y c h => ?_, fun p hp => absurd (show p ∈ ([] : List (Addr × Obj)) from hp) (by simp), e0.hok.kept hk, rfl⟩
  · rw [(cl1 y c h1).1, (cl1 z c h2).1]
  · have e := hfree y hy
    subst e
    exact ⟨cc, by show ([(("__class__" : Str), cc)] : List (Str × Addr)).lookup ("__class__" : Str) = some cc; simp [List.lookup]⟩
  · have e := (cl1 y c h).1
    have hf' : decide (y ≠ ("__class__" : Str)) = true := hf
    exact absurd e (of_decide_eq_true hf')
  · match i, h1, h2 with
    | 0, h1, h2 =>
      have e1 : "self" = y := Option.some.inj h1
      have e2 : some v1 = some v := Option.some.inj h2
      subst e1
      cases e2
      refine ⟨u1, r1, .inl ⟨l1, ?_⟩⟩
      show ([(fld, u2), ("self", u1)] : List (Str × Value)).lookup ("self" : Str) = some u1
      have z : (("self" : Str) == fld) = false := by
        have : ¬ (("self" : Str) = fld) := fun q => hne q.symm
        simpa using this
      simp [List.lookup, z]
    | 1, h1, h2 =>
      have e1 : fld = y := Option.some.inj h1
      have e2 : some v2 = some v := Option.some.inj h2
      subst e1
      cases e2
      refine ⟨u2, r2, .inl ⟨l2, ?_⟩⟩
      show ([(fld, u2), ("self", u1)] : List (Str × Value)).lookup fld = some u2
      simp [List.lookup]
    | n + 2, h1, h2 =>
      have e : (none : Option (Option V)) = some (some v) := h2
      cases e
  · have e := (cl1 y c h).2
    subst e
    exact ⟨some (.ref C), ⟨_, hk _ _ (e0.bs _ _ hb).1, rfl⟩⟩
  · have e := (cl1 y c h).2
    subst e
    exact (e0.bs _ _ hb).2
end K12

set_option Elab.async false
set_option linter.all false
set_option maxRecDepth 100000
set_option maxHeartbeats 4000000
namespace K12
open PySem PySem.Spec PyProof.Rows L2
theorem boot_super : bootBuiltins "super" = some (.type "super") := by decide +kernel
theorem no_super : (pg.main.scope.names.lookup ("super" : Str)).isSome = false := by decide +kernel
/-- the wrapper of ValueError's `__init__`, bound to the error, called: the error's text is laid, the rest stands -/
theorem call_mw {w : World} {A : Around} {E : Value → Shared → Prop} {K : PySem.W.Frag} {h : Heap} {g : Array GenState} {d : Drawn} {t : Nat} {os : OsState} {u e C t0 : Addr} {rest : List Value} {Q : Value → Shared → Prop}
    (X : K.In h) (T : OexC K C) (he : h.get? e = some (HandSPX.excO C t0)) (hu : h.get? u = some (PySem.W.kxs_mw "ValueError.__init__" e)) (hrest : rest.length ≤ sizeLine)
    (hq : ∀ h' t1, (∀ b o, b ≠ e → h.get? b = some o → h'.get? b = some o) → h'.get? e = some (HandSPX.excO C t1) → Q .none ⟨h', g, d, t, os⟩) :
    wpAny (model pg w) A (call (.ref u) rest) Q E ⟨h, g, d, t, os⟩ := by
  obtain ⟨nm, q, N, bs, bm, sn, sub, ab, col, dd, k0, k1, k2, k3, k5, hC, hbm⟩ := T.cls
  have hC' := X _ _ hC
  refine wpAny_call (codeAny_of_tree ?_)
  show wpAny _ A.in1 (callAny (.ref u) ⟨rest, []⟩) _ _ _
  simp only [callAny]
  refine wpAny_bind (wpAny_load hu ?_)
  simp only [PySem.W.kxs_mw, show (Value.type "method-wrapper" == Value.type "method" || Value.type "method-wrapper" == Value.type "builtin_function_or_method" ||
    Value.type "method-wrapper" == Value.type "method-wrapper") = true by decide, if_true]
  refine W.KFB.if_so (by decide) ?_
  refine wpAny_bind (PySem.W.check_bound_init F.excBase_ValueError.toExcCallFacts hC' he rfl ?_)
  refine wpAny_bind (wpAny_pure (wpAny_pure ?_))
  refine ⟨plainId_quiet F.excBase_ValueError.init.plain _, codeAny_builtin F.excBase_ValueError.initEntry ?_⟩
  exact PySem.W.exc_init_tree (cls := .ref C) (t0 := t0) (dv := none) (c2 := .none) he hrest fun h' k e' _ => hq h' _ k e'
/-- the promise of such an `__init__`: at a an error that is being made, v what is handed in -/
def spExI (C : Addr) (f : Str) (ok : V → Prop) : Sp := fun vs H Q _ => ∃ (a : Addr) (v : V), vs = [.ref a, v] ∧ ok v ∧ H a = some (exo a C none) ∧
  ∀ dx, H dx = none → dx ≠ a → Q .non (upd (upd H dx (exd dx [(f, v)])) a (exo a C (some dx)))
/-- super().m(e) on one line -/
theorem ecall {o e : Expr} {m : Str} {p2 p3 : Pos} {env : Env} (hl : (p2.endLine == p3.line) = true) (hse : starEach [e] env = [(false, eval e env)]) :
    eval (.Call (.Attribute o m p2) [e] [] p3) env = (do
      let ov ← attributeBase o m env (eval o env)
      standAt p2.atName
      let (f, first) ← holding [ov] (getMethod ov m (plainOf o env))
      callWith p3 f first (backTo p3 (starEach [e] env)) []) := by
  rw [arm_eval_Call]
  refine congrArg (fun k => attributeBase o m env (eval o env) >>= k) (funext fun ov => ?_)
  refine congrArg (fun k => standAt p2.atName >>= fun _ => k) ?_
  exact mcall_line (by rw [hse]; rfl) hl
/-- the two statements -/
theorem exc_body {w : World} {K : PySem.W.Frag} {mg : Str → Option Value} {base : Heap} {C fI cda cc : Addr} {f qual : Str} {st : Stmt} {A : Around} {outer : List Env} {s s1 : Shared} {H : Hp} {a : Addr} {v : V} {D : Ends} {e : Expr} {te : TE} {p0 p1 p2 p3 p4 p5 p6 p7 p8 : Pos}
    {oc kV doc pm ct cl ccl : Value} {od an cld cdd : Option Addr} {osl csl ccs : Array (Option Value)} {vs0 : Array Value} {file : Str} {tf : Tok}
    (T : ExT K C fI f st qual) (hs : mg "super" = none)
    (lk : K.lookup fI = some ⟨oc, od, .func (PySem.W.fnX "__init__" qual (defArgs st) (defBody st) (defScope st) [("__class__", cc)] .none kV doc pm an (.ref cda) ct), osl⟩)
    (hcc : K.lookup cc = some ⟨cl, cld, .cell (some (.ref C)), csl⟩) (hcode : K.lookup cda = some ⟨ccl, cdd, .fields vs0, ccs⟩) (hvs : vs0[2]? = some (.str file tf)) (hfile : (pg.main.file : Str) = file)
    (kind : (defScope st).kind = .function) (l1 : (defScope st).names.lookup ("self" : Str) = some .local) (l2 : (defScope st).names.lookup f = some .local)
    (l3 : (defScope st).names.lookup ("super" : Str) = some .globalImplicit) (l4 : (defScope st).names.lookup ("__class__" : Str) = some .free)
    (hdb : (f == ("__debug__" : Str)) = false) (hdc : (f == ("__classdict__" : Str)) = false)
    (hp : ∃ ar : Arg, ((defArgs st).posonlyargs ++ (defArgs st).args).head? = some ar ∧ ar.arg = ("self" : Str)) (hl : (p2.endLine == p3.line) = true)
    (I : Inv (ecx w K mg base ["self", f] qual (defScope st) fI (.ref cda) cc A outer s H) [] [some (.ref a), some v] H s1)
    (pe : PE (ecx w K mg base ["self", f] qual (defScope st) fI (.ref cda) cc A outer s H) e te) (hte : ∀ (Q : VK), (∀ z : V, Q z H) → te [some (.ref a), some v] H Q)
    (hse : starEach [e] (ecx w K mg base ["self", f] qual (defScope st) fI (.ref cda) cc A outer s H).env = [(false, eval e (ecx w K mg base ["self", f] qual (defScope st) fI (.ref cda) cc A outer s H).env)])
    (ha : H a = some (exo a C none)) (hq : ∀ dx, H dx = none → dx ≠ a → D.nx [some (.ref a), some v] (upd (upd H dx (exd dx [(f, v)])) a (exo a C (some dx)))) :
    PySem.wpAt (model pg w) (ecx w K mg base ["self", f] qual (defScope st) fI (.ref cda) cc A outer s H).A
      (.func (defBody st) (ecx w K mg base ["self", f] qual (defScope st) fI (.ref cda) cc A outer s H).env)
      (execs [.Expr (.Call (.Attribute (.Call (.Name "super" p0) [] [] p1) "__init__" p2) [e] [] p3) p4, .Assign [.Attribute (.Name "self" p5) f p6] (.Name f p7) p8] (ecx w K mg base ["self", f] qual (defScope st) fI (.ref cda) cc A outer s H).env)
      (SP (ecx w K mg base ["self", f] qual (defScope st) fI (.ref cda) cc A outer s H) [] D) (fun _ _ => False) s1 := by
  obtain ⟨nm, q, N, bs, bm, sn, sub, ab, col, dd, k0, k1, k2, k3, k5, hC, hbm⟩ := T.cls.cls
  have hcl : PySem.W.clsIn K C = some { name := nm, bases := bs, mro := .ref C :: bm, ns := N, qualname := q, hasDict := true, slotNames := sn, subclasses := sub, abstract := ab, collection := col, hasDel := false } := by
    unfold PySem.W.clsIn; rw [hC] <;> rfl
  have hsup : PySem.W.alongIn K "__init__" (((Value.ref C :: bm).dropWhile (· != .ref C)).drop 1) = some (some (.builtin "ValueError.__init__")) := by
    have z := T.sup
    unfold PySem.W.ks_superIn at z
    rw [hcl] at z
    exact z
  obtain ⟨ar, har, hself⟩ := hp
  refine ks_wpAt_execs_cons (ks_wpAt_mono (Q := fun fl s2 => fl = .next ∧ Inv (ecx w K mg base ["self", f] qual (defScope st) fI (.ref cda) cc A outer s H) [] [some (.ref a), some v] H s2) ?_ (fun fl s2 hh => ?_) (fun _ _ z => z))
  · refine ks_wpAt_Expr_any (ks_wpAt_MethodCall ?_ (ecall hl hse)) I.quiet rfl
    · obtain ⟨mb, hmb1, hmb2⟩ := I.mod.blt
      have KX : K.In s1.heap := I.kIn
      refine ks_wpAt_super_base (f := fI) (cc := cda) l3 l4 (by decide) rfl (KX _ _ lk) rfl har rfl (KX _ _ hcode) rfl hvs (beq_iff_eq.mpr hfile) no_super ?_
      refine PySem.W.ks_loadName_global kind l3 (Calls.loadGlobal_builtin (I.mod.glob.keeps I.bk) hs (hmb1.keeps I.bk) ((hmb2 _ (by decide +kernel)).trans boot_super) ⟨rfl, ?_⟩)
      refine wpAny_loadName_free kind l4 (c := cc) (by show ([(("__class__" : Str), cc)] : List (Str × Addr)).lookup ("__class__" : Str) = some cc; simp [List.lookup]) ⟨_, KX _ _ hcc, rfl⟩ ?_
      rw [hself]
      obtain ⟨m, hn, hl⟩ := I.loc
      obtain ⟨u, ru, lk0⟩ := hl 0 "self" (.ref a) rfl rfl (.inl l1)
      obtain rfl : u = Value.ref a := ru
      have hm : m "self" = some (.ref a) := by
        rcases lk0 with ⟨_, e⟩ | ⟨e, _⟩
        · exact e
        · have e : (defScope st).names.lookup ("self" : Str) = some .cell ∨ (defScope st).names.lookup ("self" : Str) = some .free := e
          rw [l1] at e
          rcases e with e | e <;> cases e
      refine wpAny_loadName_local kind l1 hn hm ?_
      obtain ⟨t1, hx⟩ := exo_at I.hok ha
      obtain ⟨hp1, g, d, tk, os⟩ := s1
      refine ks_wpAny_isType_cls (KX _ _ hC) rfl ⟨rfl, ?_⟩
      refine ks_wpAny_call_super (KX _ _ hC) rfl hx rfl (fun c z => by cases z) (PySem.W.looks_mroIn KX T.self) (fun h' eso kk => ?_)
      have I2 := I.kept (t' := tk) kk
      have KX2 : K.In h' := I2.kIn
      have hx2 := kk _ _ hx
      have J2 : PySem.W.InstAt h' a ({ cls := .ref C, dict := none, data := .fields #[.ref t1, .none, .none, .none, .bool false, .none] } : Obj) C none := ⟨hx2, rfl, rfl, trivial⟩
      refine PySem.W.kxs_getMethod PySem.W.kxs_ValueError (l₀ := .ref C :: bm) eso (PySem.W.looks_opaque KX2 T.tp) ?_ rfl KX2 hsup (J2.type.andThen (PySem.W.looks_subIn KX2 T.ve)) (PySem.W.ks_ne KX2 J2 hcl) (by decide) ?_
      · exact fun A Q E s k z => wpAny_bind ((PySem.W.looks_clsIn KX2 hcl) A _ E s k (wpAny_pure z))
      have k3 : ∀ b o, h'.get? b = some o → (h'.push (PySem.W.kxs_mw "ValueError.__init__" a)).get? b = some o := fun b o z => Heap.get?_push_of_some _ z
      have I3 := I2.kept (t' := tk + 1) k3
      have hmw : (h'.push (PySem.W.kxs_mw "ValueError.__init__" a)).get? h'.objs.size = some (PySem.W.kxs_mw "ValueError.__init__" a) := Heap.get?_push_size _ rfl
      have I4 := I3.pins_of (pins' := [(h'.objs.size, PySem.W.kxs_mw "ValueError.__init__" a)]) (fun p hp => by
        have e1 : p = (h'.objs.size, PySem.W.kxs_mw "ValueError.__init__" a) := by simpa using hp
        subst e1
        exact ⟨hmw, I2.hok.fresh (Nat.le_refl _), Nat.ne_of_gt I2.lt, I2.nofs (Nat.le_refl _), fun v z => by cases z⟩)
      dsimp only
      rw [hse]
      refine PySem.W.kxs_callWith (i := "ValueError.__init__") (x := a) rfl ?_
      refine Calls.evalArgs_plain ?_
      have pa := pa_cons (X := ecx w K mg base ["self", f] qual (defScope st) fI (.ref cda) cc A outer s H) pe pa_nil hse
      have pr := pa.run p3 _ _ _ _ (fun us H1 => H1 = H ∧ us.length = 1) I4 (hte _ fun z => ⟨rfl, rfl⟩)
      rw [hse] at pr
      refine wpAny_mono pr (fun us s4 hh => ?_) (fun _ _ z => z.elim)
      obtain ⟨vs, H1, I5, r5, eH, hl5⟩ := hh
      subst eH
      have hu := (I5.pin (h'.objs.size, PySem.W.kxs_mw "ValueError.__init__" a) (List.mem_append_right _ List.mem_cons_self)).1
      obtain ⟨t2, hx5⟩ := exo_at I5.hok ha
      obtain ⟨hp5, g5, d5, tk5, os5⟩ := s4
      have hl6 : us.length ≤ sizeLine := by
        rw [← r5.length, hl5]
        decide
      refine ⟨hu, call_mw I5.kIn T.cls hx5 hu hl6 (fun h6 t6 k6 hx6 => ?_)⟩
      have J := I5.write (t' := tk5) (x := a) (e := a) (o := exo a C none) (by rw [ha]; exact True.intro) (.inl rfl) k6 ⟨_, hx6⟩ (exo_ok hx6)
      have eu : upd H1 a (exo a C none) = H1 := by
        funext b
        by_cases hb : b = a
        · rw [hb, upd_same, ha]
        · rw [upd_ne hb]
      rw [eu] at J
      exact ⟨rfl, J.pins_of fun p hp => by simp at hp⟩
  · obtain ⟨rfl, I2⟩ := hh
    refine wpAt_of_wpAny ?_
    have b2 : PSs (ecx w K mg base ["self", f] qual (defScope st) fI (.ref cda) cc A outer s H) [.Assign [.Attribute (.Name "self" p5) f p6] (.Name f p7) p8] _ :=
      pss_one (ps_ost (pe_var (i := 0) rfl (.inl l1)) (pe_var (i := 1) rfl (.inl l2) hdb hdc))
    exact b2.run [] s2 _ H D I2 ⟨v, rfl, .ref a, rfl, a, C, rfl, T.cls, T.noF, .inl ⟨ha, hq⟩⟩
theorem exc_ok {w : World} {K : PySem.W.Frag} {mg : Str → Option Value} {base : Heap} {C fI : Addr} {f qual : Str} {st : Stmt} {ok : V → Prop} {e : Expr} {p0 p1 p2 p3 p4 p5 p6 p7 p8 : Pos}
    (T : ExT K C fI f st qual) (hs : mg "super" = none)
    (hbody : defBody st = [.Expr (.Call (.Attribute (.Call (.Name "super" p0) [] [] p1) "__init__" p2) [e] [] p3) p4, .Assign [.Attribute (.Name "self" p5) f p6] (.Name f p7) p8])
    (kind : (defScope st).kind = .function) (co : (defScope st).isCoroutine = false) (gen : (defScope st).isGenerator = false)
    (l1 : (defScope st).names.lookup ("self" : Str) = some .local) (l2 : (defScope st).names.lookup f = some .local) (l3 : (defScope st).names.lookup ("super" : Str) = some .globalImplicit) (l4 : (defScope st).names.lookup ("__class__" : Str) = some .free)
    (hfree : ∀ y, (defScope st).names.lookup y = some .cell ∨ (defScope st).names.lookup y = some .free → y = ("__class__" : Str)) (hcell : ∀ y ∈ (defScope st).names, y.2 ≠ .cell) (hne : ¬ f = ("self" : Str))
    (hdb : (f == ("__debug__" : Str)) = false) (hdc : (f == ("__classdict__" : Str)) = false)
    (hp : ∃ ar : Arg, ((defArgs st).posonlyargs ++ (defArgs st).args).head? = some ar ∧ ar.arg = ("self" : Str))
    (hl : (p2.endLine == p3.line) = true)
    (hE : ∀ (cda cc : Addr) (A : Around) (outer : List Env) (s : Shared) (H : Hp), ∃ te : TE, PE (ecx w K mg base ["self", f] qual (defScope st) fI (.ref cda) cc A outer s H) e te ∧
      (∀ a v H1 (Q : VK), ok v → (∀ z : V, Q z H1) → te [some (.ref a), some v] H1 Q) ∧
      starEach [e] (ecx w K mg base ["self", f] qual (defScope st) fI (.ref cda) cc A outer s H).env = [(false, eval e (ecx w K mg base ["self", f] qual (defScope st) fI (.ref cda) cc A outer s H).env)])
    (hb : ∀ (kV doc pm : Value) (an : Option Addr) (cdv ct : Value) (cc : Addr) (us : List Value), us.length = 2 →
      bindArgs (PySem.W.fnX "__init__" qual (defArgs st) (defBody st) (defScope st) [("__class__", cc)] .none kV doc pm an cdv ct) ⟨us, []⟩ = pure ((["self", f] : List Str).zip us)) :
    ∃ fd : FuncData, Binds K fd ["self", f] [] ∧ FnOk pg w K mg base (L2.CX pg w) 1 fI fd ["self", f] (spExI C f ok) := by
  obtain ⟨oc, od, kV, doc, pm, an, cda, ct, osl, cc, lk, hcd, ⟨cl, cld, csl, hcc⟩, ccl, cdd, vs0, ccs, file, tf, hcode, hvs, hfile⟩ := T.fn
  refine ⟨_, .all fun us hl => hb kV doc pm an (.ref cda) ct cc us hl, fun vs H Q E h => ?_, fun A outer s H args us vs Q E hr e0 hbd r hsp => ?_⟩
  · obtain ⟨a, v, rfl, _⟩ := h
    rfl
  obtain ⟨a, v, rfl, hok, ha, hq⟩ := hsp
  obtain ⟨u1, u2, rfl, r1, r2⟩ : ∃ u1 u2, us = [u1, u2] ∧ RelV (.ref a) u1 ∧ RelV v u2 := by
    cases r with
    | cons x y =>
      cases y with
      | cons x2 y2 =>
        cases y2
        exact ⟨_, _, rfl, x, x2⟩
  obtain rfl : u1 = Value.ref a := r1
  have KX : K.In s.heap := e0.mod.kin.keeps fun b o q => (e0.bs b o q).1
  have lim : s.heap.NoLimit := e0.mod.nolimit.keeps fun b o q => (e0.bs b o q).1
  have hloc : ∀ y ∈ (["self", f] : List Str).zip [Value.ref a, u2], (defScope st).names.lookup y.1 = some .local := fun y hy => by
    have hy' : y = (("self" : Str), Value.ref a) ∨ y = (f, u2) := by simpa using hy
    rcases hy' with q | q <;> rw [q]
    · exact l1
    · exact l2
  refine ks_codeAny_call_defAt (fd := PySem.W.fnX "__init__" qual (defArgs st) (defBody st) (defScope st) [("__class__", cc)] .none kV doc pm an (.ref cda) ct) (body := defBody st)
    hr.depth (KX _ _ lk) rfl lim (PySem.W.codeRec_of KX hcd) rfl hbd hcell hloc (fun h1 hns hk => ?_) co gen kind
  have I := ecx_inv (w := w) (K := K) (mg := mg) (base := base) (fld := f) (qual := qual) (scope := defScope st) (f := fI) (cc := cc) (C := C) (cd := .ref cda) (A := A) (outer := outer) (s := s) (H := H) (h1 := h1)
    (tk := s.toks + ((["self", f] : List Str).zip [Value.ref a, u2]).length) (u1 := .ref a) (u2 := u2) (v1 := .ref a) (v2 := v) (cl := cl) (cld := cld) (csl := csl) hr.hd e0 rfl r2 hcc kind l1 l2 hfree hne hns hk
  obtain ⟨te, pe, hte, hse⟩ := hE cda cc A outer s H
  show PySem.wpAt _ _ _ (execs (defBody st) (PySem.W.envX qual (defScope st) s.heap.objs.size fI (.ref cda) [("__class__", cc)])) _ _ _
  have main : PySem.wpAt (model pg w) (ecx w K mg base ["self", f] qual (defScope st) fI (.ref cda) cc A outer s H).A
      (.func (defBody st) (ecx w K mg base ["self", f] qual (defScope st) fI (.ref cda) cc A outer s H).env) (execs (defBody st) (ecx w K mg base ["self", f] qual (defScope st) fI (.ref cda) cc A outer s H).env)
      (SP (ecx w K mg base ["self", f] qual (defScope st) fI (.ref cda) cc A outer s H) [] { nx := fun _ H' => Q .non H', rt := Q }) (fun _ _ => False) { s with heap := h1, toks := s.toks + ((["self", f] : List Str).zip [Value.ref a, u2]).length } := by
    have hb2 := exc_body (D := { nx := fun _ H' => Q .non H', rt := Q }) (p0 := p0) (p1 := p1) (p2 := p2) (p3 := p3) (p4 := p4) (p5 := p5) (p6 := p6) (p7 := p7) (p8 := p8) T hs lk hcc hcode hvs hfile kind l1 l2 l3 l4 hdb hdc hp hl I pe (fun Q' z => hte a v H Q' hok z) hse ha hq
    rw [← hbody] at hb2
    exact hb2
  refine ks_wpAt_mono main (fun fl s' hsp => ?_) fun _ _ z => z.elim
  have fin : ∀ {σ' : L2.St} {H' : Hp} {v' : V} {u' : Value}, Inv (ecx w K mg base ["self", f] qual (defScope st) fI (.ref cda) cc A outer s H) [] σ' H' s' → RelV v' u' → Q v' H' → CE outer pg w H s Q u' s' :=
    fun {σ' H' v' u'} J rv q => ⟨v', H', J.os, J.bare, J.base, J.hok, rv, q⟩
  cases fl with
  | ret u' =>
    obtain ⟨v', σ', H', J, rv, q⟩ := hsp
    exact fin J rv q
  | next =>
    obtain ⟨σ', H', J, q⟩ := hsp
    exact fin (v' := V.non) (u' := Value.none) J rfl q
  | brk =>
    obtain ⟨_, _, _, q⟩ := hsp
    exact False.elim q
  | cont =>
    obtain ⟨_, _, _, q⟩ := hsp
    exact False.elim q
end K12

set_option Elab.async false
set_option linter.all false
set_option maxRecDepth 100000
set_option maxHeartbeats 4000000
namespace K12
open PySem PySem.Spec PyProof.Rows L2 He
/-! ## the top's facts by names -/
structure Tx (K : PySem.W.Frag) (mg : Str → Option Value) : Prop where
  says : obsM K = valM
  ns : ∃ h : Heap, K.In h ∧ h.Ns mainGlobals mg
section
variable {K : PySem.W.Frag} {mg : Str → Option Value}
theorem Tx.saysD (T : Tx K mg) : He.SaysD factsA defsAll K := congrArg (fun z : AlM => z.1) T.says
theorem Tx.more (T : Tx K mg) : exB K = true := congrArg (fun z : AlM => z.2.1) T.says
theorem Tx.exc (T : Tx K mg) : [fnY K "KeyLimit", fnY K "UnknownKey", fnY K "BadChoice", fnY K "Stalled"] = [exD "KeyLimit" sKeyLimitInit "KeyLimit.__init__", exD "UnknownKey" sUnknownKeyInit "UnknownKey.__init__",
    exD "BadChoice" sBadChoiceInit "BadChoice.__init__", exD "Stalled" sStalledInit "Stalled.__init__"] := congrArg (fun z : AlM => z.2.2) T.says
theorem Tx.fact (T : Tx K mg) (i : Nat) {f : He.Fa} (h : factsA[i]? = some f) : f.ok K = true := T.saysD.fact i h
theorem Tx.def_ (T : Tx K mg) (i : Nat) {d : He.DefD} (h : defsAll[i]? = some d) : ∃ fd, FunD K d.name d.qual d.params d.body d.scope (d.dvs K) (d.kws K) (He.fAd K d.at_) fd := T.saysD.def_ i h
theorem Tx.glo (T : Tx K mg) (i : Nat) {x : Str} (h : factsA[i]? = some (.glo x)) : mg x = some (.ref (He.ga K x)) := let ⟨_, X, G⟩ := T.ns; He.glo_ok X G (T.fact i h)
theorem Tx.free (T : Tx K mg) (i : Nat) {x : Str} (h : factsA[i]? = some (.free x)) : mg x = none := let ⟨_, X, G⟩ := T.ns; He.free_ok X G (T.fact i h)
theorem Tx.int (T : Tx K mg) (i : Nat) {x : Str} {n : Int} (h : factsA[i]? = some (.int x n)) : ∃ t, mg x = some (.int n t) := let ⟨_, X, G⟩ := T.ns; He.int_ok X G (T.fact i h)
theorem Tx.str (T : Tx K mg) (i : Nat) {x z : Str} (h : factsA[i]? = some (.str x z)) : ∃ t, mg x = some (.str z t) := let ⟨_, X, G⟩ := T.ns; He.str_ok X G (T.fact i h)
theorem Tx.g_at_least (T : Tx K mg) : mg "at_least" = some (.ref (He.ga K "at_least")) := T.glo 0 rfl
theorem Tx.g_at_most (T : Tx K mg) : mg "at_most" = some (.ref (He.ga K "at_most")) := T.glo 1 rfl
theorem Tx.g_whole_number (T : Tx K mg) : mg "whole_number" = some (.ref (He.ga K "whole_number")) := T.glo 2 rfl
theorem Tx.g_good_key (T : Tx K mg) : mg "good_key" = some (.ref (He.ga K "good_key")) := T.glo 3 rfl
theorem Tx.g_is_needed (T : Tx K mg) : mg "is_needed" = some (.ref (He.ga K "is_needed")) := T.glo 4 rfl
theorem Tx.g_law_cell (T : Tx K mg) : mg "_law_cell" = some (.ref (He.ga K "_law_cell")) := T.glo 5 rfl
theorem Tx.g_law_purse (T : Tx K mg) : mg "_law_purse" = some (.ref (He.ga K "_law_purse")) := T.glo 6 rfl
theorem Tx.g_law_mixed (T : Tx K mg) : mg "_law_mixed" = some (.ref (He.ga K "_law_mixed")) := T.glo 7 rfl
theorem Tx.g_law_take (T : Tx K mg) : mg "_law_take" = some (.ref (He.ga K "_law_take")) := T.glo 8 rfl
theorem Tx.g_law_cycle (T : Tx K mg) : mg "_law_cycle" = some (.ref (He.ga K "_law_cycle")) := T.glo 9 rfl
theorem Tx.g_law_round (T : Tx K mg) : mg "_law_round" = some (.ref (He.ga K "_law_round")) := T.glo 10 rfl
theorem Tx.g_law_name (T : Tx K mg) : mg "_law_name" = some (.ref (He.ga K "_law_name")) := T.glo 11 rfl
theorem Tx.g_law_pool (T : Tx K mg) : mg "_law_pool" = some (.ref (He.ga K "_law_pool")) := T.glo 12 rfl
theorem Tx.g_law_worth (T : Tx K mg) : mg "_law_worth" = some (.ref (He.ga K "_law_worth")) := T.glo 13 rfl
theorem Tx.g_law_terms (T : Tx K mg) : mg "_law_terms" = some (.ref (He.ga K "_law_terms")) := T.glo 14 rfl
theorem Tx.g_law_ring (T : Tx K mg) : mg "_law_ring" = some (.ref (He.ga K "_law_ring")) := T.glo 15 rfl
theorem Tx.g_law_world (T : Tx K mg) : mg "_law_world" = some (.ref (He.ga K "_law_world")) := T.glo 16 rfl
theorem Tx.g_law_trimmed (T : Tx K mg) : mg "_law_trimmed" = some (.ref (He.ga K "_law_trimmed")) := T.glo 17 rfl
theorem Tx.g_law_moved (T : Tx K mg) : mg "_law_moved" = some (.ref (He.ga K "_law_moved")) := T.glo 18 rfl
theorem Tx.g_law_ahead (T : Tx K mg) : mg "_law_ahead" = some (.ref (He.ga K "_law_ahead")) := T.glo 19 rfl
theorem Tx.g_law_due (T : Tx K mg) : mg "_law_due" = some (.ref (He.ga K "_law_due")) := T.glo 20 rfl
theorem Tx.g_law_pick (T : Tx K mg) : mg "_law_pick" = some (.ref (He.ga K "_law_pick")) := T.glo 21 rfl
theorem Tx.g_law_tally (T : Tx K mg) : mg "_law_tally" = some (.ref (He.ga K "_law_tally")) := T.glo 22 rfl
theorem Tx.g_law_deed (T : Tx K mg) : mg "_law_deed" = some (.ref (He.ga K "_law_deed")) := T.glo 23 rfl
theorem Tx.g_law_move (T : Tx K mg) : mg "_law_move" = some (.ref (He.ga K "_law_move")) := T.glo 24 rfl
theorem Tx.g_law_read (T : Tx K mg) : mg "_law_read" = some (.ref (He.ga K "_law_read")) := T.glo 25 rfl
theorem Tx.g_law_age (T : Tx K mg) : mg "_law_age" = some (.ref (He.ga K "_law_age")) := T.glo 26 rfl
theorem Tx.g_law_depth (T : Tx K mg) : mg "_law_depth" = some (.ref (He.ga K "_law_depth")) := T.glo 27 rfl
theorem Tx.g_law_kept (T : Tx K mg) : mg "_law_kept" = some (.ref (He.ga K "_law_kept")) := T.glo 28 rfl
theorem Tx.g_law_turn (T : Tx K mg) : mg "_law_turn" = some (.ref (He.ga K "_law_turn")) := T.glo 29 rfl
theorem Tx.g_law (T : Tx K mg) : mg "law" = some (.ref (He.ga K "law")) := T.glo 30 rfl
theorem Tx.g_RingLog (T : Tx K mg) : mg "RingLog" = some (.ref (He.ga K "RingLog")) := T.glo 31 rfl
theorem Tx.g_Ring (T : Tx K mg) : mg "Ring" = some (.ref (He.ga K "Ring")) := T.glo 32 rfl
theorem Tx.g_Round (T : Tx K mg) : mg "Round" = some (.ref (He.ga K "Round")) := T.glo 33 rfl
theorem Tx.g_StoreError (T : Tx K mg) : mg "StoreError" = some (.ref (He.ga K "StoreError")) := T.glo 34 rfl
theorem Tx.g_KeyLimit (T : Tx K mg) : mg "KeyLimit" = some (.ref (He.ga K "KeyLimit")) := T.glo 35 rfl
theorem Tx.g_UnknownKey (T : Tx K mg) : mg "UnknownKey" = some (.ref (He.ga K "UnknownKey")) := T.glo 36 rfl
theorem Tx.g_BadChoice (T : Tx K mg) : mg "BadChoice" = some (.ref (He.ga K "BadChoice")) := T.glo 37 rfl
theorem Tx.g_Stalled (T : Tx K mg) : mg "Stalled" = some (.ref (He.ga K "Stalled")) := T.glo 38 rfl
theorem Tx.n_abs (T : Tx K mg) : mg "abs" = none := T.free 39 rfl
theorem Tx.n_bool (T : Tx K mg) : mg "bool" = none := T.free 40 rfl
theorem Tx.n_dict (T : Tx K mg) : mg "dict" = none := T.free 41 rfl
theorem Tx.n_enumerate (T : Tx K mg) : mg "enumerate" = none := T.free 42 rfl
theorem Tx.n_int (T : Tx K mg) : mg "int" = none := T.free 43 rfl
theorem Tx.n_isinstance (T : Tx K mg) : mg "isinstance" = none := T.free 44 rfl
theorem Tx.n_len (T : Tx K mg) : mg "len" = none := T.free 45 rfl
theorem Tx.n_list (T : Tx K mg) : mg "list" = none := T.free 46 rfl
theorem Tx.n_max (T : Tx K mg) : mg "max" = none := T.free 47 rfl
theorem Tx.n_min (T : Tx K mg) : mg "min" = none := T.free 48 rfl
theorem Tx.n_range (T : Tx K mg) : mg "range" = none := T.free 49 rfl
theorem Tx.n_repr (T : Tx K mg) : mg "repr" = none := T.free 50 rfl
theorem Tx.n_sorted (T : Tx K mg) : mg "sorted" = none := T.free 51 rfl
theorem Tx.n_str (T : Tx K mg) : mg "str" = none := T.free 52 rfl
theorem Tx.n_sum (T : Tx K mg) : mg "sum" = none := T.free 53 rfl
theorem Tx.n_super (T : Tx K mg) : mg "super" = none := T.free 54 rfl
theorem Tx.n_tuple (T : Tx K mg) : mg "tuple" = none := T.free 55 rfl
theorem Tx.i_KEY_LENGTH (T : Tx K mg) : ∃ t, mg "KEY_LENGTH" = some (.int 12 t) := T.int 56 rfl
theorem Tx.i_KEY (T : Tx K mg) : ∃ t, mg "KEY" = some (.int 0 t) := T.int 57 rfl
theorem Tx.i_VALUE (T : Tx K mg) : ∃ t, mg "VALUE" = some (.int 1 t) := T.int 58 rfl
theorem Tx.i_LIVING (T : Tx K mg) : ∃ t, mg "LIVING" = some (.int 2 t) := T.int 59 rfl
theorem Tx.i_READERS (T : Tx K mg) : ∃ t, mg "READERS" = some (.int 3 t) := T.int 60 rfl
theorem Tx.s_KEY_CHARACTERS (T : Tx K mg) : ∃ t, mg "KEY_CHARACTERS" = some (.str "abcdefghijklmnopqrstuvwxyz0123456789" t) := T.str 61 rfl
theorem Tx.c_RingLog (T : Tx K mg) : Cls K (He.ga K "RingLog") := He.cls_ok (T.fact 62 rfl)
theorem Tx.mk_RingLog (T : Tx K mg) : Mk K (He.ga K "RingLog") (He.ma K (He.ga K "RingLog") "__init__") := He.mkr_ok (T.fact 63 rfl)
theorem Tx.na_RingLog_entries (T : Tx K mg) : NoAttr K (He.ga K "RingLog") "entries" := He.noat_ok (T.fact 64 rfl)
theorem Tx.m_RingLog_trim (T : Tx K mg) : Meth K (He.ga K "RingLog") "trim" (He.ma K (He.ga K "RingLog") "trim") := He.meth_ok (T.fact 65 rfl)
theorem Tx.m_RingLog_copied (T : Tx K mg) : Meth K (He.ga K "RingLog") "copied" (He.ma K (He.ga K "RingLog") "copied") := He.meth_ok (T.fact 66 rfl)
theorem Tx.m_RingLog_find_living (T : Tx K mg) : Meth K (He.ga K "RingLog") "find_living" (He.ma K (He.ga K "RingLog") "find_living") := He.meth_ok (T.fact 67 rfl)
theorem Tx.m_RingLog_needed_count (T : Tx K mg) : Meth K (He.ga K "RingLog") "needed_count" (He.ma K (He.ga K "RingLog") "needed_count") := He.meth_ok (T.fact 68 rfl)
theorem Tx.m_RingLog_append_entry (T : Tx K mg) : Meth K (He.ga K "RingLog") "append_entry" (He.ma K (He.ga K "RingLog") "append_entry") := He.meth_ok (T.fact 69 rfl)
theorem Tx.m_RingLog_release_at (T : Tx K mg) : Meth K (He.ga K "RingLog") "release_at" (He.ma K (He.ga K "RingLog") "release_at") := He.meth_ok (T.fact 70 rfl)
theorem Tx.m_RingLog_carry_tail (T : Tx K mg) : Meth K (He.ga K "RingLog") "carry_tail" (He.ma K (He.ga K "RingLog") "carry_tail") := He.meth_ok (T.fact 71 rfl)
theorem Tx.c_Ring (T : Tx K mg) : Cls K (He.ga K "Ring") := He.cls_ok (T.fact 72 rfl)
theorem Tx.mk_Ring (T : Tx K mg) : Mk K (He.ga K "Ring") (He.ma K (He.ga K "Ring") "__init__") := He.mkr_ok (T.fact 73 rfl)
theorem Tx.na_Ring_places (T : Tx K mg) : NoAttr K (He.ga K "Ring") "_places" := He.noat_ok (T.fact 74 rfl)
theorem Tx.na_Ring_limit (T : Tx K mg) : NoAttr K (He.ga K "Ring") "_limit" := He.noat_ok (T.fact 75 rfl)
theorem Tx.na_Ring_budgets (T : Tx K mg) : NoAttr K (He.ga K "Ring") "_budgets" := He.noat_ok (T.fact 76 rfl)
theorem Tx.na_Ring_late (T : Tx K mg) : NoAttr K (He.ga K "Ring") "_late" := He.noat_ok (T.fact 77 rfl)
theorem Tx.na_Ring_readers (T : Tx K mg) : NoAttr K (He.ga K "Ring") "_readers" := He.noat_ok (T.fact 78 rfl)
theorem Tx.na_Ring_log (T : Tx K mg) : NoAttr K (He.ga K "Ring") "_log" := He.noat_ok (T.fact 79 rfl)
theorem Tx.na_Ring_done (T : Tx K mg) : NoAttr K (He.ga K "Ring") "_done" := He.noat_ok (T.fact 80 rfl)
theorem Tx.na_Ring_phase (T : Tx K mg) : NoAttr K (He.ga K "Ring") "_phase" := He.noat_ok (T.fact 81 rfl)
theorem Tx.na_Ring_carried (T : Tx K mg) : NoAttr K (He.ga K "Ring") "_carried" := He.noat_ok (T.fact 82 rfl)
theorem Tx.na_Ring_last_wait (T : Tx K mg) : NoAttr K (He.ga K "Ring") "_last_wait" := He.noat_ok (T.fact 83 rfl)
theorem Tx.na_Ring_opened (T : Tx K mg) : NoAttr K (He.ga K "Ring") "_opened" := He.noat_ok (T.fact 84 rfl)
theorem Tx.na_Ring_open (T : Tx K mg) : NoAttr K (He.ga K "Ring") "_open" := He.noat_ok (T.fact 85 rfl)
theorem Tx.m_Ring_len (T : Tx K mg) : Meth K (He.ga K "Ring") "__len__" (He.ma K (He.ga K "Ring") "__len__") := He.meth_ok (T.fact 86 rfl)
theorem Tx.m_Ring_contains (T : Tx K mg) : Meth K (He.ga K "Ring") "__contains__" (He.ma K (He.ga K "Ring") "__contains__") := He.meth_ok (T.fact 87 rfl)
theorem Tx.m_Ring_read (T : Tx K mg) : Meth K (He.ga K "Ring") "read" (He.ma K (He.ga K "Ring") "read") := He.meth_ok (T.fact 88 rfl)
theorem Tx.m_Ring_table (T : Tx K mg) : Meth K (He.ga K "Ring") "table" (He.ma K (He.ga K "Ring") "table") := He.meth_ok (T.fact 89 rfl)
theorem Tx.m_Ring_scan (T : Tx K mg) : Meth K (He.ga K "Ring") "scan" (He.ma K (He.ga K "Ring") "scan") := He.meth_ok (T.fact 90 rfl)
theorem Tx.m_Ring_age (T : Tx K mg) : Meth K (He.ga K "Ring") "age" (He.ma K (He.ga K "Ring") "age") := He.meth_ok (T.fact 91 rfl)
theorem Tx.m_Ring_put (T : Tx K mg) : Meth K (He.ga K "Ring") "put" (He.ma K (He.ga K "Ring") "put") := He.meth_ok (T.fact 92 rfl)
theorem Tx.m_Ring_delete (T : Tx K mg) : Meth K (He.ga K "Ring") "delete" (He.ma K (He.ga K "Ring") "delete") := He.meth_ok (T.fact 93 rfl)
theorem Tx.m_Ring_complete (T : Tx K mg) : Meth K (He.ga K "Ring") "_complete" (He.ma K (He.ga K "Ring") "_complete") := He.meth_ok (T.fact 94 rfl)
theorem Tx.m_Ring_append_to (T : Tx K mg) : Meth K (He.ga K "Ring") "_append_to" (He.ma K (He.ga K "Ring") "_append_to") := He.meth_ok (T.fact 95 rfl)
theorem Tx.m_Ring_carry_in (T : Tx K mg) : Meth K (He.ga K "Ring") "_carry_in" (He.ma K (He.ga K "Ring") "_carry_in") := He.meth_ok (T.fact 96 rfl)
theorem Tx.c_Round (T : Tx K mg) : Cls K (He.ga K "Round") := He.cls_ok (T.fact 97 rfl)
theorem Tx.mk_Round (T : Tx K mg) : Mk K (He.ga K "Round") (He.ma K (He.ga K "Round") "__init__") := He.mkr_ok (T.fact 98 rfl)
theorem Tx.na_Round_budgets (T : Tx K mg) : NoAttr K (He.ga K "Round") "_budgets" := He.noat_ok (T.fact 99 rfl)
theorem Tx.m_Round_len (T : Tx K mg) : Meth K (He.ga K "Round") "__len__" (He.ma K (He.ga K "Round") "__len__") := He.meth_ok (T.fact 100 rfl)
theorem Tx.m_Round_add (T : Tx K mg) : Meth K (He.ga K "Round") "__add__" (He.ma K (He.ga K "Round") "__add__") := He.meth_ok (T.fact 101 rfl)
theorem Tx.m_Round_at (T : Tx K mg) : Meth K (He.ga K "Round") "at" (He.ma K (He.ga K "Round") "at") := He.meth_ok (T.fact 102 rfl)
theorem Tx.x_KeyLimit_StoreError (T : Tx K mg) : PySem.W.exmOne K (.ref (He.ga K "KeyLimit")) (.ref (He.ga K "StoreError")) = some true := He.exm_ok (T.fact 103 rfl)
theorem Tx.x_UnknownKey_StoreError (T : Tx K mg) : PySem.W.exmOne K (.ref (He.ga K "UnknownKey")) (.ref (He.ga K "StoreError")) = some true := He.exm_ok (T.fact 104 rfl)
theorem Tx.x_BadChoice_StoreError (T : Tx K mg) : PySem.W.exmOne K (.ref (He.ga K "BadChoice")) (.ref (He.ga K "StoreError")) = some true := He.exm_ok (T.fact 105 rfl)
theorem Tx.x_Stalled_StoreError (T : Tx K mg) : PySem.W.exmOne K (.ref (He.ga K "Stalled")) (.ref (He.ga K "StoreError")) = some true := He.exm_ok (T.fact 106 rfl)
theorem Tx.x_UnknownKey_UnknownKey (T : Tx K mg) : PySem.W.exmOne K (.ref (He.ga K "UnknownKey")) (.ref (He.ga K "UnknownKey")) = some true := He.exm_ok (T.fact 107 rfl)
theorem Tx.fsRingLogInit (T : Tx K mg) : ∃ fd, FunD K "__init__" "RingLog.__init__" (defArgs sRingLogInit) (defBody sRingLogInit) (defScope sRingLogInit) (DefD.dvs K dRingLogInit) (DefD.kws K dRingLogInit) (He.fAd K ("RingLog", some "__init__")) fd := T.def_ 0 rfl
theorem Tx.fsRingLogTrim (T : Tx K mg) : ∃ fd, FunD K "trim" "RingLog.trim" (defArgs sRingLogTrim) (defBody sRingLogTrim) (defScope sRingLogTrim) (DefD.dvs K dRingLogTrim) (DefD.kws K dRingLogTrim) (He.fAd K ("RingLog", some "trim")) fd := T.def_ 1 rfl
theorem Tx.fsRingLogCopied (T : Tx K mg) : ∃ fd, FunD K "copied" "RingLog.copied" (defArgs sRingLogCopied) (defBody sRingLogCopied) (defScope sRingLogCopied) (DefD.dvs K dRingLogCopied) (DefD.kws K dRingLogCopied) (He.fAd K ("RingLog", some "copied")) fd := T.def_ 2 rfl
theorem Tx.fsRingLogFindLiving (T : Tx K mg) : ∃ fd, FunD K "find_living" "RingLog.find_living" (defArgs sRingLogFindLiving) (defBody sRingLogFindLiving) (defScope sRingLogFindLiving) (DefD.dvs K dRingLogFindLiving) (DefD.kws K dRingLogFindLiving) (He.fAd K ("RingLog", some "find_living")) fd := T.def_ 3 rfl
theorem Tx.fsRingLogNeededCount (T : Tx K mg) : ∃ fd, FunD K "needed_count" "RingLog.needed_count" (defArgs sRingLogNeededCount) (defBody sRingLogNeededCount) (defScope sRingLogNeededCount) (DefD.dvs K dRingLogNeededCount) (DefD.kws K dRingLogNeededCount) (He.fAd K ("RingLog", some "needed_count")) fd := T.def_ 4 rfl
theorem Tx.fsRingLogAppendEntry (T : Tx K mg) : ∃ fd, FunD K "append_entry" "RingLog.append_entry" (defArgs sRingLogAppendEntry) (defBody sRingLogAppendEntry) (defScope sRingLogAppendEntry) (DefD.dvs K dRingLogAppendEntry) (DefD.kws K dRingLogAppendEntry) (He.fAd K ("RingLog", some "append_entry")) fd := T.def_ 5 rfl
theorem Tx.fsRingLogReleaseAt (T : Tx K mg) : ∃ fd, FunD K "release_at" "RingLog.release_at" (defArgs sRingLogReleaseAt) (defBody sRingLogReleaseAt) (defScope sRingLogReleaseAt) (DefD.dvs K dRingLogReleaseAt) (DefD.kws K dRingLogReleaseAt) (He.fAd K ("RingLog", some "release_at")) fd := T.def_ 6 rfl
theorem Tx.fsRingLogCarryTail (T : Tx K mg) : ∃ fd, FunD K "carry_tail" "RingLog.carry_tail" (defArgs sRingLogCarryTail) (defBody sRingLogCarryTail) (defScope sRingLogCarryTail) (DefD.dvs K dRingLogCarryTail) (DefD.kws K dRingLogCarryTail) (He.fAd K ("RingLog", some "carry_tail")) fd := T.def_ 7 rfl
theorem Tx.fsRingInit (T : Tx K mg) : ∃ fd, FunD K "__init__" "Ring.__init__" (defArgs sRingInit) (defBody sRingInit) (defScope sRingInit) (DefD.dvs K dRingInit) (DefD.kws K dRingInit) (He.fAd K ("Ring", some "__init__")) fd := T.def_ 8 rfl
theorem Tx.fsRingLen (T : Tx K mg) : ∃ fd, FunD K "__len__" "Ring.__len__" (defArgs sRingLen) (defBody sRingLen) (defScope sRingLen) (DefD.dvs K dRingLen) (DefD.kws K dRingLen) (He.fAd K ("Ring", some "__len__")) fd := T.def_ 9 rfl
theorem Tx.fsRingContains (T : Tx K mg) : ∃ fd, FunD K "__contains__" "Ring.__contains__" (defArgs sRingContains) (defBody sRingContains) (defScope sRingContains) (DefD.dvs K dRingContains) (DefD.kws K dRingContains) (He.fAd K ("Ring", some "__contains__")) fd := T.def_ 10 rfl
theorem Tx.fsRingRead (T : Tx K mg) : ∃ fd, FunD K "read" "Ring.read" (defArgs sRingRead) (defBody sRingRead) (defScope sRingRead) (DefD.dvs K dRingRead) (DefD.kws K dRingRead) (He.fAd K ("Ring", some "read")) fd := T.def_ 11 rfl
theorem Tx.fsRingTable (T : Tx K mg) : ∃ fd, FunD K "table" "Ring.table" (defArgs sRingTable) (defBody sRingTable) (defScope sRingTable) (DefD.dvs K dRingTable) (DefD.kws K dRingTable) (He.fAd K ("Ring", some "table")) fd := T.def_ 12 rfl
theorem Tx.fsRingScan (T : Tx K mg) : ∃ fd, FunD K "scan" "Ring.scan" (defArgs sRingScan) (defBody sRingScan) (defScope sRingScan) (DefD.dvs K dRingScan) (DefD.kws K dRingScan) (He.fAd K ("Ring", some "scan")) fd := T.def_ 13 rfl
theorem Tx.fsRingAge (T : Tx K mg) : ∃ fd, FunD K "age" "Ring.age" (defArgs sRingAge) (defBody sRingAge) (defScope sRingAge) (DefD.dvs K dRingAge) (DefD.kws K dRingAge) (He.fAd K ("Ring", some "age")) fd := T.def_ 14 rfl
theorem Tx.fsRingPut (T : Tx K mg) : ∃ fd, FunD K "put" "Ring.put" (defArgs sRingPut) (defBody sRingPut) (defScope sRingPut) (DefD.dvs K dRingPut) (DefD.kws K dRingPut) (He.fAd K ("Ring", some "put")) fd := T.def_ 15 rfl
theorem Tx.fsRingDelete (T : Tx K mg) : ∃ fd, FunD K "delete" "Ring.delete" (defArgs sRingDelete) (defBody sRingDelete) (defScope sRingDelete) (DefD.dvs K dRingDelete) (DefD.kws K dRingDelete) (He.fAd K ("Ring", some "delete")) fd := T.def_ 16 rfl
theorem Tx.fsRingComplete (T : Tx K mg) : ∃ fd, FunD K "_complete" "Ring._complete" (defArgs sRingComplete) (defBody sRingComplete) (defScope sRingComplete) (DefD.dvs K dRingComplete) (DefD.kws K dRingComplete) (He.fAd K ("Ring", some "_complete")) fd := T.def_ 17 rfl
theorem Tx.fsRingAppendTo (T : Tx K mg) : ∃ fd, FunD K "_append_to" "Ring._append_to" (defArgs sRingAppendTo) (defBody sRingAppendTo) (defScope sRingAppendTo) (DefD.dvs K dRingAppendTo) (DefD.kws K dRingAppendTo) (He.fAd K ("Ring", some "_append_to")) fd := T.def_ 18 rfl
theorem Tx.fsRingCarryIn (T : Tx K mg) : ∃ fd, FunD K "_carry_in" "Ring._carry_in" (defArgs sRingCarryIn) (defBody sRingCarryIn) (defScope sRingCarryIn) (DefD.dvs K dRingCarryIn) (DefD.kws K dRingCarryIn) (He.fAd K ("Ring", some "_carry_in")) fd := T.def_ 19 rfl
theorem Tx.fsRoundInit (T : Tx K mg) : ∃ fd, FunD K "__init__" "Round.__init__" (defArgs sRoundInit) (defBody sRoundInit) (defScope sRoundInit) (DefD.dvs K dRoundInit) (DefD.kws K dRoundInit) (He.fAd K ("Round", some "__init__")) fd := T.def_ 20 rfl
theorem Tx.fsRoundLen (T : Tx K mg) : ∃ fd, FunD K "__len__" "Round.__len__" (defArgs sRoundLen) (defBody sRoundLen) (defScope sRoundLen) (DefD.dvs K dRoundLen) (DefD.kws K dRoundLen) (He.fAd K ("Round", some "__len__")) fd := T.def_ 21 rfl
theorem Tx.fsRoundAdd (T : Tx K mg) : ∃ fd, FunD K "__add__" "Round.__add__" (defArgs sRoundAdd) (defBody sRoundAdd) (defScope sRoundAdd) (DefD.dvs K dRoundAdd) (DefD.kws K dRoundAdd) (He.fAd K ("Round", some "__add__")) fd := T.def_ 22 rfl
theorem Tx.fsRoundAt (T : Tx K mg) : ∃ fd, FunD K "at" "Round.at" (defArgs sRoundAt) (defBody sRoundAt) (defScope sRoundAt) (DefD.dvs K dRoundAt) (DefD.kws K dRoundAt) (He.fAd K ("Round", some "at")) fd := T.def_ 23 rfl
theorem Tx.fsAtLeast (T : Tx K mg) : ∃ fd, FunD K "at_least" "at_least" (defArgs sAtLeast) (defBody sAtLeast) (defScope sAtLeast) (DefD.dvs K dAtLeast) (DefD.kws K dAtLeast) (He.fAd K ("at_least", none)) fd := T.def_ 24 rfl
theorem Tx.fsAtMost (T : Tx K mg) : ∃ fd, FunD K "at_most" "at_most" (defArgs sAtMost) (defBody sAtMost) (defScope sAtMost) (DefD.dvs K dAtMost) (DefD.kws K dAtMost) (He.fAd K ("at_most", none)) fd := T.def_ 25 rfl
theorem Tx.fsWholeNumber (T : Tx K mg) : ∃ fd, FunD K "whole_number" "whole_number" (defArgs sWholeNumber) (defBody sWholeNumber) (defScope sWholeNumber) (DefD.dvs K dWholeNumber) (DefD.kws K dWholeNumber) (He.fAd K ("whole_number", none)) fd := T.def_ 26 rfl
theorem Tx.fsGoodKey (T : Tx K mg) : ∃ fd, FunD K "good_key" "good_key" (defArgs sGoodKey) (defBody sGoodKey) (defScope sGoodKey) (DefD.dvs K dGoodKey) (DefD.kws K dGoodKey) (He.fAd K ("good_key", none)) fd := T.def_ 27 rfl
theorem Tx.fsIsNeeded (T : Tx K mg) : ∃ fd, FunD K "is_needed" "is_needed" (defArgs sIsNeeded) (defBody sIsNeeded) (defScope sIsNeeded) (DefD.dvs K dIsNeeded) (DefD.kws K dIsNeeded) (He.fAd K ("is_needed", none)) fd := T.def_ 28 rfl
theorem Tx.fsLawCell (T : Tx K mg) : ∃ fd, FunD K "_law_cell" "_law_cell" (defArgs sLawCell) (defBody sLawCell) (defScope sLawCell) (DefD.dvs K dLawCell) (DefD.kws K dLawCell) (He.fAd K ("_law_cell", none)) fd := T.def_ 29 rfl
theorem Tx.fsLawPurse (T : Tx K mg) : ∃ fd, FunD K "_law_purse" "_law_purse" (defArgs sLawPurse) (defBody sLawPurse) (defScope sLawPurse) (DefD.dvs K dLawPurse) (DefD.kws K dLawPurse) (He.fAd K ("_law_purse", none)) fd := T.def_ 30 rfl
theorem Tx.fsLawMixed (T : Tx K mg) : ∃ fd, FunD K "_law_mixed" "_law_mixed" (defArgs sLawMixed) (defBody sLawMixed) (defScope sLawMixed) (DefD.dvs K dLawMixed) (DefD.kws K dLawMixed) (He.fAd K ("_law_mixed", none)) fd := T.def_ 31 rfl
theorem Tx.fsLawTake (T : Tx K mg) : ∃ fd, FunD K "_law_take" "_law_take" (defArgs sLawTake) (defBody sLawTake) (defScope sLawTake) (DefD.dvs K dLawTake) (DefD.kws K dLawTake) (He.fAd K ("_law_take", none)) fd := T.def_ 32 rfl
theorem Tx.fsLawCycle (T : Tx K mg) : ∃ fd, FunD K "_law_cycle" "_law_cycle" (defArgs sLawCycle) (defBody sLawCycle) (defScope sLawCycle) (DefD.dvs K dLawCycle) (DefD.kws K dLawCycle) (He.fAd K ("_law_cycle", none)) fd := T.def_ 33 rfl
theorem Tx.fsLawRound (T : Tx K mg) : ∃ fd, FunD K "_law_round" "_law_round" (defArgs sLawRound) (defBody sLawRound) (defScope sLawRound) (DefD.dvs K dLawRound) (DefD.kws K dLawRound) (He.fAd K ("_law_round", none)) fd := T.def_ 34 rfl
theorem Tx.fsLawName (T : Tx K mg) : ∃ fd, FunD K "_law_name" "_law_name" (defArgs sLawName) (defBody sLawName) (defScope sLawName) (DefD.dvs K dLawName) (DefD.kws K dLawName) (He.fAd K ("_law_name", none)) fd := T.def_ 35 rfl
theorem Tx.fsLawPool (T : Tx K mg) : ∃ fd, FunD K "_law_pool" "_law_pool" (defArgs sLawPool) (defBody sLawPool) (defScope sLawPool) (DefD.dvs K dLawPool) (DefD.kws K dLawPool) (He.fAd K ("_law_pool", none)) fd := T.def_ 36 rfl
theorem Tx.fsLawWorth (T : Tx K mg) : ∃ fd, FunD K "_law_worth" "_law_worth" (defArgs sLawWorth) (defBody sLawWorth) (defScope sLawWorth) (DefD.dvs K dLawWorth) (DefD.kws K dLawWorth) (He.fAd K ("_law_worth", none)) fd := T.def_ 37 rfl
theorem Tx.fsLawTerms (T : Tx K mg) : ∃ fd, FunD K "_law_terms" "_law_terms" (defArgs sLawTerms) (defBody sLawTerms) (defScope sLawTerms) (DefD.dvs K dLawTerms) (DefD.kws K dLawTerms) (He.fAd K ("_law_terms", none)) fd := T.def_ 38 rfl
theorem Tx.fsLawRing (T : Tx K mg) : ∃ fd, FunD K "_law_ring" "_law_ring" (defArgs sLawRing) (defBody sLawRing) (defScope sLawRing) (DefD.dvs K dLawRing) (DefD.kws K dLawRing) (He.fAd K ("_law_ring", none)) fd := T.def_ 39 rfl
theorem Tx.fsLawWorld (T : Tx K mg) : ∃ fd, FunD K "_law_world" "_law_world" (defArgs sLawWorld) (defBody sLawWorld) (defScope sLawWorld) (DefD.dvs K dLawWorld) (DefD.kws K dLawWorld) (He.fAd K ("_law_world", none)) fd := T.def_ 40 rfl
theorem Tx.fsLawTrimmed (T : Tx K mg) : ∃ fd, FunD K "_law_trimmed" "_law_trimmed" (defArgs sLawTrimmed) (defBody sLawTrimmed) (defScope sLawTrimmed) (DefD.dvs K dLawTrimmed) (DefD.kws K dLawTrimmed) (He.fAd K ("_law_trimmed", none)) fd := T.def_ 41 rfl
theorem Tx.fsLawMoved (T : Tx K mg) : ∃ fd, FunD K "_law_moved" "_law_moved" (defArgs sLawMoved) (defBody sLawMoved) (defScope sLawMoved) (DefD.dvs K dLawMoved) (DefD.kws K dLawMoved) (He.fAd K ("_law_moved", none)) fd := T.def_ 42 rfl
theorem Tx.fsLawAhead (T : Tx K mg) : ∃ fd, FunD K "_law_ahead" "_law_ahead" (defArgs sLawAhead) (defBody sLawAhead) (defScope sLawAhead) (DefD.dvs K dLawAhead) (DefD.kws K dLawAhead) (He.fAd K ("_law_ahead", none)) fd := T.def_ 43 rfl
theorem Tx.fsLawDue (T : Tx K mg) : ∃ fd, FunD K "_law_due" "_law_due" (defArgs sLawDue) (defBody sLawDue) (defScope sLawDue) (DefD.dvs K dLawDue) (DefD.kws K dLawDue) (He.fAd K ("_law_due", none)) fd := T.def_ 44 rfl
theorem Tx.fsLawPick (T : Tx K mg) : ∃ fd, FunD K "_law_pick" "_law_pick" (defArgs sLawPick) (defBody sLawPick) (defScope sLawPick) (DefD.dvs K dLawPick) (DefD.kws K dLawPick) (He.fAd K ("_law_pick", none)) fd := T.def_ 45 rfl
theorem Tx.fsLawTally (T : Tx K mg) : ∃ fd, FunD K "_law_tally" "_law_tally" (defArgs sLawTally) (defBody sLawTally) (defScope sLawTally) (DefD.dvs K dLawTally) (DefD.kws K dLawTally) (He.fAd K ("_law_tally", none)) fd := T.def_ 46 rfl
theorem Tx.fsLawDeed (T : Tx K mg) : ∃ fd, FunD K "_law_deed" "_law_deed" (defArgs sLawDeed) (defBody sLawDeed) (defScope sLawDeed) (DefD.dvs K dLawDeed) (DefD.kws K dLawDeed) (He.fAd K ("_law_deed", none)) fd := T.def_ 47 rfl
theorem Tx.fsLawMove (T : Tx K mg) : ∃ fd, FunD K "_law_move" "_law_move" (defArgs sLawMove) (defBody sLawMove) (defScope sLawMove) (DefD.dvs K dLawMove) (DefD.kws K dLawMove) (He.fAd K ("_law_move", none)) fd := T.def_ 48 rfl
theorem Tx.fsLawRead (T : Tx K mg) : ∃ fd, FunD K "_law_read" "_law_read" (defArgs sLawRead) (defBody sLawRead) (defScope sLawRead) (DefD.dvs K dLawRead) (DefD.kws K dLawRead) (He.fAd K ("_law_read", none)) fd := T.def_ 49 rfl
theorem Tx.fsLawAge (T : Tx K mg) : ∃ fd, FunD K "_law_age" "_law_age" (defArgs sLawAge) (defBody sLawAge) (defScope sLawAge) (DefD.dvs K dLawAge) (DefD.kws K dLawAge) (He.fAd K ("_law_age", none)) fd := T.def_ 50 rfl
theorem Tx.fsLawDepth (T : Tx K mg) : ∃ fd, FunD K "_law_depth" "_law_depth" (defArgs sLawDepth) (defBody sLawDepth) (defScope sLawDepth) (DefD.dvs K dLawDepth) (DefD.kws K dLawDepth) (He.fAd K ("_law_depth", none)) fd := T.def_ 51 rfl
theorem Tx.fsLawKept (T : Tx K mg) : ∃ fd, FunD K "_law_kept" "_law_kept" (defArgs sLawKept) (defBody sLawKept) (defScope sLawKept) (DefD.dvs K dLawKept) (DefD.kws K dLawKept) (He.fAd K ("_law_kept", none)) fd := T.def_ 52 rfl
theorem Tx.fsLawTurn (T : Tx K mg) : ∃ fd, FunD K "_law_turn" "_law_turn" (defArgs sLawTurn) (defBody sLawTurn) (defScope sLawTurn) (DefD.dvs K dLawTurn) (DefD.kws K dLawTurn) (He.fAd K ("_law_turn", none)) fd := T.def_ 53 rfl
theorem Tx.fsLaw (T : Tx K mg) : ∃ fd, FunD K "law" "law" (defArgs sLaw) (defBody sLaw) (defScope sLaw) (DefD.dvs K dLaw) (DefD.kws K dLaw) (He.fAd K ("law", none)) fd := T.def_ 54 rfl
end
end K12

set_option Elab.async false
set_option linter.all false
set_option maxRecDepth 100000
set_option maxHeartbeats 4000000
namespace K12
open PySem PySem.Spec PyProof.Rows L2
section
variable {K : PySem.W.Frag} {mg : Str → Option Value}
theorem Tx.ex (T : Tx K mg) : (excB K "KeyLimit" "most" = true ∧ excB K "UnknownKey" "key" = true ∧ excB K "BadChoice" "choice" = true ∧ excB K "Stalled" "deeds" = true) ∧
    (excF K "KeyLimit" "KeyLimit.__init__" = true ∧ excF K "UnknownKey" "UnknownKey.__init__" = true ∧ excF K "BadChoice" "BadChoice.__init__" = true ∧ excF K "Stalled" "Stalled.__init__" = true) ∧
    XfC K (He.ga K "UnknownKey") ∧ PySem.W.nsIn K cStatics "thirdparty.any" = some none ∧
    (clsSpec K "Ring" "__len__" = true ∧ clsSpec K "Ring" "__contains__" = true ∧ clsSpec K "Round" "__len__" = true ∧ clsSpec K "Round" "__add__" = true) ∧
    PySem.W.selfFirst K (He.ga K "Round") = true ∧ ClX.CRead K (He.ga K "Round") (.type "type") ∧ isiB K (He.ga K "Round") = true ∧
    ∃ t, ClX.CVal K (He.ga K "Round") (.type "type") "MOST" (.int 12) (.int 12 t) := by
  have h := T.more
  unfold exB at h
  obtain ⟨a1, h⟩ := ba h
  obtain ⟨a2, h⟩ := ba h
  obtain ⟨a3, h⟩ := ba h
  obtain ⟨a4, h⟩ := ba h
  obtain ⟨b1, h⟩ := ba h
  obtain ⟨b2, h⟩ := ba h
  obtain ⟨b3, h⟩ := ba h
  obtain ⟨b4, h⟩ := ba h
  obtain ⟨c1, h⟩ := ba h
  obtain ⟨c2, h⟩ := ba h
  obtain ⟨d1, h⟩ := ba h
  obtain ⟨d2, h⟩ := ba h
  obtain ⟨d3, h⟩ := ba h
  obtain ⟨d4, h⟩ := ba h
  obtain ⟨e1, h⟩ := ba h
  obtain ⟨e2, h⟩ := ba h
  obtain ⟨e3, h⟩ := ba h
  obtain ⟨e4, h⟩ := ba h
  refine ⟨⟨a1, a2, a3, a4⟩, ⟨b1, b2, b3, b4⟩, xfB_ok c1, of_decide_eq_true c2, ⟨d1, d2, d3, d4⟩, e1, ⟨e2, of_decide_eq_true e3⟩, e4, ?_⟩
  cases q : PySem.W.findCls K (.ref (He.ga K "Round")) (.type "type") "MOST" with
  | none => rw [q] at h; cases h
  | some r =>
    rw [q] at h
    cases r with
    | val u =>
      cases u with
      | int i t =>
        by_cases e : i = 12
        · subst e
          exact ⟨t, q, ⟨t, rfl⟩⟩
        · exfalso
          split at h
          · rename_i z
            injection z with z
            injection z with z
            injection z with z
            exact e z
          · cases h
      | _ => cases h
    | _ => cases h
theorem Tx.eKL (T : Tx K mg) : ExT K (He.ga K "KeyLimit") (He.ma K (He.ga K "KeyLimit") "__init__") "most" sKeyLimitInit "KeyLimit.__init__" :=
  ext_of T.ex.1.1 T.ex.2.1.1 (by have h := T.exc; injection h) T.ex.2.2.2.1
theorem Tx.eUK (T : Tx K mg) : ExT K (He.ga K "UnknownKey") (He.ma K (He.ga K "UnknownKey") "__init__") "key" sUnknownKeyInit "UnknownKey.__init__" :=
  ext_of T.ex.1.2.1 T.ex.2.1.2.1 (by have h := T.exc; injection h with _ h; injection h) T.ex.2.2.2.1
theorem Tx.eBC (T : Tx K mg) : ExT K (He.ga K "BadChoice") (He.ma K (He.ga K "BadChoice") "__init__") "choice" sBadChoiceInit "BadChoice.__init__" :=
  ext_of T.ex.1.2.2.1 T.ex.2.1.2.2.1 (by have h := T.exc; injection h with _ h; injection h with _ h; injection h) T.ex.2.2.2.1
theorem Tx.eST (T : Tx K mg) : ExT K (He.ga K "Stalled") (He.ma K (He.ga K "Stalled") "__init__") "deeds" sStalledInit "Stalled.__init__" :=
  ext_of T.ex.1.2.2.2 T.ex.2.1.2.2.2 (by have h := T.exc; injection h with _ h; injection h with _ h; injection h with _ h; injection h) T.ex.2.2.2.1
theorem isi_of {C : Addr} {H : Hp} {a dx : Addr} {fs : List (Str × V)} (h : isiB K C = true) (c : Cls K C) (e : H a = some (.ins C dx fs)) : TyX K H (.ref a) (.ref C) := by
  obtain ⟨h1, h⟩ := ba h
  obtain ⟨h2, h⟩ := ba h
  obtain ⟨h3, h4⟩ := ba h
  exact .base (.ins e c (of_decide_eq_true h1) (of_decide_eq_true h2) (of_decide_eq_true h3) (of_decide_eq_true h4))
theorem spec_of {x m : Str} (h : clsSpec K x m = true) : PySem.W.isFn K (.ref (He.ma K (He.ga K x) m)) = true ∧ PySem.W.findIn K (.ref (He.ga K x)) m = some (some (.ref (He.ma K (He.ga K x) m))) :=
  ⟨(ba h).1, of_decide_eq_true (ba h).2⟩
end
theorem small_int {i : Int} (h : i.natAbs < 10 ^ 30) : i.natAbs.log2 < 1920 := by
  by_cases z : i.natAbs = 0
  · rw [z]; decide
  · exact Nat.lt_of_lt_of_le ((Nat.log2_lt z).mpr (Nat.lt_of_lt_of_le h (show 10 ^ 30 ≤ 2 ^ 100 by decide))) (by decide)
theorem small_text {i : Int} (h : i.natAbs < 10 ^ 30) : (Str.ofString (toString i)).length ≤ 31 := by
  rw [PySem.ofString_length]
  exact int_text_length_le10 (by decide) h
theorem text_room {x y : Str} {a b : Nat} (h1 : x.length ≤ a) (h2 : y.length ≤ b) (h : a + b ≤ 1000) : (x ++ y).length ≤ sizeLine ∧ (x ++ y).length ≤ a + b := by
  rw [strLen_append]
  have : (1000 : Nat) ≤ sizeLine := by decide
  omega
/-- what such a class's `__init__` takes -/
def okInt : V → Prop := fun v => ∃ i : Int, v = .int i ∧ i.natAbs < 10 ^ 30
def okStr : V → Prop := fun v => ∃ y : Str, v = .str y ∧ (reprText y).length ≤ 300
section
variable {w : World} {K : PySem.W.Frag} {mg : Str → Option Value} {base : Heap}
theorem free1 {l : List (Str × NameKind)} (h : l.all (fun y => y.2 != .cell && (y.2 != .free || decide (y.1 = "__class__"))) = true) :
    (∀ y, l.lookup y = some .cell ∨ l.lookup y = some .free → y = ("__class__" : Str)) ∧ ∀ y ∈ l, y.2 ≠ .cell := by
  have key : ∀ y ∈ l, y.2 ≠ .cell ∧ (y.2 = .free → y.1 = ("__class__" : Str)) := fun y hy => by
    obtain ⟨a, b⟩ := ba (List.all_eq_true.mp h y hy)
    refine ⟨fun z => (by rw [z] at a; cases a), fun z => ?_⟩
    rw [z] at b
    exact of_decide_eq_true b
  refine ⟨fun y hy => ?_, fun y hy => (key y hy).1⟩
  rcases hy with q | q
  · exact absurd rfl (key _ (PySem.mem_of_lookup q)).1
  · exact (key _ (PySem.mem_of_lookup q)).2 rfl
theorem okKL (T : Tx K mg) : ∃ fd : FuncData, Binds K fd ["self", "most"] [] ∧
    FnOk pg w K mg base (L2.CX pg w) 1 (He.ma K (He.ga K "KeyLimit") "__init__") fd ["self", "most"] (spExI (He.ga K "KeyLimit") "most" okInt) := by
  obtain ⟨f1, f2⟩ := free1 (l := (defScope sKeyLimitInit).names) (by decide +kernel)
  refine exc_ok T.eKL T.n_super rfl rfl rfl rfl rfl rfl rfl rfl f1 f2 (by decide +kernel) (by decide +kernel) (by decide +kernel) ⟨_, rfl, rfl⟩ (by decide +kernel) (fun cda cc A outer s H => ?_) (fun _ _ _ _ _ _ _ us hl => match us, hl with | [_, _], _ => rfl)
  refine ⟨_, pe_joined (PJ.cons pe_str (PJ.cons (pe_fmt (pv 1)) (PJ.cons pe_str PJ.nil))), fun a v H1 Q hok z => ?_, rfl⟩
  obtain ⟨i, rfl, hi⟩ := hok
  have t1 := text_room (x := Str.empty) (y := ("no more than " : Str)) (a := 0) (b := 13) (by decide +kernel) (by decide +kernel) (by decide)
  have t2 := text_room t1.2 (small_text hi) (by decide)
  have t3 := text_room t2.2 (show ((" keys may live" : Str)).length ≤ 14 by decide +kernel) (by decide)
  exact ⟨_, rfl, t1.1, _, rfl, .inr ⟨i, rfl, small_int hi, _, rfl, t2.1, _, rfl, t3.1, z _⟩⟩
theorem okST (T : Tx K mg) : ∃ fd : FuncData, Binds K fd ["self", "deeds"] [] ∧
    FnOk pg w K mg base (L2.CX pg w) 1 (He.ma K (He.ga K "Stalled") "__init__") fd ["self", "deeds"] (spExI (He.ga K "Stalled") "deeds" okInt) := by
  obtain ⟨f1, f2⟩ := free1 (l := (defScope sStalledInit).names) (by decide +kernel)
  refine exc_ok T.eST T.n_super rfl rfl rfl rfl rfl rfl rfl rfl f1 f2 (by decide +kernel) (by decide +kernel) (by decide +kernel) ⟨_, rfl, rfl⟩ (by decide +kernel) (fun cda cc A outer s H => ?_) (fun _ _ _ _ _ _ _ us hl => match us, hl with | [_, _], _ => rfl)
  refine ⟨_, pe_joined (PJ.cons pe_str (PJ.cons (pe_fmt (pv 1)) (PJ.cons pe_str PJ.nil))), fun a v H1 Q hok z => ?_, rfl⟩
  obtain ⟨i, rfl, hi⟩ := hok
  have t1 := text_room (x := Str.empty) (y := ("no free place after " : Str)) (a := 0) (b := 20) (by decide +kernel) (by decide +kernel) (by decide)
  have t2 := text_room t1.2 (small_text hi) (by decide)
  have t3 := text_room t2.2 (show ((" completed deeds" : Str)).length ≤ 16 by decide +kernel) (by decide)
  exact ⟨_, rfl, t1.1, _, rfl, .inr ⟨i, rfl, small_int hi, _, rfl, t2.1, _, rfl, t3.1, z _⟩⟩
theorem okUK (T : Tx K mg) : ∃ fd : FuncData, Binds K fd ["self", "key"] [] ∧
    FnOk pg w K mg base (L2.CX pg w) 1 (He.ma K (He.ga K "UnknownKey") "__init__") fd ["self", "key"] (spExI (He.ga K "UnknownKey") "key" okStr) := by
  obtain ⟨f1, f2⟩ := free1 (l := (defScope sUnknownKeyInit).names) (by decide +kernel)
  refine exc_ok T.eUK T.n_super rfl rfl rfl rfl rfl rfl rfl rfl f1 f2 (by decide +kernel) (by decide +kernel) (by decide +kernel) ⟨_, rfl, rfl⟩ (by decide +kernel) (fun cda cc A outer s H => ?_) (fun _ _ _ _ _ _ _ us hl => match us, hl with | [_, _], _ => rfl)
  refine ⟨_, pe_joined (PJ.cons pe_str (PJ.cons (pe_fmtR (pv 1)) PJ.nil)), fun a v H1 Q hok z => ?_, rfl⟩
  obtain ⟨y, rfl, hy⟩ := hok
  have t1 := text_room (x := Str.empty) (y := ("unknown key: " : Str)) (a := 0) (b := 13) (by decide +kernel) (by decide +kernel) (by decide)
  have t2 := text_room t1.2 hy (by decide)
  exact ⟨_, rfl, t1.1, _, rfl, .inl ⟨y, rfl, Nat.le_trans hy (by decide), _, rfl, t2.1, z _⟩⟩
theorem okBC (T : Tx K mg) : ∃ fd : FuncData, Binds K fd ["self", "choice"] [] ∧
    FnOk pg w K mg base (L2.CX pg w) 1 (He.ma K (He.ga K "BadChoice") "__init__") fd ["self", "choice"] (spExI (He.ga K "BadChoice") "choice" fun _ => True) := by
  obtain ⟨f1, f2⟩ := free1 (l := (defScope sBadChoiceInit).names) (by decide +kernel)
  refine exc_ok T.eBC T.n_super rfl rfl rfl rfl rfl rfl rfl rfl f1 f2 (by decide +kernel) (by decide +kernel) (by decide +kernel) ⟨_, rfl, rfl⟩ (by decide +kernel) (fun cda cc A outer s H => ?_) (fun _ _ _ _ _ _ _ us hl => match us, hl with | [_, _], _ => rfl)
  exact ⟨_, pe_str, fun a v H1 Q hok z => z _, rfl⟩
end
/-! ### raise C(e) -/
theorem del_upd {H1 : Hp} {a d : Addr} {x y z u : HO} (n : H1 a = none) (hda : d ≠ a) : upd (del (upd (upd (upd H1 a x) d y) a z) a) d u = upd H1 d u := by
  funext b
  by_cases hb : b = d
  · subst hb; rw [upd_same, upd_same]
  · rw [upd_ne hb, upd_ne hb]
    by_cases ha : b = a
    · subst ha; rw [del_same, n]
    · rw [del_ne ha, upd_ne ha, upd_ne hb, upd_ne ha]
/-- what is asked at the raise: v fits the class, W holds of the error with its one field -/
def RC (C : Addr) (f : Str) (ok : V → Prop) (W : WX) (σ : L2.St) (v : V) (H1 : Hp) : Prop := tMkO C (spExI C f ok) [] (fun _ H Q => Q [v] H) σ H1 fun cls d H' => W cls d σ H'
theorem RC.of {C : Addr} {f : Str} {ok : V → Prop} {W : WX} {σ : L2.St} {v : V} {H1 : Hp} (h1 : ok v) (h : ∀ d, H1 d = none → W (.ref C) (some d) σ (upd H1 d (.xd [(f, v)]))) : RC C f ok W σ v H1 := by
  refine ⟨(by show 1 ≤ 1000; decide), fun a na => ⟨a, v, rfl, h1, upd_same, fun dx hdx ne => ?_⟩⟩
  have nd : H1 dx = none := by rw [upd_ne ne] at hdx; exact hdx
  refine ⟨rfl, dx, [(f, v)], upd_same, by rw [upd_ne ne, upd_same], nd, ?_⟩
  rw [del_upd na ne]
  exact h dx nd
def tRaise (C : Addr) (f : Str) (ok : V → Prop) (W : WX) (te : TE) : TS := fun _ σ H => te σ H fun v H1 => RC C f ok W σ v H1
theorem ps_raiseE {X : Cx} {W : WX} {x f qual : Str} {C fI : Addr} {k : Nat} {fd : FuncData} {st : Stmt} {ok : V → Prop} {e : Expr} {te : TE} {p pos pos' : Pos} (T : ExT X.K C fI f st qual)
    (F : FnOk X.prog X.w X.K X.mg X.base (L2.CX X.prog X.w) k fI fd ["self", f] (spExI C f ok)) (hb : Binds X.K fd ["self", f] []) (hr : Room (k + 1) X.A) (hm : X.mg x = some (.ref C)) (hc : X.calm = true) (tk : Takes X W) (he : PE X e te)
    (hg : Gl X x := by rfl) (hdb : (x == ("__debug__" : Str)) = false := by decide) (hst : starEach [e] X.env = (false, eval e X.env) :: starEach [] X.env := by rfl) :
    PS X (.Raise (some (.Call (.Name x p) [e] [] pos)) none pos') (tRaise C f ok W te) := by
  have mk := pmk_oex (X := X) (p := p) (pos := pos) T.cls T.ini T.tyI F hr hb .nil passL hg hm (pa_cons he pa_nil hst) hdb hst rfl
  have ps := ps_raise (pos := pos') hc tk mk
  exact ⟨fun pins s σ H D I h => ps.run pins s σ H D I h⟩
end K12

set_option Elab.async false
set_option linter.all false
set_option maxRecDepth 100000
set_option maxHeartbeats 4000000
namespace K12
open PySem PySem.Spec PyProof.Rows L2
/-! ## repr of lists of pairs, of dicts, of pairs -/
def dPair (p : Str × Int) : PyData := .tuple [.str p.1, .int p.2]
def dPL (ps : List (Str × Int)) : PyData := .list (ps.map dPair)
def dPD (ps : List (Str × Int)) : PyData := .dict (ps.map fun p => (.str p.1, .int p.2))
def dTS (x y : Str) : PyData := .tuple [.str x, .str y]
def dTI (x : Str) (i : Int) : PyData := .tuple [.str x, .int i]
/-- what may stand at a -/
def Shows (K : PySem.W.Frag) (H : Hp) (a : Addr) (d : PyData) : Prop := d.showable = true ∧ d.depth ≤ 8 ∧ d.shown.length ≤ sizeLine ∧
  ((d.hasDict = false ∧ Dp K H (.ref a) d) ∨ ∃ ps : List (Str × Int), d = dPD ps ∧ H a = some (.dK (ps.map fun p => ((.inr p.1 : Key), V.int p.2))))
theorem pd_reads {P : Program} {w : World} : ∀ {es : List DictEntry} {ps : List (Str × Int)} {vs : List (Key × Value)} {h : Heap}, KV (ps.map fun p => ((.inr p.1 : Key), V.int p.2)) vs → Pairs (mixKind P w) es vs →
    ReadsAll h (es.map (·.key)) (ps.map fun p => PyData.str p.1) [] ∧ ReadsAll h (es.map (·.val)) (ps.map fun p => PyData.int p.2) []
  | es, [], vs, h, kv, pr => by
    cases kv
    cases pr
    exact ⟨.nil, .nil⟩
  | es, p :: ps, vs, h, kv, pr => by
    cases kv with
    | cons k1 k2 =>
      rename_i q qs
      cases pr with
      | cons pk pv p2 =>
        rename_i en er
        obtain ⟨r1, r2⟩ := pd_reads (h := h) k2 p2
        obtain ⟨e1, t2, e2'⟩ := k1
        have hk : keyIs q.1 en.key = true := pk
        rw [← e1] at hk
        have hk2 : Value.isStrOf p.1 en.key = true := hk
        obtain ⟨t, ek⟩ := Value.isStrOf_shape hk2
        refine ⟨?_, ?_⟩
        · have z := ReadsAll.cons (Reads.str (h := h) p.1 t) r1
          rw [← ek] at z
          exact z
        · have z := ReadsAll.cons (Reads.int (h := h) p.2 t2) r2
          rw [← e2', ← pv] at z
          exact z
theorem call_repr {X : Cx} (hgd : X.A.guards = some []) (hu : X.A.units + 64 < cLine) : CallR X (.builtin "repr") (fun xs H Q => ∃ a d, xs = [V.ref a] ∧ Shows X.K H a d ∧ Q (.str d.shown) H) := by
  intro pins s σ H xs us Q I r h
  obtain ⟨a, d, rfl, ⟨h1, h2, h3, h4⟩, q⟩ := h
  obtain ⟨u, rfl, ru⟩ := r.one
  cases (show u = Value.ref a from ru)
  have fin : ∀ as, Reads s.heap (.ref a) d as → (d.hasDict = true → sysModules ∉ as) → wpAny (model X.prog X.w) X.A (call (.builtin "repr") [.ref a]) (EP X pins σ Q) X.xe s := fun as rd hsm =>
    repr_of_reads' rd h1 hsm hgd (by omega) (fun _ _ e => e) (fun h' u tk hk => ⟨.str d.shown, H, I.kept hk, ⟨u, rfl⟩, q⟩) h3
  rcases h4 with ⟨hnd, hD⟩ | ⟨ps, rfl, hD⟩
  · obtain ⟨as, rd⟩ := Dp.reads I d _ _ hD rfl
    exact fin as rd fun z => by rw [hnd] at z; cases z
  · obtain ⟨z1, z2, vs, kv, o, es, ep, ho, hx, hd, hk, hp, hn⟩ := dk_of I.hok hD
    obtain ⟨r1, r2⟩ := pd_reads (h := s.heap) kv hp
    have rd : Reads s.heap (.ref a) (dPD ps) (a :: [] ++ []) := Reads.dict ho hx.1 hd (by rw [List.map_map]; exact r1) (by rw [List.map_map]; exact r2)
    refine fin _ rd fun _ hm => ?_
    have e : sysModules = a := by simpa using hm
    rw [e] at z2
    simp at z2
/-- keys and values of bounded size -/
def OkP (p : Str × Int) : Prop := p.1.length ≤ 12 ∧ (∀ c ∈ p.1.cps.toList, c < 16 ^ 8) ∧ p.2.natAbs < 10 ^ 30
theorem int_short {i : Int} (h : i.natAbs < 10 ^ 30) : (PyData.shown (.int i)).length ≤ 31 := small_text h
theorem int_weight {i : Int} (h : i.natAbs < 10 ^ 30) : PyData.weight (.int i) ≤ 101 := by
  simp only [PyData.weight]
  split
  · omega
  · have := small_int h
    have : i.natAbs.log2 < 100 := by
      by_cases z : i.natAbs = 0
      · rw [z]; decide
      · exact (Nat.log2_lt z).mpr (Nat.lt_of_lt_of_le h (by decide))
    omega
theorem pl_facts : ∀ ps : List (Str × Int), (∀ p ∈ ps, OkP p) → PyData.showableAll (ps.map dPair) = true ∧ PyData.hasDictAll (ps.map dPair) = false ∧ PyData.depthAll (ps.map dPair) ≤ 1 ∧
    PyData.leavesShortAll 31 (ps.map dPair) = true ∧ PyData.weightAll (ps.map dPair) ≤ 120 * ps.length
  | [], _ => ⟨rfl, rfl, by decide, rfl, by decide⟩
  | p :: ps, h => by
    obtain ⟨h1, h2, h3⟩ := h p List.mem_cons_self
    obtain ⟨i1, i2, i3, i4, i5⟩ := pl_facts ps fun q hq => h q (List.mem_cons_of_mem _ hq)
    have s1 := small_int h3
    have s2 := int_short h3
    have s3 := int_weight h3
    have e : p.1.length = p.1.cps.size := rfl
    simp only [List.map_cons, PyData.showableAll, PyData.hasDictAll, PyData.depthAll, PyData.leavesShortAll, PyData.weightAll, dPair, PyData.showable, PyData.hasDict, PyData.depth, PyData.leavesShort, i1, i2, i4, s1, s2, decide_true, Bool.and_true, Bool.true_and, Bool.or_false, List.length_cons]
    refine ⟨trivial, trivial, by omega, ?_, ?_⟩
    · exact List.all_eq_true.mpr fun c hc => decide_eq_true (h2 c hc)
    · have w1 : PyData.weight (.tuple [.str p.1, .int p.2]) = p.1.cps.size + 1 + (PyData.weight (.int p.2) + 1 + 0) := rfl
      have w2 : PyData.weight (.tuple [.str p.1, .int p.2]) ≤ 12 + 1 + (101 + 1 + 0) := by rw [w1]; omega
      have w3 : PyData.weightAll [.str p.1, .int p.2] = PyData.weight (.tuple [.str p.1, .int p.2]) := rfl
      simp only [PyData.weightAll] at w2 w3 ⊢
      omega
theorem fits31 {d : PyData} (h1 : d.leavesShort 31 = true) (h2 : d.weight ≤ 20000) : d.shown.length ≤ sizeLine := by
  have h := PyData.shown_le 31 (by decide) d h1
  have h3 : (31 + 2) * d.weight ≤ 33 * 20000 := Nat.mul_le_mul (by decide) h2
  rw [sizeLine_eq]
  omega
theorem dp_all {K : PySem.W.Frag} {H : Hp} : ∀ {as : List Addr} {ps : List (Str × Int)}, Paired (fun a (p : Str × Int) => SqT K H a [.str p.1, .int p.2]) as ps → DpAll K H (as.map V.ref) (ps.map dPair)
  | _, _, .nil => .nil
  | _, _, .cons h r => .cons (.tup h (.cons (.str _) (.cons (.int _) .nil))) (dp_all r)
theorem shows_list {K : PySem.W.Frag} {H : Hp} {l : Addr} {as : List Addr} {ps : List (Str × Int)} (hl : SqL K H l (as.map V.ref))
    (hp : Paired (fun a (p : Str × Int) => SqT K H a [.str p.1, .int p.2]) as ps) (ok : ∀ p ∈ ps, OkP p) (hz : ps.length ≤ 100) : Shows K H l (dPL ps) := by
  obtain ⟨i1, i2, i3, i4, i5⟩ := pl_facts ps ok
  refine ⟨i1, ?_, fits31 i4 ?_, .inl ⟨i2, .lst hl (dp_all hp)⟩⟩
  · show PyData.depthAll (ps.map dPair) + 1 ≤ 8
    omega
  · show PyData.weightAll (ps.map dPair) ≤ 20000
    omega
theorem pd_facts : ∀ ps : List (Str × Int), (∀ p ∈ ps, OkP p) → PyData.showableKv (ps.map fun p => (PyData.str p.1, PyData.int p.2)) = true ∧ PyData.depthKv (ps.map fun p => (PyData.str p.1, PyData.int p.2)) = 0 ∧
    PyData.leavesShortKv 31 (ps.map fun p => (PyData.str p.1, PyData.int p.2)) = true ∧ PyData.weightKv (ps.map fun p => (PyData.str p.1, PyData.int p.2)) ≤ 120 * ps.length
  | [], _ => ⟨rfl, rfl, rfl, by decide⟩
  | p :: ps, h => by
    obtain ⟨h1, h2, h3⟩ := h p List.mem_cons_self
    obtain ⟨i1, i3, i4, i5⟩ := pd_facts ps fun q hq => h q (List.mem_cons_of_mem _ hq)
    have s1 := small_int h3
    have s2 := int_short h3
    have s3 := int_weight h3
    have e : p.1.length = p.1.cps.size := rfl
    simp only [List.map_cons, PyData.showableKv, PyData.depthKv, PyData.leavesShortKv, PyData.weightKv, PyData.showable, PyData.depth, PyData.leavesShort, i1, i3, i4, s1, s2, decide_true, Bool.and_true, List.length_cons]
    refine ⟨trivial, by omega, ?_, ?_⟩
    · exact List.all_eq_true.mpr fun c hc => decide_eq_true (h2 c hc)
    · have w1 : PyData.weight (.str p.1) = p.1.cps.size := rfl
      omega
theorem shows_dict {K : PySem.W.Frag} {H : Hp} {d : Addr} {ps : List (Str × Int)} (hd : H d = some (.dK (ps.map fun p => ((.inr p.1 : Key), V.int p.2)))) (ok : ∀ p ∈ ps, OkP p) (hz : ps.length ≤ 100) : Shows K H d (dPD ps) := by
  obtain ⟨i1, i3, i4, i5⟩ := pd_facts ps ok
  refine ⟨i1, ?_, fits31 i4 ?_, .inr ⟨ps, rfl, hd⟩⟩
  · show PyData.depthKv (ps.map fun p => (PyData.str p.1, PyData.int p.2)) + 1 ≤ 8
    omega
  · show PyData.weightKv (ps.map fun p => (PyData.str p.1, PyData.int p.2)) ≤ 20000
    omega
def OkS (x : Str) : Prop := x.length ≤ 12 ∧ ∀ c ∈ x.cps.toList, c < 16 ^ 8
theorem shows_ts {K : PySem.W.Frag} {H : Hp} {t : Addr} {x y : Str} (ht : SqT K H t [.str x, .str y]) (hx : OkS x) (hy : OkS y) : Shows K H t (dTS x y) := by
  refine ⟨rfl, ?_, fits31 ?_ ?_, .inl ⟨rfl, .tup ht (.cons (.str _) (.cons (.str _) .nil))⟩⟩
  · show 0 + 1 ≤ 8
    omega
  · show (x.cps.toList.all (fun c => decide (c < 16 ^ 8)) && (y.cps.toList.all (fun c => decide (c < 16 ^ 8)) && true)) = true
    rw [List.all_eq_true.mpr fun c hc => decide_eq_true (hx.2 c hc), List.all_eq_true.mpr fun c hc => decide_eq_true (hy.2 c hc)]
    rfl
  · have a1 : x.cps.size ≤ 12 := hx.1
    have a2 : y.cps.size ≤ 12 := hy.1
    show x.cps.size + 1 + (y.cps.size + 1 + 0) ≤ 20000
    omega
theorem shows_ti {K : PySem.W.Frag} {H : Hp} {t : Addr} {x : Str} {i : Int} (ht : SqT K H t [.str x, .int i]) (hx : OkS x) (hi : i.natAbs < 10 ^ 30) : Shows K H t (dTI x i) := by
  refine ⟨?_, ?_, fits31 ?_ ?_, .inl ⟨rfl, .tup ht (.cons (.str _) (.cons (.int _) .nil))⟩⟩
  · show (true && (decide (i.natAbs.log2 < 1920) && true)) = true
    rw [decide_eq_true (small_int hi)]
    rfl
  · show 0 + 1 ≤ 8
    omega
  · show (x.cps.toList.all (fun c => decide (c < 16 ^ 8)) && (decide ((PyData.shown (.int i)).length ≤ 31) && true)) = true
    rw [List.all_eq_true.mpr fun c hc => decide_eq_true (hx.2 c hc), decide_eq_true (int_short hi)]
    rfl
  · have a1 : x.cps.size ≤ 12 := hx.1
    have a2 := int_weight hi
    show x.cps.size + 1 + (PyData.weight (.int i) + 1 + 0) ≤ 20000
    omega
end K12

set_option Elab.async false
set_option linter.all false
set_option maxRecDepth 100000
set_option maxHeartbeats 4000000
namespace K12
open PySem PySem.Spec PyProof.Rows L2 GenW
/-! ## a for loop in a generator's body -/
section
variable {prog : Program} {w : World} {A : Around} {R : GenEnd} {Y : Protocol} {n : Nat} {s₀ : Shared} {c : Code} {fs : List Frame} {s : Shared} {env : Env}
  {K : Flow → Sem PySem.Fin} {J : Value → Sem PySem.Fin} {gd : Bool → Bool} {lv : List Value → List Value}
/-- what the tree does with an error that passes a loop's frame -/
def passBy (env : Env) (x : Value) : Sem PySem.Fin := (do noteFrame x env; theTreesLotGoes x : Sem Unit).wrap (fun _ => .raise x) .raise id id
theorem seg_for {tg iter : Expr} {body : List Stmt} {pos : Pos} (hs : ∀ x, foldedSetIterable iter env x = pure x)
    (h : wpAny (model prog w) (A.over c fs) (eval iter env) (fun v s1 => wpAny (model prog w) (A.over c fs) (pyIter v) (fun it s2 =>
      Seg (model prog w) A R Y n s₀ c ((runOwn (.forLoop tg it body [] env) env).wrap K J gd lv) fs s2) (fun x s' => Seg (model prog w) A R Y n s₀ c (J x) fs s') s1)
      (fun x s' => Seg (model prog w) A R Y n s₀ c (J x) fs s') s) :
    Seg (model prog w) A R Y n s₀ c ((exec (.For tg iter body [] pos) env).wrap K J gd lv) fs s := by
  have e : exec (.For tg iter body [] pos) env = (standAt pos >>= fun _ => eval iter env >>= fun v => foldedSetIterable iter env v >>= fun x =>
      standAt iter.pos >>= fun _ => holding [x] (pyIter x)) >>= fun it => runOwn (.forLoop tg it body [] env) env := by
    rw [exec_For]
    simp only [bind_assoc]
  rw [e]
  refine seg_bind_wrap ?_
  exact wpAny_bind (wpAny_standAt (wpAny_bind (wpAny_mono h (fun v s1 h1 => wpAny_bind (wpAny_of_eq (hs v) (wpAny_bind (wpAny_standAt (wpAny_holding h1))))) fun _ _ z => z)))
theorem seg_forRun {tg : Expr} {it : Value} {body : List Stmt}
    (h : ∀ p, Seg (model prog w) A R Y n s₀ (.forLoop tg it body [] env) ((model prog w).den (.forLoop tg it body [] env))
      (.ret (fun r => ((match r with | .ok f => (.pure f : Sem Flow) | .error e => .raise e).onRaise (cameBack env)).wrap K J gd lv) none (gd false) (lv []) c p [] :: fs) s) :
    Seg (model prog w) A R Y n s₀ c ((runOwn (.forLoop tg it body [] env) env).wrap K J gd lv) fs s := seg_call h
theorem seg_forTurn {tg : Expr} {it : Value} {body : List Stmt}
    (h : wpAny (model prog w) (A.over (.forLoop tg it body [] env) fs) (pyNext it) (fun r s1 => match r with
      | none => Seg (model prog w) A R Y n s₀ (.forLoop tg it body [] env) (.pure (.again (.block [] env))) fs s1
      | some v => wpAny (model prog w) (A.over (.forLoop tg it body [] env) fs) (letOwnedTupleGo tg it v) (fun _ s2 =>
          wpAny (model prog w) (A.over (.forLoop tg it body [] env) fs) (assign tg env v) (fun _ s3 =>
            Seg (model prog w) A R Y n s₀ (.forLoop tg it body [] env) ((execs body env).wrap (fun f => match f with
              | .next | .cont => .pure (.again (.forLoop tg it body [] env))
              | .brk => .pure (.done .next)
              | .ret v => .pure (.done (.ret v))) (passBy env) id id) fs s3)
            (fun x s' => Seg (model prog w) A R Y n s₀ (.forLoop tg it body [] env) (passBy env x) fs s') s2)
          (fun x s' => Seg (model prog w) A R Y n s₀ (.forLoop tg it body [] env) (passBy env x) fs s') s1)
      (fun x s' => Seg (model prog w) A R Y n s₀ (.forLoop tg it body [] env) (passBy env x) fs s') s) :
    Seg (model prog w) A R Y n s₀ (.forLoop tg it body [] env) ((model prog w).den (.forLoop tg it body [] env)) fs s := by
  have ek : ∀ x, ((do noteFrame x env; theTreesLotGoes x : Sem Unit).bind fun _ => (.raise x : Sem PySem.Fin)) = passBy env x := fun x => by
    unfold passBy
    rw [Sem.bind_eq_wrap]
  show Seg _ A R Y n s₀ _ ((forTurn tg it body [] env).onRaise (fun x => do noteFrame x env; theTreesLotGoes x)) fs s
  rw [Sem.onRaise_eq_wrap]
  rw [Sem.wrap_congr (forTurn tg it body [] env) _ _ (K' := .pure) (H' := passBy env) (fun _ => rfl) ek]
  have e : forTurn tg it body [] env = (standAt tg.pos >>= fun _ => (pyNext it).onRaise (fun _ => standAt { tg.pos with line := 0 })) >>= fun r => (match r with
      | none => again (.block [] env)
      | some v => (letOwnedTupleGo tg it v >>= fun _ => assign tg env v) >>= fun _ => execs body env >>= fun f => (match f with
          | .next | .cont => again (.forLoop tg it body [] env)
          | .brk => pure (.done .next)
          | .ret v => pure (.done (.ret v)))) := by
    unfold forTurn
    simp only [bind_assoc]
    rfl
  rw [e]
  refine seg_bind_wrap (wpAny_bind (wpAny_standAt (wpAny_onRaise (wpAny_mono h (fun r s1 h1 => ?_) fun x s' hx => wpAny_standAt hx))))
  cases r with
  | none => exact h1
  | some v =>
    refine seg_bind_wrap (wpAny_bind (wpAny_mono h1 (fun _ s2 h2 => wpAny_mono h2 (fun _ s3 h3 => ?_) fun _ _ z => z) fun _ _ z => z))
    rw [Sem.bind_eq_wrap', Sem.wrap_wrap]
    refine Eq.mp (congrArg (fun t => Seg (model prog w) A R Y n s₀ (.forLoop tg it body [] env) t fs s3) ?_) h3
    exact Sem.wrap_congr (execs body env) id id (fun f => by cases f <;> rfl) (fun _ => rfl)
end
section
variable {X : Cx}
def tGFor (wi : TI) (g : TG) (tb : TGn) : TGn := fun D ys σ H => wi σ H fun J H1 => ∃ W : Nat → Nat → List V → L2.St → Hp → Prop, (∃ m, W 0 m ys σ H1) ∧ ∀ i m ys σ H, W i m ys σ H →
  (J.stop i H ∧ D.nx ys σ H) ∨ (J.go i H ∧ ∃ N : List V → L2.St → Hp → Prop, (∀ ys' σ' H', N ys' σ' H' → ∃ m', m' < m ∧ W (i + 1) m' ys' σ' H') ∧
    ∀ x H', J.yld i H x H' → g x σ H' fun σ2 H2 => tb { D with nx := N, ct := N, bk := D.nx } ys σ2 H2)
theorem gs_for {tg iter : Expr} {body : List Stmt} {pos : Pos} {wi : TI} {g : TG} {tb : TGn} (hp : PassesOwn (model X.prog X.w) X.A X.env X.xe) (hc : X.calm = true) (hi : PI X tg iter wi) (hg : PG X tg g) (hb : GSs X body tb)
    (hs : ∀ x, foldedSetIterable iter X.env x = pure x := by intro _; rfl) : GS X (.For tg iter body [] pos) (tGFor wi g tb) := by
  refine ⟨fun A S ip R n ys s₀ c fs K J gd lv s σ H D gc hn k hI ht => ?_⟩
  obtain ⟨acc, cc, r, I⟩ := hI
  refine seg_for hs ?_
  rw [gc.over]
  refine wpAny_mono (hi.run _ s σ H _ I ht) (fun v s1 h1 => wpAny_mono h1 (fun itv s2 h2 => ?_) fun x s' hx => k.exc n s₀ x s' hx) fun x s' hx => k.exc n s₀ x s' hx
  obtain ⟨it, fp, tn, Jt, H2, rfl, I2, T, st2, f2, W, ⟨m0, w0⟩, turn⟩ := h2
  refine seg_forRun fun p => ?_
  have gl := fun (kk : Result → Sem PySem.Fin) => gc_loop (k := kk) (c' := .forLoop tg (.ref it) body [] X.env) (l := lv []) (kp := []) (p := p) gc rfl rfl
  have stat : ∀ {H' : Hp} {acc' : Array Value} {c' : Nat}, (∀ b ∈ fp, H' b = none) → ∀ b ∈ fp, FpOk X ((S, lstObj acc' c') :: ip) H' b := fun {H' acc' c'} hn b hb => by
    obtain ⟨_, g1, g2, g3, g4, g5⟩ := f2 b hb
    refine ⟨hn b hb, g1, g2, g3, g4, fun p hp => ?_⟩
    rcases List.mem_append.mp hp with q | q
    · exact g5 p (List.mem_append_left _ q)
    · rcases List.mem_cons.mp q with q | q
      · rw [q]
        exact g5 (S, lstObj acc cc) (List.mem_append_right _ List.mem_cons_self)
      · exact g5 p (List.mem_append_right _ (List.mem_cons_of_mem _ q))
  have loop : ∀ (m i n : Nat) (ys : List V) (s₀ s : Shared) (σ : L2.St) (H : Hp), n + ys.length = sizeLine → W i m ys σ H → tn i s.heap → (∀ b ∈ fp, H b = none) → GI X S ip ys σ H s →
      Seg (model X.prog X.w) A R (GY X S) n s₀ (.forLoop tg (.ref it) body [] X.env) ((model X.prog X.w).den (.forLoop tg (.ref it) body [] X.env))
        (.ret (fun r => ((match r with | .ok f => (.pure f : Sem Flow) | .error e => .raise e).onRaise (cameBack X.env)).wrap K J gd lv) none (gd false) (lv []) c p [] :: fs) s := by
    intro m
    induction m using Nat.strongRecOn with
    | ind m ih =>
      intro i n ys s₀ s σ H hn w st fr hI
      have ee : ∀ (n : Nat) (s₀ : Shared) (x : Value) (s' : Shared), X.xe x s' → Seg (model X.prog X.w) A R (GY X S) n s₀ (.forLoop tg (.ref it) body [] X.env) (passBy X.env x)
          (.ret (fun r => ((match r with | .ok f => (.pure f : Sem Flow) | .error e => .raise e).onRaise (cameBack X.env)).wrap K J gd lv) none (gd false) (lv []) c p [] :: fs) s' := fun n s₀ x s' hx => by
        unfold passBy
        refine seg_wrap ?_
        rw [(gl _).over]
        refine wpAny_bind (wpAny_mono (hp x s' hx) (fun _ s'' hcb => wpAny_theTreesLotGoes ?_) fun y s'' hcb => ?_)
        · exact seg_leaf (.error x) (seg_cameBack gc k hcb)
        · exact seg_leaf (.error y) (seg_cameBack gc k hcb)
      refine seg_forTurn ?_
      rw [(gl _).over]
      obtain ⟨acc1, cc1, r1, I1⟩ := hI
      rcases turn i m ys σ H w with ⟨stop, qn⟩ | ⟨go, N, hN, step⟩
      · refine wpAny_mono (T.done X rfl rfl rfl hc i _ s σ H X.xe I1 (stat fr) st stop) (fun r s4 hr => ?_) fun x s' hx => ee n s₀ x s' hx
        obtain ⟨rfl, I4⟩ := hr
        refine seg_again rfl ?_
        exact seg_leaf (.ok .next) (k.ok n ys s₀ s4 .next hn ⟨σ, H, ⟨acc1, cc1, r1, I4⟩, qn⟩)
      · refine wpAny_mono (T.item X rfl rfl rfl hc i _ s σ H X.xe I1 (stat fr) st go) (fun r s4 h4 => ?_) fun x s' hx => ee n s₀ x s' hx
        obtain ⟨u, rfl, h4⟩ := h4
        refine wpAny_mono h4 (fun _ s5 h5 => ?_) fun x s' hx => ee n s₀ x s' hx
        obtain ⟨x, H5, I5, r5, y5, st5, fr5⟩ := h5
        have I5' := I5.pinned (stat fr5) (T.obj _ _ st5)
        refine wpAny_mono (hg.run _ s5 σ H5 x u _ I5' r5 (step x H5 y5)) (fun _ s6 h6 => ?_) fun x s' hx => ee n s₀ x s' hx
        obtain ⟨σ6, H6, I6, q6⟩ := h6
        have gl2 := gl (fun r => ((match r with | .ok f => (.pure f : Sem Flow) | .error e => .raise e).onRaise (cameBack X.env)).wrap K J gd lv)
        have g3 : GC X S (ip ++ pinsAt fp s5.heap) A (.forLoop tg (.ref it) body [] X.env)
            (.ret (fun r => ((match r with | .ok f => (.pure f : Sem Flow) | .error e => .raise e).onRaise (cameBack X.env)).wrap K J gd lv) none (gd false) (lv []) c p [] :: fs) id :=
          ⟨gl2.pn, fun q hq => (List.mem_append.mp hq).elim (gc.ip q) (fun z => by
            have hb1 := (of_pinsAt z).1
            have z2 := (f2 q.1 hb1).2.2.2.2.2 (S, lstObj acc cc) (List.mem_append_right _ List.mem_cons_self)
            exact fun e => z2 e.symm), gl2.apart, gl2.over, gl2.split, gl2.guard, gl2.gd⟩
        have again : ∀ {n' : Nat} {ys' : List V} {s₀' s7 : Shared} {σ7 : L2.St} {H7 : Hp}, n' + ys'.length = sizeLine → GI X S (ip ++ pinsAt fp s5.heap) ys' σ7 H7 s7 → N ys' σ7 H7 →
            Seg (model X.prog X.w) A R (GY X S) n' s₀' (.forLoop tg (.ref it) body [] X.env) (.pure (.again (.forLoop tg (.ref it) body [] X.env)))
              (.ret (fun r => ((match r with | .ok f => (.pure f : Sem Flow) | .error e => .raise e).onRaise (cameBack X.env)).wrap K J gd lv) none (gd false) (lv []) c p [] :: fs) s7 := fun {n' ys' s₀' s7 σ7 H7} hn' G7 n7 => by
          obtain ⟨m', hm, w7⟩ := hN ys' σ7 H7 n7
          obtain ⟨acc7, c7, r7, I7⟩ := G7
          have pin7 : ∀ b ∈ fp, ∀ o, s5.heap.get? b = some o → s7.heap.get? b = some o ∧ H7 b = none := fun b hb o e => by
            have z := I7.pin (b, o) (List.mem_append_right _ (List.mem_cons_of_mem _ (List.mem_append_right _ (mem_pinsAt hb e))))
            exact ⟨z.1, z.2.1⟩
          refine seg_again rfl (ih m' hm (i + 1) n' ys' s₀' s7 σ7 H7 hn' w7 (T.keep _ _ _ st5 fun b hb o e => (pin7 b hb o e).1) (fun b hb => ?_) ⟨acc7, c7, r7, ?_⟩)
          · obtain ⟨o, e, d⟩ := T.obj _ _ st5 b hb
            exact (pin7 b hb o e).2
          · refine I7.pins_of fun q hq => I7.pin q (List.mem_append_right _ ?_)
            rcases List.mem_cons.mp hq with z | z
            · rw [z]; exact List.mem_cons_self
            · exact List.mem_cons_of_mem _ (List.mem_append_left _ z)
        have drop : ∀ {ys' : List V} {σ7 : L2.St} {H7 : Hp} {s7 : Shared}, GI X S (ip ++ pinsAt fp s5.heap) ys' σ7 H7 s7 → GI X S ip ys' σ7 H7 s7 := fun {ys' σ7 H7 s7} G7 => by
          obtain ⟨acc7, c7, r7, I7⟩ := G7
          refine ⟨acc7, c7, r7, I7.pins_of fun q hq => I7.pin q (List.mem_append_right _ ?_)⟩
          rcases List.mem_cons.mp hq with z | z
          · rw [z]; exact List.mem_cons_self
          · exact List.mem_cons_of_mem _ (List.mem_append_left _ z)
        refine hb.run A S (ip ++ pinsAt fp s5.heap) R n ys s₀ _ _ _ _ id id s6 σ6 H6 { D with nx := N, ct := N, bk := D.nx } g3 hn ⟨fun n' ys' s₀' s7 f hn' hs => ?_, fun n' s₀' x s7 hx => ee n' s₀' x s7 hx⟩ ⟨acc1, cc1, r1, I6⟩ q6
        cases f with
        | next =>
          obtain ⟨σ7, H7, G7, n7⟩ := hs
          exact again hn' G7 n7
        | cont =>
          obtain ⟨σ7, H7, G7, n7⟩ := hs
          exact again hn' G7 n7
        | brk =>
          obtain ⟨σ7, H7, G7, q7⟩ := hs
          exact seg_leaf (.ok .next) (k.ok n' ys' s₀' s7 .next hn' ⟨σ7, H7, drop G7, q7⟩)
        | ret v =>
          obtain ⟨x7, σ7, H7, G7, r7, q7⟩ := hs
          exact seg_leaf (.ok (.ret v)) (k.ok n' ys' s₀' s7 (.ret v) hn' ⟨x7, σ7, H7, drop G7, r7, q7⟩)
  exact loop m0 0 n ys s₀ s2 σ H2 hn w0 st2 (fun b hb => (f2 b hb).1) ⟨acc, cc, r, I2⟩
/-- over a list that the body leaves as it is -/
theorem gfor_list {K : PySem.W.Frag} {a : Addr} {xs : List V} {g : TG} {tb : TGn} {D : GEnds} {ys : List V} {σ : L2.St} {H : Hp} (Pv : Nat → List V → L2.St → Hp → Prop) (h0 : Pv 0 ys σ H) (hl : ∀ i ys σ H, i ≤ xs.length → Pv i ys σ H → SqL K H a xs)
    (hs : ∀ i x ys σ H, xs[i]? = some x → Pv i ys σ H → g x σ H fun σ2 H2 => tb { D with nx := Pv (i + 1), ct := Pv (i + 1), bk := D.nx } ys σ2 H2) (hd : ∀ ys σ H, Pv xs.length ys σ H → D.nx ys σ H) :
    ∃ W : Nat → Nat → List V → L2.St → Hp → Prop, (∃ m, W 0 m ys σ H) ∧ ∀ i m ys σ H, W i m ys σ H →
      ((Itl K a).stop i H ∧ D.nx ys σ H) ∨ ((Itl K a).go i H ∧ ∃ N : List V → L2.St → Hp → Prop, (∀ ys' σ' H', N ys' σ' H' → ∃ m', m' < m ∧ W (i + 1) m' ys' σ' H') ∧
        ∀ x H', (Itl K a).yld i H x H' → g x σ H' fun σ2 H2 => tb { D with nx := N, ct := N, bk := D.nx } ys σ2 H2) := by
  refine ⟨fun i m ys σ H => m = xs.length - i ∧ i ≤ xs.length ∧ Pv i ys σ H, ⟨xs.length, by simp, Nat.zero_le _, h0⟩, ?_⟩
  rintro i m ys σ H ⟨rfl, hi, p⟩
  have q := hl i ys σ H hi p
  by_cases hlt : i < xs.length
  · refine .inr ⟨⟨xs, xs[i], q, by simp [hlt]⟩, Pv (i + 1), fun ys' σ' H' p' => ⟨xs.length - (i + 1), by omega, rfl, hlt, p'⟩, fun x H' y => ?_⟩
    obtain ⟨e, y⟩ := y
    subst e
    exact hs i x ys σ _ (y xs q) p
  · have e : i = xs.length := by omega
    subst e
    exact .inl ⟨⟨xs, q, Nat.le_refl _⟩, hd ys σ H p⟩
end
end K12

set_option Elab.async false
set_option linter.all false
set_option maxRecDepth 100000
set_option maxHeartbeats 4000000
namespace K12
open PySem PySem.Spec PyProof.Rows L2
/-! ## promises that hold where nothing is being shown (repr's guards): FnG -/
def FnG (P : Program) (w : World) (K : PySem.W.Frag) (mg : Str → Option Value) (base : Heap) (k : Nat) (f : Addr) (sp : Sp) : Prop :=
  ∀ (A : Around) (outer : List Env) (s : Shared) (H : Hp) (us : List Value) (vs : List V) (Q : VK) (E : XK), A.guards = some [] → Room k A → Env0 P w K mg base A outer s H → Vals vs us → sp vs H Q E →
    codeAny (model P w) A (.call (.ref f) ⟨us, []⟩) (CR (L2.CX P w) outer P w H s Q E) s
section
variable {P : Program} {w : World} {K : PySem.W.Frag} {mg : Str → Option Value} {base : Heap} {k : Nat} {f : Addr} {sp : Sp}
theorem FnR.g (F : FnR P w K mg base (L2.CX P w) k f sp) : FnG P w K mg base k f sp := fun A outer s H us vs Q E _ => F A outer s H us vs Q E
/-- from the def's body, which may use X.A.guards = some [] -/
theorem fn_g {x qual : Str} {params : Arguments} {body : List Stmt} {scope : Scope} {kws : List (Str × V)} {fd : FuncData} {N ps : List Str} (F : FunD K x qual params body scope [] kws f fd) (S : FnScope N ps scope)
    (hb : Binds K fd ps []) (len : ∀ vs H Q E, sp vs H Q E → vs.length = ps.length)
    (hbody : ∀ (cdv : Value) (A : Around) (outer : List Env) (s : Shared) (H : Hp) (vs : List V) (Q : VK) (E : XK), A.guards = some [] → Room k (A.deeper (envOfC qual scope s.heap.objs.size f cdv)) → sp vs H Q E →
      ∃ t, PSs (cxOf (L2.CX P w) P w K mg base N qual scope f cdv A outer s H E) body t ∧ t { nx := fun _ H' => Q .non H', rt := Q } (start N vs) H) : FnG P w K mg base (k + 1) f sp := by
  obtain ⟨oc, od, dV, kV, doc, pm, an, cdv, ct, osl, rfl, lk, hcd, _, _⟩ := F.ex
  intro A outer s H us vs Q E hgd hr e0 r hsp
  have hl := len _ _ _ _ hsp
  have hul : us.length = ps.length := by rw [← r.length, hl]
  have KX : K.In s.heap := e0.mod.kin.keeps fun b o q => (e0.bs b o q).1
  have lim : s.heap.NoLimit := e0.mod.nolimit.keeps fun b o q => (e0.bs b o q).1
  have par : ∀ y ∈ ps.zip us, scope.names.lookup y.1 = some .local ∨ (scope.names.lookup y.1 = some .cell ∧ ((cellsFrom (s.heap.objs.size + 1) scope.names []).lookup y.1).isSome = true) := by
    rintro ⟨n, v⟩ hy
    rcases S.par n (List.of_mem_zip hy).1 with q | q
    · exact .inl q
    · exact .inr ⟨q, PySem.W.cellsFrom_some _ _ _ (.inl q)⟩
  have bnd := hb s us KX (by rw [List.append_nil]; exact hul)
  rw [List.append_nil] at bnd
  refine codeAny_call_function hr.depth (KX _ _ lk) rfl S.co S.gen rfl (PySem.W.codeRec_of KX hcd) (bnd _ _ _ _ ?_)
  refine wpAny_newFunctionEnv_cells S.kind par fun env he s1 x => ?_
  subst he
  refine ⟨lim.keeps x.toInCall.keep, codeAny_func ?_⟩
  obtain ⟨t, ht, hq⟩ := hbody cdv A outer s H vs Q E hgd (hr.deeper _) hsp
  have I : Inv (cxOf (L2.CX P w) P w K mg base N qual scope f cdv A outer s H E) [] (start N vs) H s1 := inv_start S hr.hd e0 hl r x
  refine wpAny_mono (ht.run [] s1 (start N vs) H _ I hq) (fun fl s' hs => ?_) fun e s' hs => hs
  cases fl with
  | ret u =>
    obtain ⟨v, σ', H', J, rv, q⟩ := hs
    exact ⟨v, H', J.os, J.bare, J.base, J.hok, rv, q⟩
  | next =>
    obtain ⟨σ', H', J, q⟩ := hs
    exact ⟨V.non, H', J.os, J.bare, J.base, J.hok, rfl, q⟩
  | brk =>
    obtain ⟨_, _, _, q⟩ := hs
    exact False.elim q
  | cont =>
    obtain ⟨_, _, _, q⟩ := hs
    exact False.elim q
end
section
variable {X : Cx} {k : Nat} {f C : Addr} {sp : Sp} {W : WX} {x : Str} {p pos : Pos} {e : Expr} {es : List Expr} {t : TA}
theorem runG {pins : List (Addr × Obj)} {σ : L2.St} {H : Hp} {s : Shared} {Q : VK} {us : List Value} {vs : List V}
    (F : FnG X.prog X.w X.K X.mg X.base k f sp) (hgd : X.A.guards = some []) (hr : Room k X.A) (tk : Takes X W) (I : Inv X pins σ H s) (r : Vals vs us) (h : sp vs H Q (WE W σ)) :
    wpAny (model X.prog X.w) X.A (call (.ref f) us) (EP X pins σ Q) X.xe s := by
  refine wpAny_call (codeAny_mono (F X.A X.stack s H us vs Q _ hgd hr I.env0 r h) fun r s' hq => ?_)
  cases r with
  | error e => exact passAt tk σ pins H s e s' I hq
  | ok fl =>
    cases fl with
    | ret u => exact I.after hq
    | next => exact False.elim hq
    | brk => exact False.elim hq
    | cont => exact False.elim hq
theorem pe_G (F : FnG X.prog X.w X.K X.mg X.base k f sp) (hgd : X.A.guards = some []) (hr : Room k X.A) (hm : X.mg x = some (.ref f))
    (hk : PySem.W.keepIn X.K (.ref f) = true) (tk : Takes X W) (ha : PA X (e :: es) t) (hg : Gl X x := by rfl)
    (hdb : (x == ("__debug__" : Str)) = false := by decide)
    (he : starEach (e :: es) X.env = (false, eval e X.env) :: starEach es X.env := by rfl)
    (hpl : (backTo pos (starEach es X.env)).any (·.1) = false := by rfl) : PE X (.Call (.Name x p) (e :: es) [] pos) (tF sp W t) := by
  refine ⟨fun pins s σ H Q I h => ?_⟩
  refine wpAny_Call_Name_kw (ld_glob I hg hm ?_ hdb)
  refine PySem.W.callWith_K (h₀ := X.base) I.ok.mod.kin hk (thn (ha.run pos pins s σ H _ I h) fun us s1 hh => ?_) he hpl
  obtain ⟨vs, H1, I1, r, q⟩ := hh
  exact ⟨I1.kIn, runG F hgd hr tk I1 r q⟩
/-- C( *y): y a tuple or a list -/
theorem pe_makeS1 {CX : CXT} {E : XK} {te : TE} {sp_ : Pos} (M : Mk X.K C f) (F : FnR X.prog X.w X.K X.mg X.base CX k f sp) (hr : Room (k + 1) X.A) (hm : X.mg x = some (.ref C)) (hx : Passes CX X E) (he : PE X e te)
    (hg : Gl X x := by rfl) (hdb : (x == ("__debug__" : Str)) = false := by decide) (hst : starEach [.Starred e sp_] X.env = [(true, eval e X.env)] := by rfl) :
    PE X (.Call (.Name x p) [.Starred e sp_] [] pos) (fun σ H Q => te σ H fun y H1 => ∃ a xs, y = V.ref a ∧ (SqT X.K H1 a xs ∨ SqL X.K H1 a xs) ∧ StX.tMakeR C sp E (fun _ H2 Q2 => Q2 xs H2) σ H1 Q) := by
  refine ⟨fun pins s σ H Q I h => ?_⟩
  refine wpAny_Call_Name_kw (ld_glob I hg hm ?_ hdb)
  refine PySem.W.callWith_S (h₀ := X.base) I.ok.mod.kin M.kp (thn (he.run pins s σ H _ I h) fun v s1 hh => ?_) hst
  obtain ⟨y, H1, I1, ry, a, xs, ey, hxs, q⟩ := hh
  subst ey
  obtain rfl : v = Value.ref a := ry
  exact StX.star_any I1 hxs fun us s2 I2 rv => ⟨I2.kIn, StX.run_makeR M F hr hx I2 rv q⟩
end
/-! ## the end -/
section
theorem law_callG {P : Program} {w : World} {K : PySem.W.Frag} {mg mb : Str → Option Value} {k : Nat} {fa a : Addr} {sp : Sp} {s1 : Shared} {vs : List Value} {ns : List Int}
    (KX : K.In s1.heap) (hns : s1.heap.Ns mainGlobals mg) (hb : s1.heap.Ns builtinsNs mb) (hbb : ∀ x : Str, x ≠ "__name__" → mb x = bootBuiltins x) (hlim : s1.heap.NoLimit) (hg : s1.gens = #[])
    (ha : s1.heap.get? a = some { cls := .type "list", data := .seq vs.toArray }) (hi : IntsAre vs ns) (hl : ns.length ≤ sizeLine) (hr : Room k callerA)
    (F : ∀ base : Heap, K.In base → base.Ns mainGlobals mg → FnG P w K mg base k fa sp)
    (hsp : ∀ H : Hp, Only H → SqL K H a (ns.map V.int) → sp [.ref a] H (fun v _ => v = .bl true) fun _ _ _ => False) :
    codeAny (model P w) callerA (.call (.ref fa) ⟨[.ref a], []⟩) (fun r s' => r = .ok (.ret (.bool true)) ∧ OldK s1.heap s'.heap ∧ s'.os = s1.os ∧ AllBare s'.gens) s1 := by
  have rel := vals_ints hi
  have len := hi.length
  have from_ : ∀ H : Hp, Only H → SqL K H a (ns.map V.int) → HOk P w H s1.heap → (∀ b, H b ≠ none → b = a) → (H a ≠ none → K.lookup a = none) →
      codeAny (model P w) callerA (.call (.ref fa) ⟨[.ref a], []⟩) (fun r s' => r = .ok (.ret (.bool true)) ∧ OldK s1.heap s'.heap ∧ s'.os = s1.os ∧ AllBare s'.gens) s1 := by
    intro H only hS ok1 at1 hK
    have isa : ∀ {b : Addr} {u : HO}, H b = some u → b = a := fun {b u} q => at1 b (by rw [q]; simp)
    have there : ∀ {b : Addr} {o : Obj}, s1.heap.get? b = some o → H b = none → (hidT s1.heap H).get? b = some o := fun e n => hidT_get e n
    have nod : ∀ {b : Addr} {o : Obj} {es : Array DictEntry} {ep : Nat}, s1.heap.get? b = some o → o.data = .dict es ep → H b = none := by
      intro b o es ep e d
      cases q : H b with
      | none => rfl
      | some u =>
        obtain rfl := isa q
        rw [ha] at e
        cases e
        exact absurd (show Data.seq vs.toArray _ = Data.dict es ep from d) (by intro z; cases z)
    have names : ∀ {b : Addr} {m : Str → Option Value}, s1.heap.Ns b m → (hidT s1.heap H).Ns b m := by
      rintro b m ⟨o, es, ep, e, d, r⟩
      exact ⟨o, es, ep, there e (nod e d), d, r⟩
    have kb : K.In (hidT s1.heap H) := by
      intro b o e
      refine there (KX b o e) ?_
      cases q : H b with
      | none => rfl
      | some u =>
        obtain rfl := isa q
        rw [hK (by rw [q]; simp)] at e
        cases e
    have md : Mod K mg (hidT s1.heap H) := by
      obtain ⟨mc, h1, h2⟩ := hlim
      exact ⟨kb, names hns, ⟨mb, names hb, hbb⟩, ⟨mc, names h1, h2⟩⟩
    have env : Env0 P w K mg (hidT s1.heap H) callerA [] s1 H :=
      ⟨rfl, md, fun b o e => of_hidT e, Nat.le_of_eq (hidT_size _ _), trivial, fun b hb => absurd (show b ∈ ([] : List Addr) from hb) (by simp), ok1, .of_eq hg⟩
    have run := F _ kb (names hns) callerA [] s1 H [.ref a] [.ref a] _ _ rfl hr env (.cons rfl .nil) (hsp H only hS)
    refine codeAny_mono run fun r s' h => ?_
    cases r with
    | error e =>
      obtain ⟨_, _, _, _, _, _, _, _, _, _, _, _, z⟩ := h
      exact z.elim
    | ok fl =>
      cases fl with
      | ret u =>
        obtain ⟨v, H', os, bare, un, ok2, rv, q⟩ := h
        have ev : v = .bl true := q
        subst ev
        obtain rfl : u = Value.bool true := rv
        refine ⟨rfl, OldK.of_keep fun b o e => ?_, os, bare⟩
        cases q : H b with
        | none => exact un.keep b o e q (by intro z; exact absurd (show b ∈ ([] : List Addr) from z) (by simp)) (by simp)
        | some u =>
          rcases only b with z | ⟨ob, xs, z⟩
          · rw [q] at z
            cases z
          · obtain ⟨e1, _⟩ := ok1 b _ z
            obtain ⟨e2, _⟩ := ok2 b _ (un.frzs b ob _ z)
            rw [e] at e1
            cases e1
            exact e2
      | next => exact False.elim h
      | brk => exact False.elim h
      | cont => exact False.elim h
  cases hk : K.lookup a with
  | some o =>
    have e := KX a o hk
    rw [ha] at e
    cases e
    refine from_ (fun _ => none) (fun _ => .inl rfl) (.inr ⟨_, vs.toArray, _, hk, rfl, rfl, rfl, by rw [List.size_toArray, len]; exact hl, by simpa using rel⟩) (fun b u z => ?_) (fun b z => absurd rfl z) fun z => absurd rfl z
    exact absurd (show (none : Option HO) = some u from z) (by intro q; cases q)
  | none =>
    refine from_ (fun b => if b = a then some (.frz { cls := .type "list", data := .seq vs.toArray } (.lst (ns.map V.int))) else none) (fun b => ?_) (.inl (.inr ⟨{ cls := .type "list", data := .seq vs.toArray }, if_pos rfl⟩)) (fun b u z => ?_) (fun b z => ?_) fun _ => hk
    · by_cases q : b = a
      · exact .inr ⟨_, _, if_pos q⟩
      · exact .inl (if_neg q)
    · by_cases q : b = a
      · have z' := (if_pos q).symm.trans z
        cases z'
        subst q
        exact ⟨ha, by rw [List.length_map]; exact hl, vs, _, rel, ha⟩
      · have z' := (if_neg q).symm.trans z
        cases z'
    · by_cases q : b = a
      · exact q
      · exact absurd (if_neg q) z
theorem walk_G {l : PySem.W.OpenLaw} {n k : Nat} {q : Program} {loose : List Str} {XP : (Str → Option Value) → Heap → Prop} {YP : World → Heap → Prop} {d : PySem.DefRec}
    (hn : l.most = some n) (hn2 : n ≤ sizeLine) (hdf : d.params.defaults = []) (hr : Room k callerA)
    (F : ∀ (w : World) (mg : Str → Option Value) (fa : Addr) (h : Heap), YP w h → h.Ns mainGlobals mg → mg d.name = some (.ref fa) →
      ∃ (K : PySem.W.Frag) (sp : Sp), K.In h ∧ (∀ (H : Hp) (a : Addr) (ns : List Int), ns.length ≤ n → Only H → SqL K H a (ns.map V.int) → sp [.ref a] H (fun v _ => v = .bl true) fun _ _ _ => False) ∧
        ∀ base : Heap, K.In base → base.Ns mainGlobals mg → FnG l.prog w K mg base k fa sp) :
    PySem.W.WalkO q loose XP YP l.row.toRowW d [] (fun f vs => PySem.call f vs) := by
  refine Att.attach_call hn hdf fun w s0 s1 mg mb fa o pm cd doc a vs ns G Y ho hd hcd hmg hobj hints hlen hg => ?_
  obtain ⟨K, sp, KX, hsp, hF⟩ := F w mg fa _ Y G.T.g hmg
  exact law_callG KX G.T.g G.T.b G.T.builtins G.T.nolimit hg hobj hints (Nat.le_trans hlen hn2) hr hF fun H hO hS => hsp H a ns hlen hO hS
end
end K12

set_option Elab.async false
set_option linter.all false
set_option maxRecDepth 100000
set_option maxHeartbeats 4000000
namespace K12
open PySem PySem.Spec PyProof.Rows L2
/-! ## the plain log -/
abbrev Ent := Str × Option Int
abbrev Log := List Ent
def trim : Log → Log
  | [] => []
  | e :: r => if e.2.isSome = true then e :: r else trim r
def kill (k : Str) (L : Log) : Log := L.map fun e => (e.1, if e.1 = k then none else e.2)
def liv (L : Log) : Log := L.filter fun e => e.2.isSome
def nms (L : Log) : List Str := (liv L).map (·.1)
def cnt (L : Log) : Nat := (liv L).length
def rot (L : Log) : Log := trim (L.drop 1 ++ L.take 1)
/-- carry at most n times -/
def carry (sp : Nat) : Nat → Log → Log × Nat
  | 0, L => (L, 0)
  | n + 1, L => if L.length = 0 ∨ sp ≤ L.length then (L, 0) else ((carry sp n (rot L)).1, (carry sp n (rot L)).2 + 1)
structure Tm where
  span : Nat
  cap : Nat
  cyc : List Int
  rear : Bool
structure Tm.Ok (T : Tm) : Prop where
  cap1 : 1 ≤ T.cap
  cs : T.cap ≤ T.span
  s64 : T.span ≤ 64
  c1 : 1 ≤ T.cyc.length
  c12 : T.cyc.length ≤ 12
  all : ∀ b ∈ T.cyc, 0 ≤ b
def own (T : Tm) (k : Str) (v : Option Int) : Log := if T.rear = true then [(k, v)] else []
def ahead (T : Tm) (L : Log) (k : Str) (v : Option Int) : Log := trim (kill k L ++ own T k v)
def others (T : Tm) (L : Log) (k : Str) (v : Option Int) : Int := (cnt (ahead T L k v) : Int) - (if T.rear = true ∧ v.isSome = true then 1 else 0)
def mostC (T : Tm) (t : Nat) (L : Log) (k : Str) (v : Option Int) : Int := if others T L k v < T.cyc.getD t 0 then others T L k v else T.cyc.getD t 0
/-- what is moved, if the deed is not refused till then -/
def fin (T : Tm) (k : Str) (v : Option Int) (M : Log) : Option Log :=
  if T.rear = true then some M else if T.span ≤ M.length then none else some (trim (M ++ [(k, v)]))
def mid (T : Tm) (L : Log) (k : Str) (v : Option Int) (c : Option Int) (asked most : Int) : Option Log :=
  if asked < 0 ∨ most < asked then none
  else if c.isSome = true ∧ ((carry T.span asked.toNat (ahead T L k v)).2 : Int) < asked then none
  else fin T k v (carry T.span asked.toNat (ahead T L k v)).1
def due (T : Tm) (t : Nat) (L : Log) (k : Str) (v : Option Int) (c : Option Int) : Option Log :=
  if v = none ∧ k ∉ nms L then none
  else if k ∉ nms L ∧ T.cap ≤ (nms L).length then none
  else if T.rear = true ∧ T.span ≤ L.length then none
  else mid T L k v c (c.getD (mostC T t L k v)) (mostC T t L k v)
/-! ## lists by pairs -/
section
variable {α β : Type} {F G : α → β → Prop}
theorem p_len : ∀ {xs : List α} {ys : List β}, Paired F xs ys → xs.length = ys.length
  | _, _, .nil => rfl
  | _, _, .cons _ t => congrArg Nat.succ (p_len t)
theorem p_mono (h : ∀ a b, F a b → G a b) : ∀ {xs : List α} {ys : List β}, Paired F xs ys → Paired G xs ys
  | _, _, .nil => .nil
  | _, _, .cons a t => .cons (h _ _ a) (p_mono h t)
theorem p_app : ∀ {xs xs' : List α} {ys ys' : List β}, Paired F xs ys → Paired F xs' ys' → Paired F (xs ++ xs') (ys ++ ys')
  | _, _, _, _, .nil, q => q
  | _, _, _, _, .cons a t, q => .cons a (p_app t q)
theorem p_drop : ∀ (n : Nat) {xs : List α} {ys : List β}, Paired F xs ys → Paired F (xs.drop n) (ys.drop n)
  | 0, _, _, h => h
  | _ + 1, _, _, .nil => .nil
  | n + 1, _, _, .cons _ t => p_drop n t
theorem p_take : ∀ (n : Nat) {xs : List α} {ys : List β}, Paired F xs ys → Paired F (xs.take n) (ys.take n)
  | 0, _, _, _ => .nil
  | _ + 1, _, _, .nil => .nil
  | n + 1, _, _, .cons a t => .cons a (p_take n t)
theorem p_get : ∀ {xs : List α} {ys : List β} {i : Nat} {x : α}, Paired F xs ys → xs[i]? = some x → ∃ y, ys[i]? = some y ∧ F x y
  | _, _, 0, x, .cons a t, h => by cases h; exact ⟨_, rfl, a⟩
  | _, _, i + 1, x, .cons a t, h => p_get (i := i) t h
  | _, _, _, x, .nil, h => by cases h
theorem p_get' : ∀ {xs : List α} {ys : List β} {i : Nat} {y : β}, Paired F xs ys → ys[i]? = some y → ∃ x, xs[i]? = some x ∧ F x y
  | _, _, 0, x, .cons a t, h => by cases h; exact ⟨_, rfl, a⟩
  | _, _, i + 1, x, .cons a t, h => p_get' (i := i) t h
  | _, _, _, x, .nil, h => by cases h
theorem p_mem {x : α} : ∀ {xs : List α} {ys : List β}, Paired F xs ys → x ∈ xs → ∃ y, y ∈ ys ∧ F x y
  | _, _, .nil, h => by cases h
  | _, _, .cons a t, h => by
    rcases List.mem_cons.mp h with rfl | h
    · exact ⟨_, List.mem_cons_self, a⟩
    · obtain ⟨y, h1, h2⟩ := p_mem t h
      exact ⟨y, List.mem_cons_of_mem _ h1, h2⟩
/-- the item at n set -/
theorem p_set {b : β} : ∀ {xs : List α} {ys : List β} (n : Nat), Paired F xs ys → (∀ x, xs[n]? = some x → F x b) → Paired F xs (ys.set n b)
  | _, _, _, .nil, _ => .nil
  | _, _, 0, .cons _ t, h => .cons (h _ rfl) t
  | _, _, n + 1, .cons a t, h => .cons a (p_set n t fun x e => h x e)
theorem p_monoI {xs : List α} {ys : List β} (h : Paired F xs ys) (hm : ∀ x ∈ xs, ∀ b, F x b → G x b) : Paired G xs ys := by
  induction h with
  | nil => exact .nil
  | cons a t ih => exact .cons (hm _ List.mem_cons_self _ a) (ih fun x hx => hm x (List.mem_cons_of_mem _ hx))
end
theorem take_next {α : Type} {xs : List α} {i : Nat} {x : α} (h : xs[i]? = some x) : xs.take (i + 1) = xs.take i ++ [x] := by
  rw [List.take_add_one, h]
  rfl
theorem get_lt {α : Type} {xs : List α} {i : Nat} {x : α} (h : xs[i]? = some x) : i < xs.length := (List.getElem?_eq_some_iff.mp h).1
theorem get_of {α : Type} {xs : List α} {i : Nat} (h : i < xs.length) : ∃ x, xs[i]? = some x := ⟨_, List.getElem?_eq_getElem h⟩
/-! ## frames -/
/-- all that was tracked is as it was but for the objects of S -/
def Fr (S : List Addr) (H H' : Hp) : Prop := ∀ b o, b ∉ S → H b = some o → H' b = some o
theorem Fr.refl (S : List Addr) (H : Hp) : Fr S H H := fun _ _ _ h => h
theorem Fr.trans {S : List Addr} {H H1 H2 : Hp} (a : Fr S H H1) (b : Fr S H1 H2) : Fr S H H2 := fun c o n h => b c o n (a c o n h)
theorem Fr.of_same {S : List Addr} {H H' : Hp} (h : Same H H') : Fr S H H' := fun b o _ e => h b o e
theorem Fr.same {H H' : Hp} (h : Fr [] H H') : Same H H' := fun b o e => h b o (by simp) e
theorem Fr.mono {S S' : List Addr} {H H' : Hp} (h : Fr S H H') (hs : ∀ a ∈ S, a ∈ S') : Fr S' H H' := fun b o n e => h b o (fun z => n (hs b z)) e
theorem Fr.put {S : List Addr} {H : Hp} {a : Addr} {o : HO} (h : a ∈ S) : Fr S H (upd H a o) := fun b x n e => by
  rw [upd_ne (show b ≠ a from fun z => n (by rw [z]; exact h))]
  exact e
theorem same_upd {H : Hp} {p : Addr} {o : HO} (h : H p = none) : Same H (upd H p o) := fun b x e => by
  rw [upd_ne (ne_of_none e h)]
  exact e
theorem Same.step {H H' : Hp} {p : Addr} {o : HO} (h : Same H H') (n : H p = none) : Same H (upd H' p o) := fun b x e => by
  rw [upd_ne (ne_of_none e n)]
  exact h b x e
theorem upd_upd {H : Hp} {a : Addr} {x y : HO} : upd (upd H a x) a y = upd H a y := by
  funext b
  by_cases hb : b = a
  · rw [hb, upd_same, upd_same]
  · rw [upd_ne hb, upd_ne hb, upd_ne hb]
theorem upd_self {H : Hp} {a : Addr} {x : HO} (h : H a = some x) : upd H a x = H := by
  funext b
  by_cases hb : b = a
  · rw [hb, upd_same, h]
  · rw [upd_ne hb]
theorem kind_ne {H : Hp} {a b : Addr} {x y : HO} (h1 : H a = some x) (h2 : H b = some y) (h : x ≠ y) : a ≠ b := fun e => by
  subst e
  rw [h1] at h2
  exact h (Option.some.inj h2)
/-! ## the ring's objects -/
abbrev H00 : Hp := fun _ => none
/-- an entry of the ring's log; new against H0 -/
def RE (H0 H : Hp) (x : V) (e : Ent) : Prop := ∃ (a : Addr) (v : V) (rd : Addr), x = .ref a ∧ H0 a = none ∧ H a = some (.lst [.str e.1, v, .bl e.2.isSome, .ref rd]) ∧ H rd = some (.lst []) ∧ ∀ z, e.2 = some z → v = .int z
theorem RE.same {H0 H H' : Hp} (h : Same H H') {x : V} {e : Ent} (r : RE H0 H x e) : RE H0 H' x e := by
  obtain ⟨a, v, rd, h1, h2, h3, h4, h5⟩ := r
  exact ⟨a, v, rd, h1, h2, h _ _ h3, h _ _ h4, h5⟩
theorem RE.lists {H0 H H' : Hp} (h : ∀ b xs, H b = some (.lst xs) → H' b = some (.lst xs)) {x : V} {e : Ent} (r : RE H0 H x e) : RE H0 H' x e := by
  obtain ⟨a, v, rd, h1, h2, h3, h4, h5⟩ := r
  exact ⟨a, v, rd, h1, h2, h _ _ h3, h _ _ h4, h5⟩
/-- a RingLog at g with the log L, its entries new against H0 -/
def LogAt (K : PySem.W.Frag) (H0 H : Hp) (g : Addr) (L : Log) : Prop := H0 g = none ∧ ∃ (dg e : Addr) (xs : List V), H g = some (.ins (He.ga K "RingLog") dg [("entries", .ref e)]) ∧ H e = some (.lst xs) ∧ H0 e = none ∧ xs.Nodup ∧ Paired (RE H0 H) xs L
theorem LogAt.same {K : PySem.W.Frag} {H0 H H' : Hp} {g : Addr} {L : Log} (h : Same H H') (l : LogAt K H0 H g L) : LogAt K H0 H' g L := by
  obtain ⟨n, dg, e, xs, h1, h2, h0, h3, h4⟩ := l
  exact ⟨n, dg, e, xs, h _ _ h1, h _ _ h2, h0, h3, p_mono (fun _ _ => RE.same h) h4⟩
theorem LogAt.old {K : PySem.W.Frag} {H0 H : Hp} {g : Addr} {L : Log} (l : LogAt K H0 H g L) : LogAt K H00 H g L := by
  obtain ⟨n, dg, e, xs, h1, h2, h0, h3, h4⟩ := l
  refine ⟨rfl, dg, e, xs, h1, h2, rfl, h3, p_mono (fun _ _ r => ?_) h4⟩
  obtain ⟨a, v, rd, k1, k2, k3, k4, k5⟩ := r
  exact ⟨a, v, rd, k1, rfl, k3, k4, k5⟩
def RoundAt (K : PySem.W.Frag) (H : Hp) (b : Addr) (cyc : List Int) : Prop := ∃ dx t : Addr, H b = some (.ins (He.ga K "Round") dx [("_budgets", .ref t)]) ∧ H t = some (.tup (cyc.map V.int))
def ringF (T : Tm) (b g o : Addr) (d t : Nat) (ca lw op : Int) : List (Str × V) := [("_places", .int T.span), ("_limit", .int T.cap), ("_budgets", .ref b), ("_late", .bl T.rear), ("_readers", .int 0), ("_log", .ref g), ("_done", .int d), ("_phase", .int t), ("_carried", .int ca), ("_last_wait", .int lw), ("_opened", .int op), ("_open", .ref o)]
/-- a Ring at r: its terms, its log, its phase, its count of deeds -/
def RingAt (K : PySem.W.Frag) (H : Hp) (r : Addr) (T : Tm) (L : Log) (t d : Nat) : Prop := ∃ (dx b g o : Addr) (ca lw op : Int),
  H r = some (.ins (He.ga K "Ring") dx (ringF T b g o d t ca lw op)) ∧ RoundAt K H b T.cyc ∧ LogAt K H00 H g L
theorem ringF_len {T : Tm} {b g o : Addr} {d t : Nat} {ca lw op : Int} : (ringF T b g o d t ca lw op).length = 12 := rfl
/-- a frame that leaves lists, tuples and small instances alone -/
def Kept (H H' : Hp) : Prop := (∀ b xs, H b = some (.lst xs) → H' b = some (.lst xs)) ∧ (∀ b xs, H b = some (.tup xs) → H' b = some (.tup xs)) ∧ ∀ b C dx f v, H b = some (.ins C dx [(f, v)]) → H' b = some (.ins C dx [(f, v)])
theorem Kept.of_same {H H' : Hp} (h : Same H H') : Kept H H' := ⟨fun b _ e => h b _ e, fun b _ e => h b _ e, fun b _ _ _ _ e => h b _ e⟩
theorem LogAt.kept {K : PySem.W.Frag} {H0 H H' : Hp} {g : Addr} {L : Log} (h : Kept H H') (l : LogAt K H0 H g L) : LogAt K H0 H' g L := by
  obtain ⟨n, dg, e, xs, h1, h2, h0, h3, h4⟩ := l
  exact ⟨n, dg, e, xs, h.2.2 _ _ _ _ _ h1, h.1 _ _ h2, h0, h3, p_mono (fun _ _ => RE.lists h.1) h4⟩
theorem RoundAt.kept {K : PySem.W.Frag} {H H' : Hp} {b : Addr} {c : List Int} (h : Kept H H') (l : RoundAt K H b c) : RoundAt K H' b c := by
  obtain ⟨dx, t, h1, h2⟩ := l
  exact ⟨dx, t, h.2.2 _ _ _ _ _ h1, h.2.1 _ _ h2⟩
theorem RingAt.kept {K : PySem.W.Frag} {H H' : Hp} {r : Addr} {T : Tm} {L : Log} {t d : Nat} (h : Kept H H') (hr : ∀ o, H r = some o → H' r = some o) (l : RingAt K H r T L t d) : RingAt K H' r T L t d := by
  obtain ⟨dx, b, g, o, ca, lw, op, h1, h2, h3⟩ := l
  exact ⟨dx, b, g, o, ca, lw, op, hr _ h1, h2.kept h, h3.kept h⟩
theorem RingAt.same {K : PySem.W.Frag} {H H' : Hp} {r : Addr} {T : Tm} {L : Log} {t d : Nat} (h : Same H H') (l : RingAt K H r T L t d) : RingAt K H' r T L t d := l.kept (.of_same h) fun o e => h _ o e
/-- only objects of S are touched; these are dicts or instances with many fields -/
def Wide (H : Hp) (S : List Addr) : Prop := ∀ b ∈ S, (∃ kvs, H b = some (.dK kvs)) ∨ ∃ C dx fs, H b = some (.ins C dx fs) ∧ 2 ≤ fs.length
theorem Fr.kept {S : List Addr} {H H' : Hp} (w : Wide H S) (h : Fr S H H') : Kept H H' := by
  have out : ∀ b o, H b = some o → (∀ kvs, o ≠ .dK kvs) → (∀ C dx fs, o = .ins C dx fs → fs.length < 2) → b ∉ S := fun b o e h1 h2 z => by
    rcases w b z with ⟨kvs, q⟩ | ⟨C, dx, fs, q, l⟩
    · rw [e] at q
      exact h1 kvs (Option.some.inj q)
    · rw [e] at q
      have := h2 C dx fs (Option.some.inj q)
      omega
  refine ⟨fun b xs e => h b _ (out b _ e (fun _ z => by cases z) fun _ _ _ z => by cases z) e, fun b xs e => h b _ (out b _ e (fun _ z => by cases z) fun _ _ _ z => by cases z) e,
    fun b C dx f v e => h b _ (out b _ e (fun _ z => by cases z) fun _ _ fs z => ?_) e⟩
  cases z
  show 1 < 2
  decide
/-! ## the law's objects -/
/-- an entry of the law's chain -/
def CE (H : Hp) (x : V) (e : Ent) : Prop := ∃ (a : Addr) (v : V), x = .ref a ∧ H a = some (.tup [.str e.1, v, .bl e.2.isSome]) ∧ ∀ z, e.2 = some z → v = .int z
theorem CE.kept {H H' : Hp} (h : Kept H H') {x : V} {e : Ent} (r : CE H x e) : CE H' x e := by
  obtain ⟨a, v, h1, h2, h3⟩ := r
  exact ⟨a, v, h1, h.2.1 _ _ h2, h3⟩
theorem CE.same {H H' : Hp} (h : Same H H') {x : V} {e : Ent} (r : CE H x e) : CE H' x e := CE.kept (.of_same h) r
def ChainAt (H : Hp) (c : Addr) (L : Log) : Prop := ∃ xs, H c = some (.lst xs) ∧ Paired (CE H) xs L
theorem ChainAt.kept {H H' : Hp} (h : Kept H H') {c : Addr} {L : Log} (r : ChainAt H c L) : ChainAt H' c L := by
  obtain ⟨xs, h1, h2⟩ := r
  exact ⟨xs, h.1 _ _ h1, p_mono (fun _ _ => CE.kept h) h2⟩
theorem ChainAt.same {H H' : Hp} (h : Same H H') {c : Addr} {L : Log} (r : ChainAt H c L) : ChainAt H' c L := r.kept (.of_same h)
abbrev bookV (B : List (Str × Int)) : List (Key × V) := B.map fun p => ((.inr p.1 : Key), V.int p.2)
def worldV (T : Tm) (c ch bk : Addr) (t d : Int) : List (Key × V) := [(.inr "span", .int T.span), (.inr "cap", .int T.cap), (.inr "cycle", .ref c), (.inr "rear", .bl T.rear), (.inr "chain", .ref ch), (.inr "book", .ref bk), (.inr "turn", .int t), (.inr "done", .int d)]
/-- the book says the living keys and their values -/
structure BookOf (B : List (Str × Int)) (L : Log) : Prop where
  nd : (B.map (·.1)).Nodup
  mem : ∀ k z, (k, z) ∈ B ↔ (k, some z) ∈ L
def WorldAt (H : Hp) (wd : Addr) (T : Tm) (L : Log) (t : Nat) (c bk : Addr) (B : List (Str × Int)) : Prop := ∃ (ch : Addr) (d : Int), H wd = some (.dK (worldV T c ch bk t d)) ∧ H c = some (.lst (T.cyc.map V.int)) ∧ ChainAt H ch L ∧ H bk = some (.dK (bookV B)) ∧ BookOf B L
theorem log_put {K : PySem.W.Frag} {H0 H : Hp} {g e dg : Addr} {fs : List (Str × V)} {xs : List V} {L : Log} (s : Same H0 H) (ng : H0 g = none) (hg : H g = some (.ins (He.ga K "RingLog") dg fs)) (ne : H e = none) (nd : xs.Nodup) (p : Paired (RE H0 H) xs L) :
    Same H0 (upd (upd H e (.lst xs)) g (.ins (He.ga K "RingLog") dg [("entries", .ref e)])) ∧ LogAt K H0 (upd (upd H e (.lst xs)) g (.ins (He.ga K "RingLog") dg [("entries", .ref e)])) g L := by
  have eg : g ≠ e := ne_of_none hg ne
  refine ⟨fun b o q => ?_, ng, dg, e, xs, upd_same, by rw [upd_ne eg.symm, upd_same], s.free ne, nd, p_mono (fun x en r => r.lists fun b ys q => ?_) p⟩
  · rw [upd_ne (ne_of_none q ng), upd_ne (ne_of_none q (s.free ne))]
    exact s b o q
  · rw [upd_ne (kind_ne q hg (by intro z; cases z)), upd_ne (ne_of_none q ne)]
    exact q
theorem for_enum {K : PySem.W.Frag} {a : Addr} {xs : List V} {g : TG} {tb : TS} {D : Ends} {σ : L2.St} {H : Hp} (Pv : Nat → L2.St → Hp → Prop) (h0 : Pv 0 σ H) (hl : ∀ i σ H, i ≤ xs.length → Pv i σ H → SqL K H a xs)
    (hs : ∀ i x σ H T, xs[i]? = some x → Pv i σ H → H T = none → g (.ref T) σ (upd H T (.tup [.int (i : Nat), x])) fun σ2 H2 => tb { D with nx := Pv (i + 1), ct := Pv (i + 1), bk := D.nx } σ2 H2) (hd : ∀ σ H, Pv xs.length σ H → D.nx σ H) :
    ∃ W : Nat → Nat → L2.St → Hp → Prop, (∃ m, W 0 m σ H) ∧ ∀ i m σ H, W i m σ H →
      ((Ite K a).stop i H ∧ D.nx σ H) ∨ ((Ite K a).go i H ∧ ∃ N : L2.St → Hp → Prop, (∀ σ' H', N σ' H' → ∃ m', m' < m ∧ W (i + 1) m' σ' H') ∧ ∀ x H', (Ite K a).yld i H x H' → g x σ H' fun σ2 H2 => tb { D with nx := N, ct := N, bk := D.nx } σ2 H2) := by
  refine ⟨fun i m σ H => m = xs.length - i ∧ i ≤ xs.length ∧ Pv i σ H, ⟨xs.length, by simp, Nat.zero_le _, h0⟩, ?_⟩
  rintro i m σ H ⟨rfl, hi, p⟩
  have q := hl i σ H hi p
  by_cases hlt : i < xs.length
  · refine .inr ⟨⟨xs, xs[i], q, by simp [hlt]⟩, Pv (i + 1), fun σ' H' p' => ⟨xs.length - (i + 1), by omega, rfl, hlt, p'⟩, fun x H' y => ?_⟩
    obtain ⟨T, z, rfl, nT, rfl, y⟩ := y
    exact hs i z σ H T (y xs q) p nT
  · have e : i = xs.length := by omega
    subst e
    exact .inl ⟨⟨xs, q, Nat.le_refl _⟩, hd σ H p⟩
theorem cut_from (xs : List V) (i : Nat) : cutV xs (some (i : Int)) none = xs.drop i := by
  unfold cutV
  rw [HT.sIx_nat, HT.sIx_none]
  by_cases h : i ≤ xs.length
  · rw [Nat.min_eq_left h, List.take_of_length_le (by rw [List.length_drop] <;> omega)]
  · rw [Nat.min_eq_right (by omega), List.drop_eq_nil_of_le (Nat.le_refl _), List.drop_eq_nil_of_le (by omega), List.take_nil]
theorem cut_to (xs : List V) (j : Nat) : cutV xs none (some (j : Int)) = xs.take j := by
  unfold cutV
  rw [HT.sIx_nat, HT.sIx_none]
  show (xs.drop 0).take (min j xs.length - 0) = xs.take j
  rw [List.drop_zero, Nat.sub_zero]
  by_cases h : j ≤ xs.length
  · rw [Nat.min_eq_left h]
  · rw [Nat.min_eq_right (by omega), List.take_of_length_le (Nat.le_refl _), List.take_of_length_le (by omega)]
/-! ## small words -/
def SmallI (i : Int) : Prop := i.natAbs ≤ 10 ^ 20
theorem SmallI.lt {i : Int} (h : SmallI i) : i.natAbs < 10 ^ 30 := Nat.lt_of_le_of_lt h (by decide)
def GK (k : Str) : Prop := 1 ≤ k.length ∧ k.length ≤ 12 ∧ ∀ c ∈ k.cps.toList, c ∈ ("abcdefghijklmnopqrstuvwxyz0123456789" : Str).cps.toList
/-- what holds of every log here -/
structure LogOk (T : Tm) (L : Log) : Prop where
  nd : (nms L).Nodup
  key : ∀ e ∈ L, GK e.1
  val : ∀ e ∈ L, ∀ z, e.2 = some z → SmallI z
  len : L.length ≤ T.span
  hd : trim L = L
section
variable {P : Program} {w : World} {K : PySem.W.Frag} {mg : Str → Option Value} {base : Heap}
theorem mkR {x qual : Str} {params : Arguments} {body : List Stmt} {scope : Scope} {kws : List (Str × V)} {f : Addr} {fd : FuncData} {N ps : List Str} {k : Nat} {sp : Sp} (F : FunD K x qual params body scope [] kws f fd) (S : FnScope N ps scope) (hb : Binds K fd ps [])
    (len : ∀ vs H Q E, sp vs H Q E → vs.length = ps.length)
    (hbody : ∀ (cdv : Value) (A : Around) (outer : List Env) (s : Shared) (H : Hp) (vs : List V) (Q : VK) (E : XK), Room k (A.deeper (envOfC qual scope s.heap.objs.size f cdv)) → sp vs H Q E →
      ∃ t, PSs (cxOf (L2.CX P w) P w K mg base N qual scope f cdv A outer s H E) body t ∧ t { nx := fun _ H' => Q .non H', rt := Q } (start N vs) H) : FnR P w K mg base (L2.CX P w) (k + 1) f sp :=
  ((F.ok (CX := L2.CX P w) S len hbody).raw hb .nil).imp fun vs H Q E h => by rw [List.append_nil]; exact h
/-! the rules that read K, with K told (within a comprehension the context is another one) -/
section
variable {X : Cx} {K : PySem.W.Frag} {e a b o i : Expr} {rest es : List Expr} {f : Str} {pos : Pos} {ta tb : TE} {t : TGs} {n k : Nat}
theorem ix_listK (K : PySem.W.Frag) (h : X.K = K := by rfl) : IxR X (rIxL K) := by subst h; exact ix_list
theorem ix_tupK (K : PySem.W.Frag) (h : X.K = K := by rfl) : IxR X (rIxT K) := by subst h; exact ix_tup
theorem call_len_seqK (K : PySem.W.Frag) (h : X.K = K := by rfl) : CallR X (.builtin "len") (fun xs H Q => ∃ p ys, xs = [.ref p] ∧ (SqL K H p ys ∨ SqT K H p ys) ∧ Q (.int ys.length) H) := by subst h; exact call_len_seq
theorem call_list_ofK (K : PySem.W.Frag) (h : X.K = K := by rfl) : CallR X (.type "list") (fun xs H Q => ∃ p ys, xs = [.ref p] ∧ (SqL K H p ys ∨ SqT K H p ys) ∧ ∀ l, H l = none → Q (.ref l) (upd H l (.lst ys))) := by subst h; exact call_list_of
theorem pe_fldK (K : PySem.W.Frag) (he : PE X e ta) (hb : attributeBase e f X.env (eval e X.env) = eval e X.env) (h : X.K = K := by rfl) : PE X (.Attribute e f pos) (tFld K ta f) := by subst h; exact pe_fld he hb
theorem pe_andTK (K : PySem.W.Frag) (ha : PE X a ta) (hb : PE X (.BoolOp .And (b :: rest) pos) tb) (h : X.K = K := by rfl) : PE X (.BoolOp .And (a :: b :: rest) pos) (tAndT K ta tb) := by subst h; exact pe_andT ha hb
theorem pg_lstK (K : PySem.W.Frag) (hc : X.calm = true) (h : PGs X es t) (hk : X.K = K := by rfl) (hn : (assignEach es X.env).length = n := by rfl) (hst : (assignEach es X.env).findIdx? (·.1) = none := by rfl) : PG X (.Tuple es k pos) (gLst K n t) := by
  subst hk
  exact pg_lst hc h hn hst
theorem pg_tupK (K : PySem.W.Frag) (hc : X.calm = true) (h : PGs X es t) (hk : X.K = K := by rfl) (hn : (assignEach es X.env).length = n := by rfl) (hst : (assignEach es X.env).findIdx? (·.1) = none := by rfl) : PG X (.Tuple es k pos) (gTup K n t) := by
  subst hk
  exact pg_tup hc h hn hst
end
theorem rm64 {k : Nat} {A : Around} (h : Room k A) : A.units + 64 < cLine := by
  have := h.un
  omega
/-- sorted of a list of texts, any number of them -/
theorem cr_sortedA {X : Cx} : CallR X (.builtin "sorted") (fun vs H Q => ∃ (a : Addr) (xs : List Str), vs = [V.ref a] ∧ SqL X.K H a (xs.map V.str) ∧ ∀ (ys : List Str) (p : Addr), ys.Perm xs → sortedS ys = true → H p = none → Q (.ref p) (upd H p (.lst (ys.map V.str)))) := by
  intro pins s σ H vs us Q I r h
  obtain ⟨a, xs, rfl, hs, q⟩ := h
  obtain ⟨its, rv, hl, hz⟩ := I.list hs
  rw [Vals.ref1 r]
  rw [List.length_map] at hz
  have l0 := rv.length
  rw [List.length_map] at l0
  refine PyProof.Rows.sorted_strsAny hl.isList rv.strs (by rw [← l0]; exact hz) fun out ys k1 k2 k3 => ?_
  obtain ⟨ep, he⟩ := PyProof.Rows.sortedAll_at s.heap its out
  have l1 : (ys.map V.str).length ≤ sizeLine := by
    rw [List.length_map, k2.length_eq]
    exact hz
  exact ⟨.ref _, upd H (s.heap.objs.size + 1) (.lst (ys.map V.str)), I.laid (t' := s.toks) (fun _ _ => PyProof.Rows.sortedAll_old) (Nat.le_succ _) ⟨l1, out.toList, ep, vals_of_strs k1, he⟩, rfl, q ys _ k2 k3 (I.hok.fresh (Nat.le_succ _))⟩
end
end K12

set_option Elab.async false
set_option linter.all false
set_option maxRecDepth 100000
set_option maxHeartbeats 4000000
namespace K12
open PySem PySem.Spec PyProof.Rows L2
/-! ## is_needed, the log's methods -/
def spNeed (K : PySem.W.Frag) : Sp := fun vs H Q _ => ∃ (a rd : Addr) (k v : V) (b : Bool), vs = [.ref a] ∧ H a = some (.lst [k, v, .bl b, .ref rd]) ∧ H rd = some (.lst []) ∧ Q (.bl b) H
theorem scIsNeeded : FnScope ["entry"] ["entry"] (defScope sIsNeeded) := ⟨rfl, rfl, rfl, by decide +kernel, rfl, by decide +kernel, by decide +kernel⟩
theorem Tx.kIsNeeded {K : PySem.W.Frag} {mg : Str → Option Value} (T : Tx K mg) : PySem.W.keepIn K (.ref (He.ga K "is_needed")) = true := let ⟨_, F⟩ := T.fsIsNeeded; F.kp
theorem r_is_needed {w : World} {K : PySem.W.Frag} {mg : Str → Option Value} {base : Heap} (T : Tx K mg) : FnR pg w K mg base (L2.CX pg w) 1 (He.ga K "is_needed") (spNeed K) := by
  obtain ⟨fd, F⟩ := T.fsIsNeeded
  obtain ⟨tLIVING, hLIVING⟩ := T.i_LIVING
  obtain ⟨tREADERS, hREADERS⟩ := T.i_READERS
  refine mkR F scIsNeeded (F.bindsN fun _ _ _ _ _ _ us hl => match us, hl with | [_], _ => rfl) (fun vs H Q E h => ?_) (fun cdv A outer s H vs Q E hr h => ?_)
  · obtain ⟨a, rd, k, v, b, rfl, h1, h2, q⟩ := h
    rfl
  · obtain ⟨a, rd, k, v, b, rfl, h1, h2, q⟩ := h
    refine ⟨_, PSs.nox (pss_one (ps_ret (pe_orT (pe_ix ix_list (pv 0) (pe_glob (v := .int 2) (by rfl) hLIVING ⟨_, rfl⟩) (fun _ _ => rfl)) (pe_one (pe_cmpR op_gt (pe_callB call_len_seq (by rfl) T.n_len PySem.boot_len (pa_cons (pe_ix ix_list (pv 0) (pe_glob (v := .int 3) (by rfl) hREADERS ⟨_, rfl⟩) (fun _ _ => rfl)) pa_nil)) pe_int (nomark _)))))), ?_⟩
    refine ⟨_, rfl, a, _, _, _, rfl, rfl, SqL.of h1, rfl, b, rfl, ?_⟩
    cases b with
    | true => exact q
    | false => exact ⟨_, rfl, a, _, _, _, rfl, rfl, SqL.of h1, rfl, rd, _, rfl, .inl (SqL.of h2), _, _, rfl, rfl, q⟩
def spLogInit (K : PySem.W.Frag) : Sp := fun vs H Q _ => ∃ (g dg : Addr), vs = [.ref g] ∧ H g = some (.ins (He.ga K "RingLog") dg []) ∧ ∀ H', Fr [g] H H' → (∃ e, H' g = some (.ins (He.ga K "RingLog") dg [("entries", .ref e)]) ∧ H' e = some (.lst [])) → Q .non H'
theorem scRingLogInit : FnScope ["self"] ["self"] (defScope sRingLogInit) := ⟨rfl, rfl, rfl, by decide +kernel, rfl, by decide +kernel, by decide +kernel⟩
theorem r_RingLog_init {w : World} {K : PySem.W.Frag} {mg : Str → Option Value} {base : Heap} (T : Tx K mg) : FnR pg w K mg base (L2.CX pg w) 1 (He.ma K (He.ga K "RingLog") "__init__") (spLogInit K) := by
  obtain ⟨fd, F⟩ := T.fsRingLogInit
  refine mkR F scRingLogInit (F.bindsN fun _ _ _ _ _ _ us hl => match us, hl with | [_], _ => rfl) (fun vs H Q E h => ?_) (fun cdv A outer s H vs Q E hr h => ?_)
  · obtain ⟨g, dg, rfl, h1, q⟩ := h
    rfl
  · obtain ⟨g, dg, rfl, h1, q⟩ := h
    refine ⟨_, PSs.nox (pss_one (ps_fld (pv 0) (pe_lst pa_nil) rfl)), ?_⟩
    refine ⟨Nat.zero_le _, fun e ne => ⟨_, rfl, g, _, dg, [], rfl, (by rw [upd_ne (ne_of_none h1 ne)]; exact h1), T.c_RingLog, T.na_RingLog_entries, by decide, q _ ?_ ⟨e, upd_same, (by rw [upd_ne (ne_of_none h1 ne).symm, upd_same])⟩⟩⟩
    exact Fr.trans (.of_same (same_upd ne)) (.put (by simp))
theorem trim_at {L : Log} {i : Nat} {e : Ent} (h : L[i]? = some e) : trim (L.drop i) = if e.2.isSome = true then L.drop i else trim (L.drop (i + 1)) := by
  have e1 : L.drop i = e :: L.drop (i + 1) := by
    obtain ⟨hi, he⟩ := List.getElem?_eq_some_iff.mp h
    rw [List.drop_eq_getElem_cons hi, he]
  rw [e1]
  rfl
/-- trim, told of the log -/
def spTrim (K : PySem.W.Frag) : Sp := fun vs H Q _ => ∃ (g : Addr) (H0 : Hp) (L : Log), vs = [.ref g] ∧ Same H0 H ∧ LogAt K H0 H g L ∧ ∀ H', Same H0 H' → LogAt K H0 H' g (trim L) → Q .non H'
theorem scRingLogTrim : FnScope ["self", "dead"] ["self"] (defScope sRingLogTrim) := ⟨rfl, rfl, rfl, by decide +kernel, rfl, by decide +kernel, by decide +kernel⟩
theorem r_RingLog_trim {w : World} {K : PySem.W.Frag} {mg : Str → Option Value} {base : Heap} (T : Tx K mg) : FnR pg w K mg base (L2.CX pg w) 2 (He.ma K (He.ga K "RingLog") "trim") (spTrim K) := by
  obtain ⟨fd, F⟩ := T.fsRingLogTrim
  refine mkR F scRingLogTrim (F.bindsN fun _ _ _ _ _ _ us hl => match us, hl with | [_], _ => rfl) (fun vs H Q E h => ?_) (fun cdv A outer s H vs Q E hr h => ?_)
  · obtain ⟨g, H0, L, rfl, sm, ⟨ng, dg, e, xs, h1, h2, ne, nd, hp⟩, q⟩ := h
    rfl
  · obtain ⟨g, H0, L, rfl, sm, ⟨ng, dg, e, xs, h1, h2, ne, nd, hp⟩, q⟩ := h
    refine ⟨_, PSs.nox (pss_cons (ps_set (i := 1) scRingLogTrim.nd rfl (by first | exact .inl rfl | exact .inr rfl) pe_int)
      (pss_cons (ps_while PassesOwn.never (PW.pt (pw_and (pt_cmpR op_lt (pv 1) (pe_callB call_len_seq (by rfl) T.n_len PySem.boot_len (pa_cons (pe_fld (pv 0) rfl) pa_nil)) (nomark _)) (pw_and1 (pt_not (pt_val (pe_F (r_is_needed T) (hr.mono (by decide)) T.g_is_needed T.kIsNeeded takes0 (pa_cons (pe_ix ix_list (pe_fld (pv 0) rfl) (pv 1) (fun _ _ => rfl)) pa_nil))))))) (pss_one (ps_set (i := 1) scRingLogTrim.nd rfl (by first | exact .inl rfl | exact .inr rfl) (pe_op op_add (pv 1) pe_int))))
      (pss_one (ps_fld (pv 0) (pe_slice sl_list (pe_fld (pv 0) rfl) (po_some (pv 1)) po_none) rfl)))), ?_⟩
    have hl := p_len hp
    refine ⟨fun m σ H' => ∃ i : Nat, σ = [some (.ref g), some (.int i)] ∧ m = xs.length - i ∧ i ≤ xs.length ∧ H' = H ∧ trim (L.drop i) = trim L, ⟨xs.length - 0, 0, rfl, rfl, Nat.zero_le _, rfl, rfl⟩, ?_⟩
    rintro m σ H' ⟨i, rfl, rfl, hi, rfl, ht⟩
    refine ⟨_, rfl, _, rfl, g, _, dg, _, _, rfl, h1, T.c_RingLog, T.na_RingLog_entries, rfl, e, _, rfl, .inl (SqL.of h2), _, _, rfl, rfl, _, rfl, ?_⟩
    have fin : L.drop i = trim L → ∀ e', H' e' = none → Q .non (upd (upd H' e' (.lst (cutV xs (some (i : Int)) none))) g (.ins (He.ga K "RingLog") dg [("entries", .ref e')])) := fun et e' n' => by
      have lp := log_put (xs := cutV xs (some (i : Int)) none) (L := trim L) sm ng h1 n' (by rw [cut_from]; exact nd.sublist (List.drop_sublist _ _)) (by rw [cut_from, ← et]; exact p_drop i hp)
      exact q _ lp.1 lp.2
    by_cases hlt : i < xs.length
    · rw [decide_eq_true (show (i : Int) < (xs.length : Int) by omega)]
      refine iteT ?_
      obtain ⟨x, hx⟩ := get_of hlt
      obtain ⟨en, hen, re⟩ := p_get hp hx
      refine ⟨_, rfl, g, _, dg, _, _, rfl, h1, T.c_RingLog, T.na_RingLog_entries, rfl, _, rfl, e, xs, i, x, rfl, rfl, SqL.of h2, atI_nat hx, ?_⟩
      obtain ⟨a, v, rd, rfl, _, k1, k2, _⟩ := re
      refine ⟨a, rd, _, _, _, rfl, k1, k2, _, rfl, ?_⟩
      have ta := trim_at hen
      cases hb : en.2.isSome with
      | true =>
        rw [hb] at ta
        refine iteF ?_
        refine ⟨_, rfl, g, _, dg, _, _, rfl, h1, T.c_RingLog, T.na_RingLog_entries, rfl, _, rfl, i, rfl, e, xs, rfl, SqL.of h2, fun e' n' => ?_⟩
        refine ⟨_, rfl, g, _, dg, [("entries", .ref e)], rfl, (by rw [upd_ne (ne_of_none h1 n')]; exact h1), T.c_RingLog, T.na_RingLog_entries, (by show 1 < 1000; decide), fin (by rw [← ht, ta]; rfl) e' n'⟩
      | false =>
        rw [hb] at ta
        refine iteT ?_
        refine ⟨fun σ' H1 => ∃ j : Nat, σ' = [some (.ref g), some (.int j)] ∧ j = i + 1 ∧ H1 = H', fun σ' H1 hN => ?_, _, rfl, _, _, rfl, rfl, ?_⟩
        · obtain ⟨j, rfl, rfl, rfl⟩ := hN
          exact ⟨xs.length - (i + 1), by omega, i + 1, rfl, rfl, hlt, rfl, by rw [← ht, ta]; rfl⟩
        · exact ⟨i + 1, rfl, rfl, rfl⟩
    · rw [decide_eq_false (show ¬ (i : Int) < (xs.length : Int) by omega)]
      refine iteF ?_
      refine iteF ?_
      refine ⟨_, rfl, g, _, dg, _, _, rfl, h1, T.c_RingLog, T.na_RingLog_entries, rfl, _, rfl, i, rfl, e, xs, rfl, SqL.of h2, fun e' n' => ?_⟩
      refine ⟨_, rfl, g, _, dg, [("entries", .ref e)], rfl, (by rw [upd_ne (ne_of_none h1 n')]; exact h1), T.c_RingLog, T.na_RingLog_entries, (by show 1 < 1000; decide), fin ?_ e' n'⟩
      have z : L.drop i = [] := List.drop_eq_nil_of_le (by omega)
      rw [← ht, z]
      rfl
/-- as RE, off D -/
def RD (D : Addr) (H0 H : Hp) (x : V) (e : Ent) : Prop := ∃ (a : Addr) (v : V) (rd : Addr), x = .ref a ∧ a ≠ D ∧ rd ≠ D ∧ H0 a = none ∧ H a = some (.lst [.str e.1, v, .bl e.2.isSome, .ref rd]) ∧ H rd = some (.lst []) ∧ ∀ z, e.2 = some z → v = .int z
/-- copied: a log of its own -/
def spCopied (K : PySem.W.Frag) : Sp := fun vs H Q _ => ∃ (g : Addr) (L : Log), vs = [.ref g] ∧ LogAt K H00 H g L ∧ L.length ≤ 1000 ∧ ∀ H' g', Same H H' → LogAt K H H' g' L → Q (.ref g') H'
theorem scRingLogCopied : FnScope ["self", "other", "key", "value", "is_living", "seen_by"] ["self"] (defScope sRingLogCopied) := ⟨rfl, rfl, rfl, by decide +kernel, rfl, by decide +kernel, by decide +kernel⟩
theorem r_RingLog_copied {w : World} {K : PySem.W.Frag} {mg : Str → Option Value} {base : Heap} (T : Tx K mg) : FnR pg w K mg base (L2.CX pg w) 3 (He.ma K (He.ga K "RingLog") "copied") (spCopied K) := by
  obtain ⟨fd, F⟩ := T.fsRingLogCopied
  refine mkR F scRingLogCopied (F.bindsN fun _ _ _ _ _ _ us hl => match us, hl with | [_], _ => rfl) (fun vs H Q E h => ?_) (fun cdv A outer s H vs Q E hr h => ?_)
  · obtain ⟨g, L, rfl, ⟨_, dg, e, xs, h1, h2, _, nd, hp⟩, h1000, q⟩ := h
    rfl
  · obtain ⟨g, L, rfl, ⟨_, dg, e, xs, h1, h2, _, nd, hp⟩, h1000, q⟩ := h
    refine ⟨_, PSs.nox (pss_cons (ps_set (i := 1) scRingLogCopied.nd rfl (by first | exact .inl rfl | exact .inr rfl) (pe_make0R T.mk_RingLog (r_RingLog_init T) (hr.mono (by decide)) T.g_RingLog passL))
      (pss_cons (ps_fld (pv 1) (pe_lc (own := [("key", 2), ("value", 3), ("is_living", 4), ("seen_by", 5)]) rfl scRingLogCopied.nd (pi_list (pe_fld (pv 0) rfl)) (blkOk_by (N := [("self" : Str), ("other" : Str), ("key" : Str), ("value" : Str), ("is_living" : Str), ("seen_by" : Str)]) (sc := defScope sRingLogCopied) (by decide +kernel)) (fun _ _ _ _ _ => (pg_lstK (n := 4) K rfl (pgs_cons (pg_name (i := 2) scRingLogCopied.nd rfl (.inl rfl)) (pgs_cons (pg_name (i := 3) scRingLogCopied.nd rfl (.inl rfl)) (pgs_cons (pg_name (i := 4) scRingLogCopied.nd rfl (.inl rfl)) (pgs_cons (pg_name (i := 5) scRingLogCopied.nd rfl (.inl rfl)) pgs_nil)))))) (fun _ _ _ _ _ => pts_nil) (fun _ _ _ _ _ => (pe_lst (pa_cons (pv 2) (pa_cons (pv 3) (pa_cons (pv 4) (pa_cons (pe_callTy (call_list_ofK K) (by rfl) T.n_list (by decide +kernel) (pa_cons (pv 5) pa_nil)) pa_nil))))))) rfl)
      (pss_one (ps_ret (pv 1))))), ?_⟩
    have hl := p_len hp
    intro x dx nx ndx nex
    refine ⟨x, dx, rfl, upd_same, fun H2 f2 ⟨e0, hx2, _⟩ => ⟨rfl, ?_⟩⟩
    have S2 : Same H H2 := fun b o q => f2 b o (by simpa using ne_of_none q nx) (Same.step (same_upd ndx) nx b o q)
    refine ⟨_, rfl, g, _, dg, _, _, rfl, S2 _ _ h1, T.c_RingLog, T.na_RingLog_entries, rfl, e, rfl, ⟨_, SqL.of (S2 _ _ h2)⟩, fun D nD => lc_list (xs := xs)
      (fun i H' => ∃ acc, H' D = some (.lst acc) ∧ Same H2 H' ∧ acc.length = i ∧ acc.Nodup ∧ Paired (RD D H H') acc (L.take i)) ⟨[], upd_same, same_upd nD, rfl, List.nodup_nil, .nil⟩ (fun i H' _ h => ?_) (fun i en H' hx h => ?_) (fun H' h => ?_)⟩
    · obtain ⟨_, _, sm, _⟩ := h
      exact SqL.of (sm _ _ (S2 _ _ h2))
    · obtain ⟨acc, hD, sm, la, na, pa⟩ := h
      obtain ⟨ev, hen, a, v, rd, rfl, _, k1, k2, k3⟩ := p_get hp hx
      have k1' := sm _ _ (S2 _ _ k1)
      have k2' := sm _ _ (S2 _ _ k2)
      refine ⟨a, _, rfl, SqL.of k1', rfl, _, _, rfl, _, _, rfl, _, _, rfl, _, _, rfl, rfl, rfl, ?_⟩
      refine ⟨_, rfl, _, rfl, _, rfl, _, rfl, rd, [], rfl, .inl (SqL.of k2'), fun l nl => ⟨(by show 4 ≤ sizeLine; decide), fun p np => ⟨acc, ?_, Nat.lt_of_le_of_lt (by have := get_lt hx; omega) (small1000 h1000), acc ++ [.ref p], ?_, ?_, ?_, ?_, ?_⟩⟩⟩
      all_goals have nlp : l ≠ p := fun z => by rw [← z, upd_same] at np; cases np
      all_goals have np1 : H' p = none := by rw [upd_ne nlp.symm] at np; exact np
      all_goals have pD : D ≠ p := ne_of_none hD np1
      all_goals have lD : D ≠ l := ne_of_none hD nl
      · rw [upd_ne pD, upd_ne lD]
        exact hD
      · rw [upd_same]
      · refine Same.step (Same.step (Same.step sm ?_) ?_) nD
        · exact sm.free nl
        · exact sm.free np1
      · rw [List.length_append, la]
        rfl
      · refine List.nodup_append.mpr ⟨na, by simp, fun b hb c hc => ?_⟩
        obtain rfl : c = .ref p := by simpa using hc
        intro z
        subst z
        obtain ⟨e', he', a', v', rd', q1, _, _, q2, q3, q4⟩ := p_mem pa hb
        cases q1
        rw [np1] at q3
        cases q3
      · rw [take_next hen]
        refine p_app (p_mono (fun y en r => ?_) pa) (.cons ⟨p, v, l, rfl, pD.symm, lD.symm, S2.free (sm.free np1), by rw [upd_ne pD.symm, upd_same], by rw [upd_ne lD.symm, upd_ne nlp, upd_same], k3⟩ .nil)
        obtain ⟨a', v', rd', q1, aD, rD, q2, q3, q4, q5⟩ := r
        refine ⟨a', v', rd', q1, aD, rD, q2, ?_, ?_, q5⟩
        · rw [upd_ne aD, upd_ne (ne_of_none q3 np1), upd_ne (ne_of_none q3 nl)]
          exact q3
        · rw [upd_ne rD, upd_ne (ne_of_none q4 np1), upd_ne (ne_of_none q4 nl)]
          exact q4
    · obtain ⟨acc, hD, sm, la, na, pa⟩ := h
      have hx3 := sm _ _ hx2
      have xD : x ≠ D := ne_of_none hx2 nD
      refine ⟨_, rfl, x, _, dx, _, rfl, hx3, T.c_RingLog, T.na_RingLog_entries, (by show 1 < 1000; decide), _, rfl, ?_⟩
      have S3 : Same H (upd H' x (.ins (He.ga K "RingLog") dx [("entries", .ref D)])) := Same.step (Same.trans S2 sm) nx
      refine q _ x S3 ⟨nx, dx, D, acc, upd_same, by rw [upd_ne xD.symm]; exact hD, S2.free nD, na, ?_⟩
      rw [hl, List.take_of_length_le (Nat.le_refl _)] at pa
      refine p_mono (fun y en r => ?_) pa
      obtain ⟨a', v', rd', q1, _, _, q2, q3, q4, q5⟩ := r
      refine ⟨a', v', rd', q1, q2, ?_, ?_, q5⟩
      · rw [upd_ne (kind_ne q3 hx3 (by intro z; cases z))]
        exact q3
      · rw [upd_ne (kind_ne q4 hx3 (by intro z; cases z))]
        exact q4
/-- the index of a key's living entry -/
def spFind (K : PySem.W.Frag) : Sp := fun vs H Q _ => ∃ (g : Addr) (k : Str) (L : Log), vs = [.ref g, .str k] ∧ LogAt K H00 H g L ∧ (∀ (i : Nat) z H', L[i]? = some (k, some z) → Same H H' → Q (.int i) H') ∧ (∀ H', k ∉ nms L → Same H H' → Q .non H')
theorem nms_mem {L : Log} {k : Str} : k ∈ nms L ↔ ∃ z, (k, some z) ∈ L := by
  unfold nms liv
  rw [List.mem_map]
  constructor
  · rintro ⟨e, he, rfl⟩
    obtain ⟨h1, h2⟩ := List.mem_filter.mp he
    obtain ⟨z, hz⟩ := Option.isSome_iff_exists.mp h2
    exact ⟨z, by rw [← hz]; exact h1⟩
  · rintro ⟨z, hz⟩
    exact ⟨(k, some z), List.mem_filter.mpr ⟨hz, rfl⟩, rfl⟩
theorem scRingLogFindLiving : FnScope ["self", "key", "index", "entry"] ["self", "key"] (defScope sRingLogFindLiving) := ⟨rfl, rfl, rfl, by decide +kernel, rfl, by decide +kernel, by decide +kernel⟩
theorem r_RingLog_find_living {w : World} {K : PySem.W.Frag} {mg : Str → Option Value} {base : Heap} (T : Tx K mg) : FnR pg w K mg base (L2.CX pg w) 1 (He.ma K (He.ga K "RingLog") "find_living") (spFind K) := by
  obtain ⟨fd, F⟩ := T.fsRingLogFindLiving
  obtain ⟨tKEY, hKEY⟩ := T.i_KEY
  obtain ⟨tLIVING, hLIVING⟩ := T.i_LIVING
  refine mkR F scRingLogFindLiving (F.bindsN fun _ _ _ _ _ _ us hl => match us, hl with | [_, _], _ => rfl) (fun vs H Q E h => ?_) (fun cdv A outer s H vs Q E hr h => ?_)
  · obtain ⟨g, k, L, rfl, ⟨_, dg, e, xs, h1, h2, _, nd, hp⟩, q1, q2⟩ := h
    rfl
  · obtain ⟨g, k, L, rfl, ⟨_, dg, e, xs, h1, h2, _, nd, hp⟩, q1, q2⟩ := h
    refine ⟨_, PSs.nox (pss_cons (ps_for PassesOwn.never rfl (pi_enum (by rfl) T.n_enumerate (pa_cons (pe_fld (pv 0) rfl) pa_nil)) (pg_tup rfl (pgs_cons (pg_name (i := 2) scRingLogFindLiving.nd rfl (by first | exact .inl rfl | exact .inr rfl)) (pgs_cons (pg_name (i := 3) scRingLogFindLiving.nd rfl (by first | exact .inl rfl | exact .inr rfl)) pgs_nil))) (pss_one (ps_if (PW.pt (pw_and (pt_val (pe_ix ix_list (pv 3) (pe_glob (v := .int 2) (by rfl) hLIVING ⟨_, rfl⟩) (fun _ _ => rfl))) (pw_and1 (pt_cmpR op_eq (pe_ix ix_list (pv 3) (pe_glob (v := .int 0) (by rfl) hKEY ⟨_, rfl⟩) (fun _ _ => rfl)) (pv 1) (nomark _))))) (pss_one (ps_ret (pv 2))) pss_nil)))
      (pss_one (ps_ret pe_non))), ?_⟩
    have hl := p_len hp
    refine ⟨_, rfl, g, _, dg, _, _, rfl, h1, T.c_RingLog, T.na_RingLog_entries, rfl, e, xs, rfl, SqL.of h2, for_enum (xs := xs)
      (fun i σ H' => (∃ y2 y3, σ = [some (.ref g), some (.str k), y2, y3]) ∧ Same H H' ∧ ∀ j z, j < i → L[j]? ≠ some (k, some z)) ⟨⟨none, none, rfl⟩, .refl _, fun j z hj => absurd hj (Nat.not_lt_zero _)⟩
      (fun i σ H' _ h => ?_) (fun i x σ H' T1 hx h nT => ?_) (fun σ H' h => ?_)⟩
    · exact SqL.of (h.2.1 _ _ h2)
    · obtain ⟨⟨y2, y3, rfl⟩, sm, hno⟩ := h
      obtain ⟨ev, hen, a, v, rd, rfl, _, k1, k2, k3⟩ := p_get hp hx
      have sm2 : Same H (upd H' T1 (.tup [.int (i : Nat), .ref a])) := Same.step sm (sm.free nT)
      have k1' := sm2 _ _ k1
      refine ⟨T1, _, rfl, .inl (.inl upd_same), rfl, _, _, rfl, _, _, rfl, rfl, ?_⟩
      refine ⟨_, rfl, a, _, _, _, rfl, rfl, SqL.of k1', rfl, _, rfl, ?_⟩
      have stay : ¬ (∃ z, ev = (k, some z)) → ∀ j z, j < i + 1 → L[j]? ≠ some (k, some z) := fun hn j z hj e => by
        by_cases hji : j < i
        · exact hno j z hji e
        · have : j = i := by omega
          subst this
          rw [hen] at e
          exact hn ⟨z, Option.some.inj e⟩
      cases hb : ev.2 with
      | none =>
        exact iteF (iteF ⟨⟨_, _, rfl⟩, sm2, stay fun ⟨z, hz⟩ => by rw [hz] at hb; cases hb⟩)
      | some z =>
        refine iteT ?_
        refine ⟨_, rfl, a, _, _, _, rfl, rfl, SqL.of k1', rfl, _, rfl, rfl, _, rfl, ?_⟩
        refine ite2 (fun hk => ?_) (fun hk => ?_)
        · have hk' : ev.1 = k := by
            have := of_decide_eq_true hk
            injection this
          refine ⟨_, rfl, q1 i z _ ?_ sm2⟩
          rw [hen, ← hk', ← hb]
        · refine ⟨⟨_, _, rfl⟩, sm2, stay fun ⟨z', hz⟩ => hk (decide_eq_true (by rw [hz]))⟩
    · obtain ⟨⟨y2, y3, rfl⟩, sm, hno⟩ := h
      refine q2 _ (fun hk => ?_) sm
      obtain ⟨z, hz⟩ := nms_mem.mp hk
      obtain ⟨j, hj, he⟩ := List.getElem_of_mem hz
      exact hno j z (by rw [hl]; exact hj) (by rw [List.getElem?_eq_getElem hj, he])
end K12

set_option Elab.async false
set_option linter.all false
set_option maxRecDepth 100000
set_option maxHeartbeats 4000000
namespace K12
open PySem PySem.Spec PyProof.Rows L2
theorem cnt_take {L : Log} {i : Nat} {e : Ent} (h : L[i]? = some e) : cnt (L.take (i + 1)) = cnt (L.take i) + if e.2.isSome = true then 1 else 0 := by
  rw [take_next h]
  unfold cnt liv
  rw [List.filter_append, List.length_append]
  congr 1
  cases q : e.2.isSome <;> simp [q]
theorem nodup_inj {α : Type} : ∀ {xs : List α}, xs.Nodup → ∀ {i j : Nat} {x : α}, xs[i]? = some x → xs[j]? = some x → i = j
  | [], _, i, j, x, h, _ => by cases h
  | y :: ys, nd, 0, 0, x, _, _ => rfl
  | y :: ys, nd, 0, j + 1, x, h1, h2 => by
    obtain rfl : y = x := Option.some.inj h1
    exact absurd (List.mem_of_getElem? (show ys[j]? = some y from h2)) (List.nodup_cons.mp nd).1
  | y :: ys, nd, i + 1, 0, x, h1, h2 => by
    obtain rfl : y = x := Option.some.inj h2
    exact absurd (List.mem_of_getElem? (show ys[i]? = some y from h1)) (List.nodup_cons.mp nd).1
  | y :: ys, nd, i + 1, j + 1, x, h1, h2 => congrArg Nat.succ (nodup_inj (List.nodup_cons.mp nd).2 (i := i) (j := j) h1 h2)
/-- how many live -/
def spCount (K : PySem.W.Frag) : Sp := fun vs H Q _ => ∃ (g : Addr) (L : Log), vs = [.ref g] ∧ LogAt K H00 H g L ∧ L.length ≤ 1000 ∧ ∀ H', Same H H' → Q (.int (cnt L : Nat)) H'
theorem scRingLogNeededCount : FnScope ["self", "entry"] ["self"] (defScope sRingLogNeededCount) := ⟨rfl, rfl, rfl, by decide +kernel, rfl, by decide +kernel, by decide +kernel⟩
theorem r_RingLog_needed_count {w : World} {K : PySem.W.Frag} {mg : Str → Option Value} {base : Heap} (T : Tx K mg) : FnR pg w K mg base (L2.CX pg w) 2 (He.ma K (He.ga K "RingLog") "needed_count") (spCount K) := by
  obtain ⟨fd, F⟩ := T.fsRingLogNeededCount
  refine mkR F scRingLogNeededCount (F.bindsN fun _ _ _ _ _ _ us hl => match us, hl with | [_], _ => rfl) (fun vs H Q E h => ?_) (fun cdv A outer s H vs Q E hr h => ?_)
  · obtain ⟨g, L, rfl, ⟨_, dg, e, xs, h1, h2, _, nd, hp⟩, h1000, q⟩ := h
    rfl
  · obtain ⟨g, L, rfl, ⟨_, dg, e, xs, h1, h2, _, nd, hp⟩, h1000, q⟩ := h
    refine ⟨_, PSs.nox (pss_one (ps_ret (pe_callB call_len_seq (by rfl) T.n_len PySem.boot_len (pa_cons (pe_lc (own := [("entry", 1)]) rfl scRingLogNeededCount.nd (pi_list (pe_fld (pv 0) rfl)) (blkOk_by (N := [("self" : Str), ("entry" : Str)]) (sc := defScope sRingLogNeededCount) (by decide +kernel)) (fun _ _ _ _ _ => (pg_name (i := 1) scRingLogNeededCount.nd rfl (.inl rfl))) (fun _ _ _ _ _ => (pts_one (pt_val (pe_F (r_is_needed T) (hr.mono (by decide)) T.g_is_needed T.kIsNeeded takes0 (pa_cons (pv 1) pa_nil))))) (fun _ _ _ _ _ => (pv 1))) pa_nil)))), ?_⟩
    have hl := p_len hp
    refine ⟨_, rfl, g, _, dg, _, _, rfl, h1, T.c_RingLog, T.na_RingLog_entries, rfl, e, rfl, ⟨_, SqL.of h2⟩, fun D nD => lc_list (xs := xs)
      (fun i H' => ∃ acc, H' D = some (.lst acc) ∧ Same H H' ∧ acc.length = cnt (L.take i) ∧ acc.length ≤ i) ⟨[], upd_same, same_upd nD, rfl, Nat.zero_le _⟩ (fun i H' _ h => ?_) (fun i en H' hx h => ?_) (fun H' h => ?_)⟩
    · obtain ⟨_, _, sm, _⟩ := h
      exact SqL.of (sm _ _ h2)
    · obtain ⟨acc, hD, sm, la, lb⟩ := h
      obtain ⟨ev, hen, a, v, rd, rfl, _, k1, k2, k3⟩ := p_get hp hx
      have ct := cnt_take hen
      refine ⟨rfl, _, rfl, a, rd, _, _, _, rfl, sm _ _ k1, sm _ _ k2, _, rfl, ?_⟩
      cases hb : ev.2.isSome with
      | true =>
        rw [hb] at ct
        refine ⟨_, rfl, acc, hD, Nat.lt_of_le_of_lt (by have := get_lt hx; omega) (small1000 h1000), acc ++ [.ref a], upd_same, Same.step sm nD, ?_, ?_⟩
        · rw [List.length_append, la, ct]
          rfl
        · rw [List.length_append]
          show acc.length + 1 ≤ i + 1
          omega
      | false =>
        rw [hb] at ct
        exact ⟨acc, hD, sm, by rw [la, ct]; rfl, by omega⟩
    · obtain ⟨acc, hD, sm, la, lb⟩ := h
      refine ⟨D, acc, rfl, .inl (SqL.of hD), ?_⟩
      rw [la, hl, List.take_of_length_le (Nat.le_refl _)]
      exact q _ sm
/-- a draft's change: the log at g is f's from then on -/
def spAppend (K : PySem.W.Frag) : Sp := fun vs H Q _ => ∃ (g : Addr) (H0 : Hp) (L : Log) (k : Str) (v : V) (ov : Option Int), vs = [.ref g, .str k, v, .bl ov.isSome] ∧ Same H0 H ∧ LogAt K H0 H g L ∧ L.length ≤ 900 ∧ (∀ z, ov = some z → v = .int z) ∧
  ∀ H', Same H0 H' → LogAt K H0 H' g (trim (L ++ [(k, ov)])) → Q .non H'
theorem re_not_nil {H0 H : Hp} {xs : List V} {L : Log} (hp : Paired (RE H0 H) xs L) {x : V} (hx : x ∈ xs) {e : Ent} (re : RE H0 H x e) {e1 : Addr} {a rd : Addr} {v : V} (h2 : H e1 = some (.lst xs)) (k1 : H a = some (.lst [.str e.1, v, .bl e.2.isSome, .ref rd])) (k2 : H rd = some (.lst [])) : a ≠ e1 ∧ rd ≠ e1 := by
  refine ⟨fun z => ?_, fun z => ?_⟩
  · rw [z, h2] at k1
    have z2 := Option.some.inj k1
    injection z2 with z2
    have hm : V.str e.1 ∈ xs := by rw [z2]; exact List.mem_cons_self
    obtain ⟨_, _, _, _, _, f, _⟩ := p_mem hp hm
    cases f
  · rw [z, h2] at k2
    have z2 := Option.some.inj k2
    injection z2 with z2
    rw [z2] at hx
    cases hx
theorem scRingLogAppendEntry : FnScope ["self", "key", "value", "is_living"] ["self", "key", "value", "is_living"] (defScope sRingLogAppendEntry) := ⟨rfl, rfl, rfl, by decide +kernel, rfl, by decide +kernel, by decide +kernel⟩
theorem r_RingLog_append_entry {w : World} {K : PySem.W.Frag} {mg : Str → Option Value} {base : Heap} (T : Tx K mg) : FnR pg w K mg base (L2.CX pg w) 3 (He.ma K (He.ga K "RingLog") "append_entry") (spAppend K) := by
  obtain ⟨fd, F⟩ := T.fsRingLogAppendEntry
  refine mkR F scRingLogAppendEntry (F.bindsN fun _ _ _ _ _ _ us hl => match us, hl with | [_, _, _, _], _ => rfl) (fun vs H Q E h => ?_) (fun cdv A outer s H vs Q E hr h => ?_)
  · obtain ⟨g, H0, L, k, v, ov, rfl, sm, ⟨ng, dg, e, xs, h1, h2, ne, nd, hp⟩, h900, hv, q⟩ := h
    rfl
  · obtain ⟨g, H0, L, k, v, ov, rfl, sm, ⟨ng, dg, e, xs, h1, h2, ne, nd, hp⟩, h900, hv, q⟩ := h
    refine ⟨_, PSs.nox (pss_cons (ps_expr (pe_bm PySem.F.plainAttrs_list PySem.F.slot_list_append PySem.F.type_list_append mt_append (pe_fld (pv 0) rfl) (pa_cons (pe_lst (pa_cons (pv 1) (pa_cons (pv 2) (pa_cons (pv 3) (pa_cons (pe_lst pa_nil) pa_nil))))) pa_nil)))
      (pss_one (ps_expr (pe_M0 (pv 0) T.c_RingLog T.m_RingLog_trim (r_RingLog_trim T) (hr.mono (by decide)) takes0)))), ?_⟩
    have hl := p_len hp
    refine ⟨_, rfl, g, _, dg, _, _, rfl, h1, T.c_RingLog, T.na_RingLog_entries, rfl, .inl ⟨rfl, _, SqL.of h2⟩, _, rfl, _, rfl, _, rfl, Nat.zero_le _, fun l nl => ⟨(by show 4 ≤ sizeLine; decide), fun p np => ?_⟩⟩
    have nlp : l ≠ p := fun z => by rw [← z, upd_same] at np; cases np
    have np1 : H p = none := by rw [upd_ne nlp.symm] at np; exact np
    have ep : e ≠ p := ne_of_none h2 np1
    have el : e ≠ l := ne_of_none h2 nl
    refine ⟨e, xs, _, rfl, rfl, (by rw [upd_ne ep, upd_ne el]; exact h2), Nat.lt_of_le_of_lt (show xs.length ≤ 1000 by omega) (small1000 (Nat.le_refl _)), ?_⟩
    have S1 : Same H0 (upd (upd (upd H l (.lst [])) p (.lst [.str k, v, .bl ov.isSome, .ref l])) e (.lst (xs ++ [.ref p]))) := Same.step (Same.step (Same.step sm (sm.free nl)) (sm.free np1)) ne
    refine ⟨_, rfl, g, dg, _, rfl, (by rw [upd_ne (kind_ne h1 h2 (by intro z; cases z)), upd_ne (ne_of_none h1 np1), upd_ne (ne_of_none h1 nl)]; exact h1), rfl, ?_⟩
    refine ⟨g, H0, L ++ [(k, ov)], rfl, S1, ⟨ng, dg, e, xs ++ [.ref p], ?_, upd_same, ne, ?_, ?_⟩, fun H' s l => q H' s l⟩
    · rw [upd_ne (kind_ne h1 h2 (by intro z; cases z)), upd_ne (ne_of_none h1 np1), upd_ne (ne_of_none h1 nl)]
      exact h1
    · refine List.nodup_append.mpr ⟨nd, by simp, fun b hb c hc => ?_⟩
      obtain rfl : c = .ref p := by simpa using hc
      intro z
      subst z
      obtain ⟨e', he', a', v', rd', q1, q2, q3, q4⟩ := p_mem hp hb
      cases q1
      rw [np1] at q3
      cases q3
    · refine p_app (p_monoI hp fun y hy en r => ?_) (.cons ⟨p, v, l, rfl, sm.free np1, by rw [upd_ne ep.symm, upd_same], by rw [upd_ne el.symm, upd_ne nlp, upd_same], hv⟩ .nil)
      have r0 := r
      obtain ⟨a', v', rd', q1, q2, q3, q4, q5⟩ := r
      obtain ⟨n1, n2⟩ := re_not_nil hp hy r0 h2 q3 q4
      refine ⟨a', v', rd', q1, q2, ?_, ?_, q5⟩
      · rw [upd_ne n1, upd_ne (ne_of_none q3 np1), upd_ne (ne_of_none q3 nl)]
        exact q3
      · rw [upd_ne n2, upd_ne (ne_of_none q4 np1), upd_ne (ne_of_none q4 nl)]
        exact q4
def spRelease (K : PySem.W.Frag) : Sp := fun vs H Q _ => ∃ (g : Addr) (H0 : Hp) (L : Log) (i : Nat) (k : Str) (ov : Option Int), vs = [.ref g, .int i] ∧ Same H0 H ∧ LogAt K H0 H g L ∧ L[i]? = some (k, ov) ∧
  ∀ H', Same H0 H' → LogAt K H0 H' g (trim (L.set i (k, none))) → Q .non H'
theorem scRingLogReleaseAt : FnScope ["self", "index"] ["self", "index"] (defScope sRingLogReleaseAt) := ⟨rfl, rfl, rfl, by decide +kernel, rfl, by decide +kernel, by decide +kernel⟩
theorem r_RingLog_release_at {w : World} {K : PySem.W.Frag} {mg : Str → Option Value} {base : Heap} (T : Tx K mg) : FnR pg w K mg base (L2.CX pg w) 3 (He.ma K (He.ga K "RingLog") "release_at") (spRelease K) := by
  obtain ⟨fd, F⟩ := T.fsRingLogReleaseAt
  obtain ⟨tLIVING, hLIVING⟩ := T.i_LIVING
  refine mkR F scRingLogReleaseAt (F.bindsN fun _ _ _ _ _ _ us hl => match us, hl with | [_, _], _ => rfl) (fun vs H Q E h => ?_) (fun cdv A outer s H vs Q E hr h => ?_)
  · obtain ⟨g, H0, L, i, k, ov, rfl, sm, ⟨ng, dg, e, xs, h1, h2, ne, nd, hp⟩, hi, q⟩ := h
    rfl
  · obtain ⟨g, H0, L, i, k, ov, rfl, sm, ⟨ng, dg, e, xs, h1, h2, ne, nd, hp⟩, hi, q⟩ := h
    refine ⟨_, PSs.nox (pss_cons (ps_asg pe_bl (pg_sub (pe_ix ix_list (pe_fld (pv 0) rfl) (pv 1) (fun _ _ => rfl)) (pe_glob (v := .int 2) (by rfl) hLIVING ⟨_, rfl⟩) set_list))
      (pss_one (ps_expr (pe_M0 (pv 0) T.c_RingLog T.m_RingLog_trim (r_RingLog_trim T) (hr.mono (by decide)) takes0)))), ?_⟩
    have hl := p_len hp
    obtain ⟨x, hx, re⟩ := p_get' hp hi
    have re0 := re
    obtain ⟨a, v, rd, rfl, na, k1, k2, k3⟩ := re
    obtain ⟨n1, n2⟩ := re_not_nil hp (List.mem_of_getElem? hx) re0 h2 k1 k2
    have ar : rd ≠ a := fun z => by rw [z, k1] at k2; cases k2
    refine ⟨_, rfl, g, _, dg, _, _, rfl, h1, T.c_RingLog, T.na_RingLog_entries, rfl, _, rfl, e, xs, i, _, rfl, rfl, SqL.of h2, atI_nat hx, a, _, 2, 2, rfl, rfl, k1, rfl, ?_⟩
    have hg : (upd H a (.lst (([.str k, v, .bl ov.isSome, .ref rd] : List V).set 2 (.bl false)))) g = some (.ins (He.ga K "RingLog") dg [("entries", .ref e)]) := by
      rw [upd_ne (kind_ne h1 k1 (by intro z; cases z))]
      exact h1
    refine ⟨_, rfl, g, dg, _, rfl, hg, rfl, ?_⟩
    refine ⟨g, H0, L.set i (k, none), rfl, Same.step sm na, ⟨ng, dg, e, xs, hg, (by rw [upd_ne n1.symm]; exact h2), ne, nd, ?_⟩, fun H' s l => q H' s l⟩
    have off : ∀ y ∈ xs, ∀ (j : Nat), xs[j]? = some y → j ≠ i → y ≠ V.ref a := fun y _ j hj hji z => by
      subst z
      exact hji (nodup_inj nd hj hx)
    have key : ∀ (ys : List V) (M : Log) (n : Nat), Paired (RE H0 H) ys M → (∀ j y, ys[j]? = some y → n + j ≠ i → y ≠ V.ref a) → (∀ y, n ≤ i → ys[i - n]? = some y → y = V.ref a) →
        Paired (RE H0 (upd H a (.lst (([.str k, v, .bl ov.isSome, .ref rd] : List V).set 2 (.bl false))))) ys (if n ≤ i then M.set (i - n) (k, none) else M) := by
      intro ys M n hpp
      induction hpp generalizing n with
      | nil => intro _ _; split <;> exact .nil
      | @cons y en ys M f t ih =>
        intro g1 g2
        have ih' := ih (n + 1) (fun j y hj hn => g1 (j + 1) y hj (by omega)) (fun y hn hy => g2 y (by omega) (by rw [show i - n = (i - (n + 1)) + 1 by omega]; exact hy))
        have other : n ≠ i → RE H0 (upd H a (.lst (([.str k, v, .bl ov.isSome, .ref rd] : List V).set 2 (.bl false)))) y en := fun hn => by
          obtain ⟨a', v', rd', q1, q2, q3, q4, q5⟩ := f
          have na' : a' ≠ a := fun z => g1 0 y rfl (by omega) (by rw [q1, z])
          have nr' : rd' ≠ a := fun z => by rw [z, k1] at q4; cases q4
          exact ⟨a', v', rd', q1, q2, by rw [upd_ne na']; exact q3, by rw [upd_ne nr']; exact q4, q5⟩
        by_cases h0 : n = i
        · subst h0
          rw [if_pos (Nat.le_refl _), Nat.sub_self]
          rw [if_neg (by omega)] at ih'
          refine .cons ?_ ih'
          have : y = V.ref a := g2 y (Nat.le_refl _) (by rw [Nat.sub_self]; rfl)
          subst this
          exact ⟨a, v, rd, rfl, na, upd_same, by rw [upd_ne ar]; exact k2, fun z hz => by cases hz⟩
        · by_cases hlt : n ≤ i
          · rw [if_pos hlt]
            rw [if_pos (by omega)] at ih'
            rw [show i - n = (i - (n + 1)) + 1 by omega]
            exact .cons (other h0) ih'
          · rw [if_neg hlt]
            rw [if_neg (by omega)] at ih'
            exact .cons (other h0) ih'
    have z := key xs L 0 hp (fun j y hj hn => off y (List.mem_of_getElem? hj) j hj (by omega)) (fun y _ hy => by rw [Nat.sub_zero, hx] at hy; exact (Option.some.inj hy).symm)
    rw [if_pos (Nat.zero_le _), Nat.sub_zero] at z
    exact z
def spTail (K : PySem.W.Frag) : Sp := fun vs H Q _ => ∃ (g : Addr) (H0 : Hp) (L : Log), vs = [.ref g] ∧ Same H0 H ∧ LogAt K H0 H g L ∧ L ≠ [] ∧ L.length ≤ 900 ∧ ∀ H', Same H0 H' → LogAt K H0 H' g (rot L) → Q .non H'
theorem scRingLogCarryTail : FnScope ["self"] ["self"] (defScope sRingLogCarryTail) := ⟨rfl, rfl, rfl, by decide +kernel, rfl, by decide +kernel, by decide +kernel⟩
theorem r_RingLog_carry_tail {w : World} {K : PySem.W.Frag} {mg : Str → Option Value} {base : Heap} (T : Tx K mg) : FnR pg w K mg base (L2.CX pg w) 3 (He.ma K (He.ga K "RingLog") "carry_tail") (spTail K) := by
  obtain ⟨fd, F⟩ := T.fsRingLogCarryTail
  refine mkR F scRingLogCarryTail (F.bindsN fun _ _ _ _ _ _ us hl => match us, hl with | [_], _ => rfl) (fun vs H Q E h => ?_) (fun cdv A outer s H vs Q E hr h => ?_)
  · obtain ⟨g, H0, L, rfl, sm, ⟨ng, dg, e, xs, h1, h2, ne, nd, hp⟩, hL, h900, q⟩ := h
    rfl
  · obtain ⟨g, H0, L, rfl, sm, ⟨ng, dg, e, xs, h1, h2, ne, nd, hp⟩, hL, h900, q⟩ := h
    refine ⟨_, PSs.nox (pss_cons (ps_fld (pv 0) (pe_op op_cat (pe_slice sl_list (pe_fld (pv 0) rfl) (po_some pe_int) po_none) (pe_lst (pa_cons (pe_ix ix_list (pe_fld (pv 0) rfl) pe_int (fun _ _ => rfl)) pa_nil))) rfl)
      (pss_one (ps_expr (pe_M0 (pv 0) T.c_RingLog T.m_RingLog_trim (r_RingLog_trim T) (hr.mono (by decide)) takes0)))), ?_⟩
    have hl := p_len hp
    obtain ⟨x0, hx0⟩ : ∃ x, xs[0]? = some x := get_of (by rw [hl]; exact List.length_pos_iff.mpr hL)
    refine ⟨_, rfl, g, _, dg, _, _, rfl, h1, T.c_RingLog, T.na_RingLog_entries, rfl, 1, rfl, e, xs, rfl, SqL.of h2, fun c nc => ?_⟩
    have gc : g ≠ c := ne_of_none h1 nc
    have ec : e ≠ c := ne_of_none h2 nc
    refine ⟨_, rfl, g, _, dg, [("entries", .ref e)], _, rfl, (by rw [upd_ne gc]; exact h1), T.c_RingLog, T.na_RingLog_entries, rfl, e, xs, 0, x0, rfl, rfl, SqL.of (by rw [upd_ne ec]; exact h2), atI_nat (j := 0) hx0, (by show 1 ≤ sizeLine; decide), fun l nl => ?_⟩
    have lc : l ≠ c := fun z => by rw [z, upd_same] at nl; cases nl
    have nl1 : H l = none := by rw [upd_ne lc] at nl; exact nl
    refine ⟨c, l, cutV xs (some ((1 : Nat) : Int)) none, [x0], rfl, rfl, (by rw [upd_ne lc.symm, upd_same]; rfl), upd_same, ?_, fun p np => ?_⟩
    · rw [cut_from, List.length_drop, List.length_singleton]
      have : (1000 : Nat) ≤ sizeLine := by decide
      omega
    have pl : p ≠ l := fun z => by rw [z, upd_same] at np; cases np
    have pc : p ≠ c := fun z => by rw [z, upd_ne lc.symm, upd_same] at np; cases np
    have np1 : H p = none := by rw [upd_ne pl, upd_ne pc] at np; exact np
    have e1 : cutV xs (some ((1 : Nat) : Int)) none ++ [x0] = xs.drop 1 ++ xs.take 1 := by
      rw [cut_from]
      congr 1
      cases xs with
      | nil => cases hx0
      | cons y ys =>
        have : y = x0 := Option.some.inj hx0
        rw [this]
        rfl
    have S2 : Same H (upd (upd H c (.lst (cutV xs (some ((1 : Nat) : Int)) none))) l (.lst [x0])) := Same.step (same_upd nc) nl1
    have hg2 := S2 _ _ h1
    have lp := log_put (xs := xs.drop 1 ++ xs.take 1) (L := L.drop 1 ++ L.take 1) (Same.trans sm S2) ng hg2 np (by
      have pm : (xs.drop 1 ++ xs.take 1).Perm xs := by
        have := List.take_append_drop 1 xs
        exact List.perm_append_comm.trans (by rw [this])
      exact pm.nodup_iff.mpr nd) (p_app (p_mono (fun _ _ r => r.same S2) (p_drop 1 hp)) (p_mono (fun _ _ r => r.same S2) (p_take 1 hp)))
    rw [← e1] at lp
    refine ⟨_, rfl, g, _, dg, [("entries", .ref e)], rfl, (by rw [upd_ne (ne_of_none hg2 np)]; exact hg2), T.c_RingLog, T.na_RingLog_entries, (by show 1 < 1000; decide), ?_⟩
    refine ⟨_, rfl, g, dg, _, rfl, upd_same, rfl, ?_⟩
    exact ⟨g, H0, L.drop 1 ++ L.take 1, rfl, lp.1, lp.2, fun H' s l => q H' s l⟩
end K12

set_option Elab.async false
set_option linter.all false
set_option maxRecDepth 100000
set_option maxHeartbeats 4000000
namespace K12
open PySem PySem.Spec PyProof.Rows L2
/-! ## checks, rounds, the ring's making -/
def spLow (K : PySem.W.Frag) : Sp := fun vs H Q _ => ∃ (v l : Int) (f : Str), vs = [.int v, .int l, .str f] ∧ l ≤ v ∧ Q .non H
theorem scAtLeast : FnScope ["value", "least", "field"] ["value", "least", "field"] (defScope sAtLeast) := ⟨rfl, rfl, rfl, by decide +kernel, rfl, by decide +kernel, by decide +kernel⟩
theorem Tx.kAtLeast {K : PySem.W.Frag} {mg : Str → Option Value} (T : Tx K mg) : PySem.W.keepIn K (.ref (He.ga K "at_least")) = true := let ⟨_, F⟩ := T.fsAtLeast; F.kp
theorem r_at_least {w : World} {K : PySem.W.Frag} {mg : Str → Option Value} {base : Heap} (T : Tx K mg) : FnR pg w K mg base (L2.CX pg w) 1 (He.ga K "at_least") (spLow K) := by
  obtain ⟨fd, F⟩ := T.fsAtLeast
  refine mkR F scAtLeast (F.bindsN fun _ _ _ _ _ _ us hl => match us, hl with | [_, _, _], _ => rfl) (fun vs H Q E h => ?_) (fun cdv A outer s H vs Q E hr h => ?_)
  · obtain ⟨v, l, f, rfl, h1, q⟩ := h
    rfl
  · obtain ⟨v, l, f, rfl, h1, q⟩ := h
    refine ⟨_, PSs.nox (pss_one (ps_if (pt_cmpR op_lt (pv 0) (pv 1) (nomark _)) (pss_one ps_never) pss_nil)), ?_⟩
    refine ⟨_, rfl, _, rfl, _, _, rfl, rfl, _, rfl, ?_⟩
    rw [decide_eq_false (show ¬ v < l by omega)]
    exact iteF q
def spHigh (K : PySem.W.Frag) : Sp := fun vs H Q _ => ∃ (v l : Int) (f : Str), vs = [.int v, .int l, .str f] ∧ v ≤ l ∧ Q .non H
theorem scAtMost : FnScope ["value", "most", "field"] ["value", "most", "field"] (defScope sAtMost) := ⟨rfl, rfl, rfl, by decide +kernel, rfl, by decide +kernel, by decide +kernel⟩
theorem Tx.kAtMost {K : PySem.W.Frag} {mg : Str → Option Value} (T : Tx K mg) : PySem.W.keepIn K (.ref (He.ga K "at_most")) = true := let ⟨_, F⟩ := T.fsAtMost; F.kp
theorem r_at_most {w : World} {K : PySem.W.Frag} {mg : Str → Option Value} {base : Heap} (T : Tx K mg) : FnR pg w K mg base (L2.CX pg w) 1 (He.ga K "at_most") (spHigh K) := by
  obtain ⟨fd, F⟩ := T.fsAtMost
  refine mkR F scAtMost (F.bindsN fun _ _ _ _ _ _ us hl => match us, hl with | [_, _, _], _ => rfl) (fun vs H Q E h => ?_) (fun cdv A outer s H vs Q E hr h => ?_)
  · obtain ⟨v, l, f, rfl, h1, q⟩ := h
    rfl
  · obtain ⟨v, l, f, rfl, h1, q⟩ := h
    refine ⟨_, PSs.nox (pss_one (ps_if (pt_cmpR op_gt (pv 0) (pv 1) (nomark _)) (pss_one ps_never) pss_nil)), ?_⟩
    refine ⟨_, rfl, _, rfl, _, _, rfl, rfl, _, rfl, ?_⟩
    rw [decide_eq_false (show ¬ l < v by omega)]
    exact iteF q
def spWhole (K : PySem.W.Frag) : Sp := fun vs H Q _ => ∃ (v : Int) (f : Str), vs = [.int v, .str f] ∧ Q .non H
theorem scWholeNumber : FnScope ["value", "field"] ["value", "field"] (defScope sWholeNumber) := ⟨rfl, rfl, rfl, by decide +kernel, rfl, by decide +kernel, by decide +kernel⟩
theorem Tx.kWholeNumber {K : PySem.W.Frag} {mg : Str → Option Value} (T : Tx K mg) : PySem.W.keepIn K (.ref (He.ga K "whole_number")) = true := let ⟨_, F⟩ := T.fsWholeNumber; F.kp
theorem r_whole_number {w : World} {K : PySem.W.Frag} {mg : Str → Option Value} {base : Heap} (T : Tx K mg) : FnR pg w K mg base (L2.CX pg w) 1 (He.ga K "whole_number") (spWhole K) := by
  obtain ⟨fd, F⟩ := T.fsWholeNumber
  refine mkR F scWholeNumber (F.bindsN fun _ _ _ _ _ _ us hl => match us, hl with | [_, _], _ => rfl) (fun vs H Q E h => ?_) (fun cdv A outer s H vs Q E hr h => ?_)
  · obtain ⟨v, f, rfl, q⟩ := h
    rfl
  · obtain ⟨v, f, rfl, q⟩ := h
    refine ⟨_, PSs.nox (pss_one (ps_if (PW.pt (pw_or (pt_val (pe_callB call_isi (by rfl) T.n_isinstance (by decide +kernel) (pa_cons (pv 0) (pa_cons (pe_bltn (v := .ty "bool") (by rfl) T.n_bool (by decide +kernel) rfl) pa_nil)))) (pw_or1 (pt_not (pt_val (pe_callB call_isi (by rfl) T.n_isinstance (by decide +kernel) (pa_cons (pv 0) (pa_cons (pe_bltn (v := .ty "int") (by rfl) T.n_int (by decide +kernel) rfl) pa_nil)))))))) (pss_one ps_never) pss_nil)), ?_⟩
    refine ⟨_, rfl, _, _, _, _, _, rfl, .ty _, .base (.int v), kit_ty (r := false) (by decide +kernel), _, rfl, ?_⟩
    refine iteF ?_
    exact ⟨_, rfl, _, _, _, _, _, rfl, .ty _, .base (.int v), kit_ty (r := true) (by decide +kernel), _, rfl, iteF q⟩
theorem for_str {x : Str} {g : TG} {tb : TS} {D : Ends} {σ : L2.St} {H : Hp} (Pv : Nat → L2.St → Hp → Prop) (h0 : Pv 0 σ H)
    (hs : ∀ i c σ H, x.cps[i]? = some c → Pv i σ H → g (.str ⟨#[c]⟩) σ H fun σ2 H2 => tb { D with nx := Pv (i + 1), ct := Pv (i + 1), bk := D.nx } σ2 H2) (hd : ∀ σ H, Pv x.cps.size σ H → D.nx σ H) :
    ∃ W : Nat → Nat → L2.St → Hp → Prop, (∃ m, W 0 m σ H) ∧ ∀ i m σ H, W i m σ H →
      ((Its x).stop i H ∧ D.nx σ H) ∨ ((Its x).go i H ∧ ∃ N : L2.St → Hp → Prop, (∀ σ' H', N σ' H' → ∃ m', m' < m ∧ W (i + 1) m' σ' H') ∧ ∀ v H', (Its x).yld i H v H' → g v σ H' fun σ2 H2 => tb { D with nx := N, ct := N, bk := D.nx } σ2 H2) := by
  refine ⟨fun i m σ H => m = x.cps.size - i ∧ i ≤ x.cps.size ∧ Pv i σ H, ⟨x.cps.size, by simp, Nat.zero_le _, h0⟩, ?_⟩
  rintro i m σ H ⟨rfl, hi, p⟩
  by_cases hlt : i < x.cps.size
  · refine .inr ⟨hlt, Pv (i + 1), fun σ' H' p' => ⟨x.cps.size - (i + 1), by omega, rfl, hlt, p'⟩, fun v H' y => ?_⟩
    obtain ⟨rfl, c, hc, rfl⟩ := y
    exact hs i c σ H' hc p
  · have e : i = x.cps.size := by omega
    subst e
    exact .inl ⟨Nat.le_refl _, hd σ H p⟩
def spKey (K : PySem.W.Frag) : Sp := fun vs H Q _ => ∃ (k : Str), vs = [.str k] ∧ GK k ∧ Q .non H
theorem GK.line {k : Str} (h : GK k) : k.length ≤ sizeLine := Nat.le_trans h.2.1 (by decide)
theorem scGoodKey : FnScope ["key", "character"] ["key"] (defScope sGoodKey) := ⟨rfl, rfl, rfl, by decide +kernel, rfl, by decide +kernel, by decide +kernel⟩
theorem Tx.kGoodKey {K : PySem.W.Frag} {mg : Str → Option Value} (T : Tx K mg) : PySem.W.keepIn K (.ref (He.ga K "good_key")) = true := let ⟨_, F⟩ := T.fsGoodKey; F.kp
theorem r_good_key {w : World} {K : PySem.W.Frag} {mg : Str → Option Value} {base : Heap} (T : Tx K mg) : FnR pg w K mg base (L2.CX pg w) 1 (He.ga K "good_key") (spKey K) := by
  obtain ⟨fd, F⟩ := T.fsGoodKey
  obtain ⟨tKEY_CHARACTERS, hKEY_CHARACTERS⟩ := T.s_KEY_CHARACTERS
  obtain ⟨tKEY_LENGTH, hKEY_LENGTH⟩ := T.i_KEY_LENGTH
  refine mkR F scGoodKey (F.bindsN fun _ _ _ _ _ _ us hl => match us, hl with | [_], _ => rfl) (fun vs H Q E h => ?_) (fun cdv A outer s H vs Q E hr h => ?_)
  · obtain ⟨k, rfl, hk, q⟩ := h
    rfl
  · obtain ⟨k, rfl, hk, q⟩ := h
    refine ⟨_, PSs.nox (pss_cons (ps_if (PW.pt (pw_or (pt_not (pt_val (pe_callB call_isi (by rfl) T.n_isinstance (by decide +kernel) (pa_cons (pv 0) (pa_cons (pe_bltn (v := .ty "str") (by rfl) T.n_str (by decide +kernel) rfl) pa_nil))))) (pw_or1 (pt_not (pt_chain op_le op_le pe_int (pe_callB call_len (by rfl) T.n_len PySem.boot_len (pa_cons (pv 0) pa_nil)) (pe_glob (v := .int 12) (by rfl) hKEY_LENGTH ⟨_, rfl⟩)))))) (pss_one ps_never) pss_nil)
      (pss_one (ps_for PassesOwn.never rfl (pi_str (pv 0)) (pg_name (i := 1) scGoodKey.nd rfl (by first | exact .inl rfl | exact .inr rfl)) (pss_one (ps_if (pt_cmpR op_notIn_sign (pv 1) (pe_glob (v := .str "abcdefghijklmnopqrstuvwxyz0123456789") (by rfl) hKEY_CHARACTERS ⟨_, rfl⟩) (by rfl)) (pss_one ps_never) pss_nil))))), ?_⟩
    refine ⟨_, rfl, _, _, _, _, _, rfl, .ty _, .base (.str k), kit_ty (r := true) (by decide +kernel), _, rfl, ?_⟩
    refine iteF ?_
    refine ⟨_, rfl, .str k, _, rfl, ⟨hk.line, rfl⟩, 1, _, rfl, rfl, _, rfl, ?_⟩
    rw [decide_eq_true (show (1 : Int) ≤ ((k.length : Nat) : Int) by have := hk.1; omega)]
    refine iteT ?_
    refine ⟨_, _, rfl, rfl, _, rfl, ?_⟩
    rw [decide_eq_true (show ((k.length : Nat) : Int) ≤ 12 by have := hk.2.1; omega)]
    refine iteF ?_
    refine ⟨_, rfl, k, rfl, for_str (fun i σ H' => (∃ y, σ = [some (.str k), y]) ∧ H' = H) ⟨⟨_, rfl⟩, rfl⟩ (fun i c σ H' hc h => ?_) (fun σ H' h => ?_)⟩
    · obtain ⟨⟨y, rfl⟩, rfl⟩ := h
      refine ⟨_, rfl, c, _, rfl, rfl, _, rfl, ?_⟩
      have hm : c ∈ k.cps.toList := List.mem_of_getElem? (i := i) (by rw [Array.getElem?_toList]; exact hc)
      rw [decide_eq_true (hk.2.2 c hm)]
      exact iteF ⟨⟨_, rfl⟩, rfl⟩
    · obtain ⟨_, rfl⟩ := h
      exact q
/-! ### Round -/
theorem scRoundInit : FnScope ["self", "budgets", "budget"] ["self", "budgets"] (defScope sRoundInit) := ⟨rfl, rfl, rfl, by decide +kernel, rfl, by decide +kernel, by decide +kernel⟩
def spRoundI0 (K : PySem.W.Frag) : Sp := fun vs H Q _ => ∃ (b dx p : Addr) (cyc : List Int), vs = [.ref b, .ref p] ∧ H b = some (.ins (He.ga K "Round") dx []) ∧ H p = some (.tup (cyc.map V.int)) ∧ 1 ≤ cyc.length ∧ cyc.length ≤ 12 ∧ (∀ z ∈ cyc, 0 ≤ z) ∧
  ∀ H', Fr [b] H H' → RoundAt K H' b cyc → Q .non H'
def spRoundInit (K : PySem.W.Frag) : Sp := fun vs H Q _ => ∃ (b dx : Addr) (cyc : List Int), vs = .ref b :: cyc.map V.int ∧ H b = some (.ins (He.ga K "Round") dx []) ∧ 1 ≤ cyc.length ∧ cyc.length ≤ 12 ∧ (∀ z ∈ cyc, 0 ≤ z) ∧
  ∀ H', Fr [b] H H' → RoundAt K H' b cyc → Q .non H'
theorem r_Round_init {w : World} {K : PySem.W.Frag} {mg : Str → Option Value} {base : Heap} (T : Tx K mg) : FnR pg w K mg base (L2.CX pg w) 2 (He.ma K (He.ga K "Round") "__init__") (spRoundInit K) := by
  obtain ⟨fd, F⟩ := T.fsRoundInit
  obtain ⟨oc, od, dV, kV, doc, pm, an, cdv, ct, osl, rfl, lk, hcd, hD, hK⟩ := F.ex
  have eD : dV = .none := by
    rcases hD with ⟨_, e⟩ | ⟨e, _⟩
    · exact e
    · exact absurd rfl e
  subst eD
  obtain ⟨u, hC⟩ := T.ex.2.2.2.2.2.2.2.2
  refine FnR.imp (StX.fn_star (k := 1) (ps := ["self"]) (pv := "budgets") (N := ["self", "budgets", "budget"]) (sp := spRoundI0 K) lk hcd scRoundInit StX.cxUp (StX.bind_star1 (B := fun us => bindArgs (PySem.W.fnOf "__init__" "Round.__init__" (defArgs sRoundInit) (defBody sRoundInit) (defScope sRoundInit) .none kV doc pm an cdv ct) ⟨us, []⟩) (fun a => rfl) (fun a r rs => rfl)) fun A outer s H vs Q E hr h => ?_) fun vs H Q E h => ?_
  · obtain ⟨b, dx, p, cyc, rfl, h1, h2, c1, c12, hall, q⟩ := h
    refine ⟨_, PSs.nox (pss_cons (ps_if (pt_not (pt_chain op_le op_le pe_int (pe_callB call_len_seq (by rfl) T.n_len PySem.boot_len (pa_cons (pv 1) pa_nil)) (ClX.pe_cval (pe_glob (v := .ref (He.ga K "Round")) (by rfl) T.g_Round rfl)))) (pss_one ps_never) pss_nil)
      (pss_cons (ps_for PassesOwn.never rfl (pi_tup (pv 1)) (pg_name (i := 2) scRoundInit.nd rfl (by first | exact .inl rfl | exact .inr rfl)) (pss_cons (ps_expr (pe_F (r_whole_number T) (hr.mono (by decide)) T.g_whole_number T.kWholeNumber takes0 (pa_cons (pv 2) (pa_cons pe_str pa_nil))))
      (pss_one (ps_expr (pe_F (r_at_least T) (hr.mono (by decide)) T.g_at_least T.kAtLeast takes0 (pa_cons (pv 2) (pa_cons pe_int (pa_cons pe_str pa_nil))))))))
      (pss_one (ps_fld (pv 0) (pe_callTy call_tupleT (by rfl) T.n_tuple (by decide +kernel) (pa_cons (pv 1) pa_nil)) rfl)))), ?_⟩
    refine ⟨_, rfl, p, _, rfl, .inr (SqT.of h2), 1, _, rfl, rfl, _, rfl, ?_⟩
    rw [List.length_map]
    rw [decide_eq_true (show (1 : Int) ≤ ((cyc.length : Nat) : Int) by omega)]
    refine iteT ?_
    refine ⟨_, _, _, _, rfl, T.ex.2.2.2.2.2.2.1, hC, _, _, rfl, rfl, _, rfl, ?_⟩
    rw [decide_eq_true (show ((cyc.length : Nat) : Int) ≤ 12 by omega)]
    refine iteF ?_
    refine ⟨_, rfl, p, rfl, ⟨_, SqT.of h2⟩, for_tup (xs := cyc.map V.int) (fun i σ H' => (∃ y, σ = [some (.ref b), some (.ref p), y]) ∧ H' = H) ⟨⟨_, rfl⟩, rfl⟩ (fun i σ H' _ h => ?_) (fun i x σ H' hx h => ?_) (fun σ H' h => ?_)⟩
    · rw [h.2]
      exact SqT.of h2
    · obtain ⟨⟨y, rfl⟩, rfl⟩ := h
      rw [List.getElem?_map] at hx
      obtain ⟨z, hz, rfl⟩ := Option.map_eq_some_iff.mp hx
      exact ⟨_, rfl, _, _, rfl, _, rfl, _, _, _, rfl, hall z (List.mem_of_getElem? hz), ⟨_, rfl⟩, rfl⟩
    · obtain ⟨⟨y, rfl⟩, rfl⟩ := h
      refine ⟨_, rfl, p, _, rfl, SqT.of h2, _, rfl, b, _, dx, [], rfl, h1, T.c_Round, T.na_Round_budgets, (by show 0 < 1000; decide), q _ (.put (by simp)) ⟨dx, p, upd_same, ?_⟩⟩
      rw [upd_ne (kind_ne h2 h1 (by intro z; cases z))]
      exact h2
  · obtain ⟨b, dx, cyc, rfl, h1, c1, c12, hall, q⟩ := h
    refine ⟨[.ref b], cyc.map V.int, rfl, rfl, ?_, fun p np => ⟨b, dx, p, cyc, rfl, ?_, upd_same, c1, c12, hall, fun H' f r => q H' (Fr.trans (.of_same (same_upd np)) f) r⟩⟩
    · rw [List.length_map]
      exact Nat.le_trans c12 (by decide)
    · rw [upd_ne (ne_of_none h1 np)]
      exact h1
def spRoundLen (K : PySem.W.Frag) : Sp := fun vs H Q _ => ∃ (b : Addr) (cyc : List Int), vs = [.ref b] ∧ RoundAt K H b cyc ∧ Q (.int (cyc.length : Nat)) H
theorem scRoundLen : FnScope ["self"] ["self"] (defScope sRoundLen) := ⟨rfl, rfl, rfl, by decide +kernel, rfl, by decide +kernel, by decide +kernel⟩
theorem r_Round_len {w : World} {K : PySem.W.Frag} {mg : Str → Option Value} {base : Heap} (T : Tx K mg) : FnR pg w K mg base (L2.CX pg w) 1 (He.ma K (He.ga K "Round") "__len__") (spRoundLen K) := by
  obtain ⟨fd, F⟩ := T.fsRoundLen
  refine mkR F scRoundLen (F.bindsN fun _ _ _ _ _ _ us hl => match us, hl with | [_], _ => rfl) (fun vs H Q E h => ?_) (fun cdv A outer s H vs Q E hr h => ?_)
  · obtain ⟨b, cyc, rfl, ⟨dx, t, h1, h2⟩, q⟩ := h
    rfl
  · obtain ⟨b, cyc, rfl, ⟨dx, t, h1, h2⟩, q⟩ := h
    refine ⟨_, PSs.nox (pss_one (ps_ret (pe_callB call_len_seq (by rfl) T.n_len PySem.boot_len (pa_cons (pe_fld (pv 0) rfl) pa_nil)))), ?_⟩
    refine ⟨_, rfl, b, _, dx, _, _, rfl, h1, T.c_Round, T.na_Round_budgets, rfl, t, _, rfl, .inr (SqT.of h2), ?_⟩
    rw [List.length_map]
    exact q
def spRoundAdd (K : PySem.W.Frag) : Sp := fun vs H Q _ => ∃ (a b : Addr) (c1 c2 : List Int), vs = [.ref a, .ref b] ∧ RoundAt K H a c1 ∧ RoundAt K H b c2 ∧ 1 ≤ c1.length ∧ 1 ≤ c2.length ∧ c1.length + c2.length ≤ 12 ∧ (∀ z ∈ c1 ++ c2, 0 ≤ z) ∧
  ∀ H' r, Same H H' → RoundAt K H' r (c1 ++ c2) → Q (.ref r) H'
theorem scRoundAdd : FnScope ["self", "other", "joined"] ["self", "other"] (defScope sRoundAdd) := ⟨rfl, rfl, rfl, by decide +kernel, rfl, by decide +kernel, by decide +kernel⟩
theorem r_Round_add {w : World} {K : PySem.W.Frag} {mg : Str → Option Value} {base : Heap} (T : Tx K mg) : FnR pg w K mg base (L2.CX pg w) 4 (He.ma K (He.ga K "Round") "__add__") (spRoundAdd K) := by
  obtain ⟨fd, F⟩ := T.fsRoundAdd
  refine mkR F scRoundAdd (F.bindsN fun _ _ _ _ _ _ us hl => match us, hl with | [_, _], _ => rfl) (fun vs H Q E h => ?_) (fun cdv A outer s H vs Q E hr h => ?_)
  · obtain ⟨a, b, c1, c2, rfl, ⟨da, ta, a1, a2⟩, ⟨db, tb, b1, b2⟩, l1, l2, l12, hall, q⟩ := h
    rfl
  · obtain ⟨a, b, c1, c2, rfl, ⟨da, ta, a1, a2⟩, ⟨db, tb, b1, b2⟩, l1, l2, l12, hall, q⟩ := h
    refine ⟨_, PSs.nox (pss_cons (ps_if (pt_not (pt_val (pe_callB call_isi (by rfl) T.n_isinstance (by decide +kernel) (pa_cons (pv 1) (pa_cons (pe_glob (v := .ref (He.ga K "Round")) (by rfl) T.g_Round rfl) pa_nil))))) (pss_one ps_never) pss_nil)
      (pss_cons (ps_set (i := 2) scRoundAdd.nd rfl (by first | exact .inl rfl | exact .inr rfl) (pe_op op_catT (pe_fld (pv 0) rfl) (pe_fld (pv 1) rfl)))
      (pss_one (ps_ret (pe_makeS1 T.mk_Round (r_Round_init T) (hr.mono (by decide)) T.g_Round passL (pv 2)))))), ?_⟩
    refine ⟨_, rfl, _, _, _, _, _, rfl, .own _, isi_of T.ex.2.2.2.2.2.2.2.1 T.c_Round b1, (by unfold PySem.W.kitOne; rw [if_pos (by simp)]), _, rfl, ?_⟩
    refine iteF ?_
    refine ⟨_, rfl, a, _, da, _, _, rfl, a1, T.c_Round, T.na_Round_budgets, rfl, _, rfl, b, _, db, _, _, rfl, b1, T.c_Round, T.na_Round_budgets, rfl, ?_⟩
    refine ⟨ta, tb, _, _, rfl, rfl, SqT.of a2, SqT.of b2, ?_, ?_, fun z => ?_, fun _ p np => ?_⟩
    · intro z
      have : (c1.map V.int).length = 0 := by rw [z]; rfl
      rw [List.length_map] at this
      omega
    · rw [List.length_map, List.length_map]
      exact Nat.le_trans l12 (by decide)
    · have : (c2.map V.int).length = 0 := by rw [z]; rfl
      rw [List.length_map] at this
      omega
    · refine ⟨_, rfl, p, _, rfl, .inl (SqT.of upd_same), fun x dx nx ndx ne => ?_⟩
      have nx1 : H x = none := by
        by_cases z : x = p
        · rw [z, upd_same] at nx; cases nx
        · rw [upd_ne z] at nx; exact nx
      have nd1 : H dx = none := by
        by_cases z : dx = p
        · rw [z, upd_same] at ndx; cases ndx
        · rw [upd_ne z] at ndx; exact ndx
      refine ⟨x, dx, c1 ++ c2, (by rw [List.map_append]), upd_same, (by rw [List.length_append]; omega), (by rw [List.length_append]; omega), hall, fun H' f r => ⟨rfl, q H' x ?_ r⟩⟩
      intro o u e
      refine f o u (by simpa using ne_of_none e nx1) ?_
      rw [upd_ne (ne_of_none e nx1), upd_ne (ne_of_none e nd1), upd_ne (ne_of_none e np)]
      exact e
def spRoundAt (K : PySem.W.Frag) : Sp := fun vs H Q _ => ∃ (b : Addr) (cyc : List Int) (t : Nat), vs = [.ref b, .int t] ∧ RoundAt K H b cyc ∧ t < cyc.length ∧ Q (.int (cyc.getD t 0)) H
theorem scRoundAt : FnScope ["self", "t"] ["self", "t"] (defScope sRoundAt) := ⟨rfl, rfl, rfl, by decide +kernel, rfl, by decide +kernel, by decide +kernel⟩
theorem r_Round_at {w : World} {K : PySem.W.Frag} {mg : Str → Option Value} {base : Heap} (T : Tx K mg) : FnR pg w K mg base (L2.CX pg w) 2 (He.ma K (He.ga K "Round") "at") (spRoundAt K) := by
  obtain ⟨fd, F⟩ := T.fsRoundAt
  refine mkR F scRoundAt (F.bindsN fun _ _ _ _ _ _ us hl => match us, hl with | [_, _], _ => rfl) (fun vs H Q E h => ?_) (fun cdv A outer s H vs Q E hr h => ?_)
  · obtain ⟨b, cyc, t, rfl, ⟨dx, tp, h1, h2⟩, ht, q⟩ := h
    rfl
  · obtain ⟨b, cyc, t, rfl, ⟨dx, tp, h1, h2⟩, ht, q⟩ := h
    refine ⟨_, PSs.nox (pss_cons (ps_expr (pe_F (r_at_least T) (hr.mono (by decide)) T.g_at_least T.kAtLeast takes0 (pa_cons (pv 1) (pa_cons pe_int (pa_cons pe_str pa_nil)))))
      (pss_one (ps_ret (pe_ix ix_tup (pe_fld (pv 0) rfl) (pe_op op_mod (pv 1) (pe_callB call_len_seq (by rfl) T.n_len PySem.boot_len (pa_cons (pe_fld (pv 0) rfl) pa_nil))) (fun _ _ => rfl))))), ?_⟩
    refine ⟨_, rfl, _, _, _, rfl, Int.natCast_nonneg t, ?_⟩
    refine ⟨_, rfl, b, _, dx, _, _, rfl, h1, T.c_Round, T.na_Round_budgets, rfl, _, rfl, _, rfl, b, _, dx, _, _, rfl, h1, T.c_Round, T.na_Round_budgets, rfl, tp, _, rfl, .inr (SqT.of h2), _, _, rfl, rfl, ?_, tp, _, _, .int (cyc.getD t 0), rfl, rfl, SqT.of h2, ?_, q⟩
    · rw [List.length_map]
      omega
    · rw [List.length_map]
      have e : ((t : Nat) : Int) % ((cyc.length : Nat) : Int) = ((t : Nat) : Int) := Int.emod_eq_of_lt (Int.natCast_nonneg t) (by omega)
      rw [e]
      refine atI_nat ?_
      rw [List.getElem?_map, List.getElem?_eq_getElem ht, List.getD_eq_getElem?_getD, List.getElem?_eq_getElem ht]
      rfl
end K12

set_option Elab.async false
set_option linter.all false
set_option maxRecDepth 100000
set_option maxHeartbeats 4000000
namespace K12
open PySem PySem.Spec PyProof.Rows L2
/-! ## the ring's making and its readings -/
theorem scRingInit : FnScope ["self", "places", "limit", "budgets", "late", "readers"] ["self", "places", "limit", "budgets", "late", "readers"] (defScope sRingInit) := ⟨rfl, rfl, rfl, by decide +kernel, rfl, by decide +kernel, by decide +kernel⟩
def spRingInit (K : PySem.W.Frag) : Sp := fun vs H Q _ => ∃ (r dx b : Addr) (T : Tm), vs = [.ref r, .int T.span, .int T.cap, .ref b, .bl T.rear, .int 0] ∧ H r = some (.ins (He.ga K "Ring") dx []) ∧ RoundAt K H b T.cyc ∧ 1 ≤ T.cap ∧ T.cap ≤ T.span ∧
  ∀ H', Fr [r] H H' → RingAt K H' r T [] 0 0 → Q .non H'
theorem ok_Ring_init {w : World} {K : PySem.W.Frag} {mg : Str → Option Value} {base : Heap} (T : Tx K mg) : ∃ fd, FunD K "__init__" "Ring.__init__" (defArgs sRingInit) (defBody sRingInit) (defScope sRingInit) [] [("late", .bl false), ("readers", .int 0)] (He.ma K (He.ga K "Ring") "__init__") fd ∧
    FnOk pg w K mg base (L2.CX pg w) 4 (He.ma K (He.ga K "Ring") "__init__") fd ["self", "places", "limit", "budgets", "late", "readers"] (spRingInit K) := by
  obtain ⟨fd, F⟩ := T.fsRingInit
  refine ⟨fd, F, FunD.ok (k := 3) F scRingInit (fun vs H Q E h => ?_) (fun cdv A outer s H vs Q E hr h => ?_)⟩
  · obtain ⟨r, dx, b, U, rfl, _⟩ := h
    rfl
  · obtain ⟨r, dx, b, U, rfl, h1, h2, c1, c2, q⟩ := h
    refine ⟨_, PSs.nox (pss_cons (ps_expr (pe_F (r_at_least T) (hr.mono (by decide)) T.g_at_least T.kAtLeast takes0 (pa_cons (pv 1) (pa_cons pe_int (pa_cons pe_str pa_nil)))))
      (pss_cons (ps_expr (pe_F (r_at_least T) (hr.mono (by decide)) T.g_at_least T.kAtLeast takes0 (pa_cons (pv 2) (pa_cons pe_int (pa_cons pe_str pa_nil)))))
      (pss_cons (ps_expr (pe_F (r_at_least T) (hr.mono (by decide)) T.g_at_least T.kAtLeast takes0 (pa_cons (pv 5) (pa_cons pe_int (pa_cons pe_str pa_nil)))))
      (pss_cons (ps_expr (pe_F (r_at_most T) (hr.mono (by decide)) T.g_at_most T.kAtMost takes0 (pa_cons (pv 2) (pa_cons (pv 1) (pa_cons pe_str pa_nil)))))
      (pss_cons (ps_if (PW.pt (pw_and (pt_val (pv 4)) (pw_and1 (pt_cmpR op_gt (pv 5) pe_int (nomark _))))) (pss_one ps_never) pss_nil)
      (pss_cons (ps_fld (pv 0) (pv 1) rfl)
      (pss_cons (ps_fld (pv 0) (pv 2) rfl)
      (pss_cons (ps_fld (pv 0) (pv 3) rfl)
      (pss_cons (ps_fld (pv 0) (pv 4) rfl)
      (pss_cons (ps_fld (pv 0) (pv 5) rfl)
      (pss_cons (ps_fld (pv 0) (pe_make0R T.mk_RingLog (r_RingLog_init T) (hr.mono (by decide)) T.g_RingLog passL) rfl)
      (pss_cons (ps_fld (pv 0) pe_int rfl)
      (pss_cons (ps_fld (pv 0) pe_int rfl)
      (pss_cons (ps_fld (pv 0) pe_int rfl)
      (pss_cons (ps_fld (pv 0) pe_int rfl)
      (pss_cons (ps_fld (pv 0) pe_int rfl)
      (pss_one (ps_fld (pv 0) (pe_lst pa_nil) rfl)))))))))))))))))), ?_⟩
    refine ⟨_, rfl, _, _, _, rfl, (by omega), _, rfl, _, _, _, rfl, (by omega), _, rfl, _, _, _, rfl, (by omega), _, rfl, _, rfl, _, _, _, rfl, (by omega), ?_⟩
    refine ⟨_, rfl, _, rfl, ?_⟩
    have fin : ∀ (x : Addr) (H2 : Hp), Fr [r] H H2 → H2 r = some (.ins (He.ga K "Ring") dx [("_places", .int U.span), ("_limit", .int U.cap), ("_budgets", .ref b), ("_late", .bl U.rear), ("_readers", .int 0), ("_log", .ref x)]) → LogAt K H00 H2 x [] →
        tSeq (sFld K (tVar 0) (tC (.int 0)) "_done") (tSeq (sFld K (tVar 0) (tC (.int 0)) "_phase") (tSeq (sFld K (tVar 0) (tC (.int 0)) "_carried") (tSeq (sFld K (tVar 0) (tC (.int 0)) "_last_wait") (tSeq (sFld K (tVar 0) (tC (.int 0)) "_opened") (sFld K (tVar 0) (tLst tNil) "_open")))))
          { nx := fun _ H' => Q .non H', rt := Q } (start ["self", "places", "limit", "budgets", "late", "readers"] [.ref r, .int U.span, .int U.cap, .ref b, .bl U.rear, .int 0]) H2 := by
      intro x H2 f2 e2 l2
      refine ⟨_, rfl, r, _, dx, _, rfl, e2, T.c_Ring, T.na_Ring_done, (by show 6 < 1000; decide), ?_⟩
      refine ⟨_, rfl, r, _, dx, _, rfl, upd_same, T.c_Ring, T.na_Ring_phase, (by show 7 < 1000; decide), ?_⟩
      refine ⟨_, rfl, r, _, dx, _, rfl, upd_same, T.c_Ring, T.na_Ring_carried, (by show 8 < 1000; decide), ?_⟩
      refine ⟨_, rfl, r, _, dx, _, rfl, upd_same, T.c_Ring, T.na_Ring_last_wait, (by show 9 < 1000; decide), ?_⟩
      refine ⟨_, rfl, r, _, dx, _, rfl, upd_same, T.c_Ring, T.na_Ring_opened, (by show 10 < 1000; decide), ?_⟩
      rw [upd_upd, upd_upd, upd_upd, upd_upd]
      refine ⟨Nat.zero_le _, fun o no => ?_⟩
      have ro : r ≠ o := fun z => by rw [← z, upd_same] at no; cases no
      have no2 : H2 o = none := by rw [upd_ne ro.symm] at no; exact no
      refine ⟨_, rfl, r, He.ga K "Ring", dx, _, rfl, (by rw [upd_ne ro, upd_same]), T.c_Ring, T.na_Ring_open, (by show 11 < 1000; decide), ?_⟩
      have fr : Fr [r] H (upd (upd (upd H2 r (.ins (He.ga K "Ring") dx (putF "_opened" (.int 0) (putF "_last_wait" (.int 0) (putF "_carried" (.int 0) (putF "_phase" (.int 0) (putF "_done" (.int 0) [("_places", .int U.span), ("_limit", .int U.cap), ("_budgets", .ref b), ("_late", .bl U.rear), ("_readers", .int 0), ("_log", .ref x)]))))))) o (.lst [])) r
          (.ins (He.ga K "Ring") dx (putF "_open" (.ref o) (putF "_opened" (.int 0) (putF "_last_wait" (.int 0) (putF "_carried" (.int 0) (putF "_phase" (.int 0) (putF "_done" (.int 0) [("_places", .int U.span), ("_limit", .int U.cap), ("_budgets", .ref b), ("_late", .bl U.rear), ("_readers", .int 0), ("_log", .ref x)])))))))) :=
        Fr.trans f2 (Fr.trans (.put (by simp)) (Fr.trans (.of_same (same_upd no)) (.put (by simp))))
      have kp : Kept H2 (upd (upd (upd H2 r (.ins (He.ga K "Ring") dx (putF "_opened" (.int 0) (putF "_last_wait" (.int 0) (putF "_carried" (.int 0) (putF "_phase" (.int 0) (putF "_done" (.int 0) [("_places", .int U.span), ("_limit", .int U.cap), ("_budgets", .ref b), ("_late", .bl U.rear), ("_readers", .int 0), ("_log", .ref x)]))))))) o (.lst [])) r
          (.ins (He.ga K "Ring") dx (putF "_open" (.ref o) (putF "_opened" (.int 0) (putF "_last_wait" (.int 0) (putF "_carried" (.int 0) (putF "_phase" (.int 0) (putF "_done" (.int 0) [("_places", .int U.span), ("_limit", .int U.cap), ("_budgets", .ref b), ("_late", .bl U.rear), ("_readers", .int 0), ("_log", .ref x)])))))))) :=
        Fr.kept (S := [r]) (fun b' hb' => by
          obtain rfl : b' = r := by simpa using hb'
          exact .inr ⟨_, _, _, e2, by show 2 ≤ 6; decide⟩) (Fr.trans (.put (by simp)) (Fr.trans (.of_same (same_upd no)) (.put (by simp))))
      refine q _ fr ⟨dx, b, x, o, 0, 0, 0, upd_same, ?_, l2.kept kp⟩
      obtain ⟨db, t, k1, k2⟩ := h2
      have k1' := f2 _ _ (by simpa using kind_ne k1 h1 (by intro z; injection z with _ _ z; cases z)) k1
      have k2' := f2 _ _ (by simpa using kind_ne k2 h1 (by intro z; cases z)) k2
      exact ⟨db, t, kp.2.2 _ _ _ _ _ k1', kp.2.1 _ _ k2'⟩
    have go : tSeq (sFld K (tVar 0) (tVar 1) "_places") (tSeq (sFld K (tVar 0) (tVar 2) "_limit") (tSeq (sFld K (tVar 0) (tVar 3) "_budgets") (tSeq (sFld K (tVar 0) (tVar 4) "_late") (tSeq (sFld K (tVar 0) (tVar 5) "_readers") (tSeq (sFld K (tVar 0) (StX.tMakeR (He.ga K "RingLog") (spLogInit K) E0 tNil) "_log")
        (tSeq (sFld K (tVar 0) (tC (.int 0)) "_done") (tSeq (sFld K (tVar 0) (tC (.int 0)) "_phase") (tSeq (sFld K (tVar 0) (tC (.int 0)) "_carried") (tSeq (sFld K (tVar 0) (tC (.int 0)) "_last_wait") (tSeq (sFld K (tVar 0) (tC (.int 0)) "_opened") (sFld K (tVar 0) (tLst tNil) "_open")))))))))))
          { nx := fun _ H' => Q .non H', rt := Q } (start ["self", "places", "limit", "budgets", "late", "readers"] [.ref r, .int U.span, .int U.cap, .ref b, .bl U.rear, .int 0]) H := by
      refine ⟨_, rfl, _, rfl, r, _, dx, [], rfl, h1, T.c_Ring, T.na_Ring_places, (by show 0 < 1000; decide), ?_⟩
      refine ⟨_, rfl, _, rfl, r, _, dx, _, rfl, upd_same, T.c_Ring, T.na_Ring_limit, (by show 1 < 1000; decide), ?_⟩
      refine ⟨_, rfl, _, rfl, r, _, dx, _, rfl, upd_same, T.c_Ring, T.na_Ring_budgets, (by show 2 < 1000; decide), ?_⟩
      refine ⟨_, rfl, _, rfl, r, _, dx, _, rfl, upd_same, T.c_Ring, T.na_Ring_late, (by show 3 < 1000; decide), ?_⟩
      refine ⟨_, rfl, _, rfl, r, _, dx, _, rfl, upd_same, T.c_Ring, T.na_Ring_readers, (by show 4 < 1000; decide), ?_⟩
      rw [upd_upd, upd_upd, upd_upd, upd_upd]
      intro x dx' nx ndx nex
      refine ⟨x, dx', rfl, upd_same, fun H2 f2 ⟨e0, hx2, he0⟩ => ⟨rfl, ?_⟩⟩
      have xr : r ≠ x := fun z => by rw [← z, upd_same] at nx; cases nx
      have xd : r ≠ dx' := fun z => by rw [← z, upd_same] at ndx; cases ndx
      have hr2 : H2 r = some (.ins (He.ga K "Ring") dx (putF "_readers" (.int 0) (putF "_late" (.bl U.rear) (putF "_budgets" (.ref b) (putF "_limit" (.int U.cap) (putF "_places" (.int U.span) [])))))) := f2 _ _ (by simpa using xr) (by rw [upd_ne xr, upd_ne xd, upd_same])
      refine ⟨_, rfl, r, He.ga K "Ring", dx, _, rfl, hr2, T.c_Ring, T.na_Ring_log, (by show 5 < 1000; decide), ?_⟩
      refine fin x _ ?_ upd_same ⟨rfl, dx', e0, [], ?_, ?_, rfl, List.nodup_nil, .nil⟩
      · refine Fr.trans ?_ (.put (by simp))
        intro b' o' nb' q'
        have nbr : b' ≠ r := by simpa using nb'
        refine f2 b' o' (by simpa using ne_of_none (show (upd H r _) b' = some o' by rw [upd_ne nbr]; exact q') nx) ?_
        rw [upd_ne (ne_of_none (show (upd H r _) b' = some o' by rw [upd_ne nbr]; exact q') nx), upd_ne (ne_of_none (show (upd H r _) b' = some o' by rw [upd_ne nbr]; exact q') ndx), upd_ne nbr]
        exact q'
      · rw [upd_ne xr.symm]
        exact hx2
      · rw [upd_ne (kind_ne he0 hr2 (by intro z; cases z))]
        exact he0
    cases hb : U.rear with
    | false =>
      rw [hb] at go
      exact iteF (iteF go)
    | true =>
      rw [hb] at go
      refine iteT ?_
      exact ⟨_, rfl, _, _, rfl, rfl, _, rfl, iteF go⟩
theorem ring_kw {K : PySem.W.Frag} {mg : Str → Option Value} {base : Heap} {fd : FuncData} (F : FunD K "__init__" "Ring.__init__" (defArgs sRingInit) (defBody sRingInit) (defScope sRingInit) [] [("late", .bl false), ("readers", .int 0)] (He.ma K (He.ga K "Ring") "__init__") fd) :
    (∃ ds, Vals [.bl false, .int 0] ds ∧ Binds K fd ["self", "places", "limit", "budgets", "late", "readers"] ds) ∧
    ∃ mv : List Value, KBn K fd ["self", "places", "limit", "budgets", "late", "readers"] 4 ["late"] (fun us ws => us ++ (ws ++ mv)) (fun vs zs => vs ++ (zs ++ [.int 0])) := by
  constructor
  · exact F.binds0 (ps := ["self", "places", "limit", "budgets", "late", "readers"]) 4 (by simp) rfl fun D doc pm an cdv ct us ks h1 h2 => match us, ks, h1, h2 with
      | [_, _, _, _], [_, _], _, _ => ⟨_, _, _, _, _, _, rfl, rfl, _, _, _, _, _, _, rfl, rfl, rfl⟩
  · exact F.kbinds0 (ps := ["self", "places", "limit", "budgets", "late", "readers"]) 4 ["late"] [("readers", .int 0)] (fun us mv ws => us ++ (ws ++ mv)) (by simp) (by simp) (fun r1 r2 r3 => r1.append (r3.append r2)) fun D doc pm an cdv ct us mv ws h1 h2 h3 => match us, mv, ws, h1, h2, h3 with
      | [_, _, _, _], [_], [_], _, _, _ => ⟨_, _, _, _, _, _, rfl, rfl, rfl⟩
theorem r_Ring_init {w : World} {K : PySem.W.Frag} {mg : Str → Option Value} {base : Heap} (T : Tx K mg) : FnR pg w K mg base (L2.CX pg w) 4 (He.ma K (He.ga K "Ring") "__init__") (fun vs H Q E => spRingInit K (vs ++ [.bl false, .int 0]) H Q E) := by
  obtain ⟨fd, F, ok⟩ := ok_Ring_init (w := w) (base := base) T
  obtain ⟨⟨ds, r, b⟩, _⟩ := ring_kw (base := base) (mg := mg) F
  exact ok.raw b r
end K12

set_option Elab.async false
set_option linter.all false
set_option maxRecDepth 100000
set_option maxHeartbeats 4000000
namespace K12
open PySem PySem.Spec PyProof.Rows L2
/-! ## the ring's readings -/
def spRingLen (K : PySem.W.Frag) : Sp := fun vs H Q _ => ∃ (r : Addr) (U : Tm) (L : Log) (t d : Nat), vs = [.ref r] ∧ RingAt K H r U L t d ∧ L.length ≤ 1000 ∧ ∀ H', Same H H' → Q (.int (cnt L : Nat)) H'
theorem scRingLen : FnScope ["self", "entry"] ["self"] (defScope sRingLen) := ⟨rfl, rfl, rfl, by decide +kernel, rfl, by decide +kernel, by decide +kernel⟩
theorem r_Ring_len {w : World} {K : PySem.W.Frag} {mg : Str → Option Value} {base : Heap} (T : Tx K mg) : FnR pg w K mg base (L2.CX pg w) 1 (He.ma K (He.ga K "Ring") "__len__") (spRingLen K) := by
  obtain ⟨fd, F⟩ := T.fsRingLen
  obtain ⟨tLIVING, hLIVING⟩ := T.i_LIVING
  refine mkR F scRingLen (F.bindsN fun _ _ _ _ _ _ us hl => match us, hl with | [_], _ => rfl) (fun vs H Q E h => ?_) (fun cdv A outer s H vs Q E hr h => ?_)
  · obtain ⟨r, U, L, t, d, rfl, ⟨dx, b, g, o, ca, lw, op, hr0, hb, ⟨_, dg, e, xs, h1, h2, _, nd, hp⟩⟩, h1000, q⟩ := h
    rfl
  · obtain ⟨r, U, L, t, d, rfl, ⟨dx, b, g, o, ca, lw, op, hr0, hb, ⟨_, dg, e, xs, h1, h2, _, nd, hp⟩⟩, h1000, q⟩ := h
    refine ⟨_, PSs.nox (pss_one (ps_ret (pe_callB call_len_seq (by rfl) T.n_len PySem.boot_len (pa_cons (pe_lc (own := [("entry", 1)]) rfl scRingLen.nd (pi_list (pe_fld (pe_fld (pv 0) rfl) rfl)) (blkOk_by (N := [("self" : Str), ("entry" : Str)]) (sc := defScope sRingLen) (by decide +kernel)) (fun _ _ _ _ _ => (pg_name (i := 1) scRingLen.nd rfl (.inl rfl))) (fun _ _ _ _ _ => (pts_one (pt_val (pe_ix (ix_listK K) (pv 1) (pe_glob (v := .int 2) (by rfl) hLIVING ⟨_, rfl⟩) (fun _ _ => rfl))))) (fun _ _ _ _ _ => (pv 1))) pa_nil)))), ?_⟩
    have hl := p_len hp
    refine ⟨_, rfl, r, _, dx, _, _, rfl, hr0, T.c_Ring, T.na_Ring_log, rfl, g, _, dg, _, _, rfl, h1, T.c_RingLog, T.na_RingLog_entries, rfl, e, rfl, ⟨_, SqL.of h2⟩, fun D nD => lc_list (xs := xs)
      (fun i H' => ∃ acc, H' D = some (.lst acc) ∧ Same H H' ∧ acc.length = cnt (L.take i) ∧ acc.length ≤ i) ⟨[], upd_same, same_upd nD, rfl, Nat.zero_le _⟩ (fun i H' _ h => ?_) (fun i en H' hx h => ?_) (fun H' h => ?_)⟩
    · obtain ⟨_, _, sm, _⟩ := h
      exact SqL.of (sm _ _ h2)
    · obtain ⟨acc, hD, sm, la, lb⟩ := h
      obtain ⟨ev, hen, a, v, rd, rfl, _, k1, k2, k3⟩ := p_get hp hx
      have ct := cnt_take hen
      refine ⟨rfl, _, rfl, a, _, _, _, rfl, rfl, SqL.of (sm _ _ k1), rfl, _, rfl, ?_⟩
      cases hb : ev.2.isSome with
      | true =>
        rw [hb] at ct
        refine ⟨_, rfl, acc, hD, Nat.lt_of_le_of_lt (by have := get_lt hx; omega) (small1000 h1000), acc ++ [.ref a], upd_same, Same.step sm nD, ?_, ?_⟩
        · rw [List.length_append, la, ct]
          rfl
        · rw [List.length_append]
          show acc.length + 1 ≤ i + 1
          omega
      | false =>
        rw [hb] at ct
        exact ⟨acc, hD, sm, by rw [la, ct]; rfl, by omega⟩
    · obtain ⟨acc, hD, sm, la, lb⟩ := h
      refine ⟨D, acc, rfl, .inl (SqL.of hD), ?_⟩
      rw [la, hl, List.take_of_length_le (Nat.le_refl _)]
      exact q _ sm
def spRingIn (K : PySem.W.Frag) : Sp := fun vs H Q _ => ∃ (r : Addr) (k : Str) (U : Tm) (L : Log) (t d : Nat), vs = [.ref r, .str k] ∧ RingAt K H r U L t d ∧ ∀ H', Same H H' → Q (.bl (decide (k ∈ nms L))) H'
theorem scRingContains : FnScope ["self", "key"] ["self", "key"] (defScope sRingContains) := ⟨rfl, rfl, rfl, by decide +kernel, rfl, by decide +kernel, by decide +kernel⟩
theorem r_Ring_contains {w : World} {K : PySem.W.Frag} {mg : Str → Option Value} {base : Heap} (T : Tx K mg) : FnR pg w K mg base (L2.CX pg w) 2 (He.ma K (He.ga K "Ring") "__contains__") (spRingIn K) := by
  obtain ⟨fd, F⟩ := T.fsRingContains
  refine mkR F scRingContains (F.bindsN fun _ _ _ _ _ _ us hl => match us, hl with | [_, _], _ => rfl) (fun vs H Q E h => ?_) (fun cdv A outer s H vs Q E hr h => ?_)
  · obtain ⟨r, k, U, L, t, d, rfl, ⟨dx, b, g, o, ca, lw, op, hr0, hb, hlog⟩, q⟩ := h
    rfl
  · obtain ⟨r, k, U, L, t, d, rfl, ⟨dx, b, g, o, ca, lw, op, hr0, hb, hlog⟩, q⟩ := h
    refine ⟨_, PSs.nox (pss_one (ps_ret (pe_cmpR op_notN (pe_M (pe_fld (pv 0) rfl) T.c_RingLog T.m_RingLog_find_living (r_RingLog_find_living T) (hr.mono (by decide)) takes0 (pa_cons (pv 1) pa_nil)) pe_non (nomark _)))), ?_⟩
    obtain ⟨dg, e, xs, h1, hrest⟩ := hlog.2
    refine ⟨_, rfl, r, _, dx, _, _, rfl, hr0, T.c_Ring, T.na_Ring_log, rfl, g, dg, _, rfl, h1, rfl, _, rfl, g, k, L, rfl, hlog, fun i z H' hi sm => ?_, fun H' hn sm => ?_⟩
    · refine ⟨rfl, ?_⟩
      have z2 := q H' sm
      rw [decide_eq_true (nms_mem.mpr ⟨z, List.mem_of_getElem? hi⟩)] at z2
      rw [decide_eq_false (show ¬ V.int (i : Int) = V.non by intro h; cases h)]
      exact z2
    · refine ⟨rfl, ?_⟩
      have z2 := q H' sm
      rw [decide_eq_false hn] at z2
      exact z2
/-- what a refused reading says -/
def OutUK (K : PySem.W.Frag) (H : Hp) (k : Str) (E : XK) : Prop := ∀ (d : Addr) (H' : Hp), Same H H' → H' d = some (.xd [("key", .str k)]) → E (.ref (He.ga K "UnknownKey")) (some d) H'
theorem out_uk {K : PySem.W.Frag} {H H1 : Hp} {k : Str} {E : XK} {σ : L2.St} (h : OutUK K H k E) (sm : Same H H1) (hk : (reprText k).length ≤ 300) : RC (He.ga K "UnknownKey") "key" okStr (fun cls d _ H2 => E cls d H2) σ (.str k) H1 :=
  RC.of ⟨k, rfl, hk⟩ fun d nd => h d _ (Same.step sm (sm.free nd)) upd_same
def spRingRead (K : PySem.W.Frag) : Sp := fun vs H Q E => ∃ (r : Addr) (k : Str) (U : Tm) (L : Log) (t d : Nat), vs = [.ref r, .str k] ∧ RingAt K H r U L t d ∧ (reprText k).length ≤ 300 ∧ (∀ (i : Nat) z H', L[i]? = some (k, some z) → Same H H' → Q (.int z) H') ∧ (k ∉ nms L → OutUK K H k E)
theorem scRingRead : FnScope ["self", "key", "index"] ["self", "key"] (defScope sRingRead) := ⟨rfl, rfl, rfl, by decide +kernel, rfl, by decide +kernel, by decide +kernel⟩
theorem r_Ring_read {w : World} {K : PySem.W.Frag} {mg : Str → Option Value} {base : Heap} (T : Tx K mg) : FnR pg w K mg base (L2.CX pg w) 3 (He.ma K (He.ga K "Ring") "read") (spRingRead K) := by
  obtain ⟨fd, F⟩ := T.fsRingRead
  obtain ⟨tVALUE, hVALUE⟩ := T.i_VALUE
  obtain ⟨fdUK, bUK, FUK⟩ := okUK (w := w) (base := base) T
  refine mkR F scRingRead (F.bindsN fun _ _ _ _ _ _ us hl => match us, hl with | [_, _], _ => rfl) (fun vs H Q E h => ?_) (fun cdv A outer s H vs Q E hr h => ?_)
  · obtain ⟨r, k, U, L, t, d, rfl, ⟨dx, b, g, o, ca, lw, op, hr0, hb, hlog⟩, hk, q1, q2⟩ := h
    rfl
  · obtain ⟨r, k, U, L, t, d, rfl, ⟨dx, b, g, o, ca, lw, op, hr0, hb, hlog⟩, hk, q1, q2⟩ := h
    have tk : Takes (cxOf (L2.CX pg w) pg w K mg base [("self" : Str), ("key" : Str), ("index" : Str)] "Ring.read" (defScope sRingRead) (He.fAd K ("Ring", some "read")) cdv A outer s H E) (fun cls d _ H1 => E cls d H1) := takes_of rfl rfl rfl rfl
    have hp : PassesOwn (model pg w) (cxOf (L2.CX pg w) pg w K mg base [("self" : Str), ("key" : Str), ("index" : Str)] "Ring.read" (defScope sRingRead) (He.fAd K ("Ring", some "read")) cdv A outer s H E).A (cxOf (L2.CX pg w) pg w K mg base [("self" : Str), ("key" : Str), ("index" : Str)] "Ring.read" (defScope sRingRead) (He.fAd K ("Ring", some "read")) cdv A outer s H E).env (cxOf (L2.CX pg w) pg w K mg base [("self" : Str), ("key" : Str), ("index" : Str)] "Ring.read" (defScope sRingRead) (He.fAd K ("Ring", some "read")) cdv A outer s H E).xe := passes_of rfl
    refine ⟨_, (pss_cons (ps_set (i := 2) scRingRead.nd rfl (by first | exact .inl rfl | exact .inr rfl) (pe_M (pe_fld (pv 0) rfl) T.c_RingLog T.m_RingLog_find_living (r_RingLog_find_living T) (hr.mono (by decide)) tk (pa_cons (pv 1) pa_nil)))
      (pss_cons (ps_if (pt_cmpR op_isN (pv 2) pe_non (nomark _)) (pss_one (ps_raiseE T.eUK FUK bUK (hr.mono (by decide)) T.g_UnknownKey rfl tk (pv 1))) pss_nil)
      (pss_one (ps_ret (pe_ix ix_list (pe_ix ix_list (pe_fld (pe_fld (pv 0) rfl) rfl) (pv 2) (fun _ _ => rfl)) (pe_glob (v := .int 1) (by rfl) hVALUE ⟨_, rfl⟩) (fun _ _ => rfl)))))), ?_⟩
    obtain ⟨dg, e, xs, h1, h2, _, nd, hp⟩ := hlog.2
    refine ⟨_, rfl, r, _, dx, _, _, rfl, hr0, T.c_Ring, T.na_Ring_log, rfl, g, dg, _, rfl, h1, rfl, _, rfl, g, k, L, rfl, hlog, fun i z H' hi sm => ?_, fun H' hn sm => ?_⟩
    · refine ⟨_, rfl, rfl, _, rfl, ?_⟩
      rw [decide_eq_false (show ¬ V.int (i : Int) = V.non by intro h; cases h)]
      refine iteF ?_
      obtain ⟨x, hx, a, v, rd, rfl, _, k1, k2, k3⟩ := p_get' hp hi
      refine ⟨_, rfl, r, _, dx, _, _, rfl, sm _ _ hr0, T.c_Ring, T.na_Ring_log, rfl, g, _, dg, _, _, rfl, sm _ _ h1, T.c_RingLog, T.na_RingLog_entries, rfl, _, rfl, e, xs, i, _, rfl, rfl, SqL.of (sm _ _ h2), atI_nat hx, a, _, _, _, rfl, rfl, SqL.of (sm _ _ k1), rfl, ?_⟩
      rw [k3 z rfl]
      exact q1 i z H' hi sm
    · refine ⟨_, rfl, rfl, _, rfl, ?_⟩
      refine iteT ?_
      exact ⟨_, rfl, out_uk (q2 hn) sm hk⟩
def spRingAge (K : PySem.W.Frag) : Sp := fun vs H Q E => ∃ (r : Addr) (k : Str) (U : Tm) (L : Log) (t d : Nat), vs = [.ref r, .str k] ∧ RingAt K H r U L t d ∧ (reprText k).length ≤ 300 ∧ (∀ (i : Nat) z H', L[i]? = some (k, some z) → Same H H' → Q (.int ((L.length : Nat) - (i : Int))) H') ∧ (k ∉ nms L → OutUK K H k E)
theorem scRingAge : FnScope ["self", "key", "index"] ["self", "key"] (defScope sRingAge) := ⟨rfl, rfl, rfl, by decide +kernel, rfl, by decide +kernel, by decide +kernel⟩
theorem r_Ring_age {w : World} {K : PySem.W.Frag} {mg : Str → Option Value} {base : Heap} (T : Tx K mg) : FnR pg w K mg base (L2.CX pg w) 3 (He.ma K (He.ga K "Ring") "age") (spRingAge K) := by
  obtain ⟨fd, F⟩ := T.fsRingAge
  obtain ⟨fdUK, bUK, FUK⟩ := okUK (w := w) (base := base) T
  refine mkR F scRingAge (F.bindsN fun _ _ _ _ _ _ us hl => match us, hl with | [_, _], _ => rfl) (fun vs H Q E h => ?_) (fun cdv A outer s H vs Q E hr h => ?_)
  · obtain ⟨r, k, U, L, t, d, rfl, ⟨dx, b, g, o, ca, lw, op, hr0, hb, hlog⟩, hk, q1, q2⟩ := h
    rfl
  · obtain ⟨r, k, U, L, t, d, rfl, ⟨dx, b, g, o, ca, lw, op, hr0, hb, hlog⟩, hk, q1, q2⟩ := h
    have tk : Takes (cxOf (L2.CX pg w) pg w K mg base [("self" : Str), ("key" : Str), ("index" : Str)] "Ring.age" (defScope sRingAge) (He.fAd K ("Ring", some "age")) cdv A outer s H E) (fun cls d _ H1 => E cls d H1) := takes_of rfl rfl rfl rfl
    have hp : PassesOwn (model pg w) (cxOf (L2.CX pg w) pg w K mg base [("self" : Str), ("key" : Str), ("index" : Str)] "Ring.age" (defScope sRingAge) (He.fAd K ("Ring", some "age")) cdv A outer s H E).A (cxOf (L2.CX pg w) pg w K mg base [("self" : Str), ("key" : Str), ("index" : Str)] "Ring.age" (defScope sRingAge) (He.fAd K ("Ring", some "age")) cdv A outer s H E).env (cxOf (L2.CX pg w) pg w K mg base [("self" : Str), ("key" : Str), ("index" : Str)] "Ring.age" (defScope sRingAge) (He.fAd K ("Ring", some "age")) cdv A outer s H E).xe := passes_of rfl
    refine ⟨_, (pss_cons (ps_set (i := 2) scRingAge.nd rfl (by first | exact .inl rfl | exact .inr rfl) (pe_M (pe_fld (pv 0) rfl) T.c_RingLog T.m_RingLog_find_living (r_RingLog_find_living T) (hr.mono (by decide)) tk (pa_cons (pv 1) pa_nil)))
      (pss_cons (ps_if (pt_cmpR op_isN (pv 2) pe_non (nomark _)) (pss_one (ps_raiseE T.eUK FUK bUK (hr.mono (by decide)) T.g_UnknownKey rfl tk (pv 1))) pss_nil)
      (pss_one (ps_ret (pe_op op_sub (pe_callB call_len_seq (by rfl) T.n_len PySem.boot_len (pa_cons (pe_fld (pe_fld (pv 0) rfl) rfl) pa_nil)) (pv 2)))))), ?_⟩
    obtain ⟨dg, e, xs, h1, h2, _, nd, hp⟩ := hlog.2
    have hl := p_len hp
    refine ⟨_, rfl, r, _, dx, _, _, rfl, hr0, T.c_Ring, T.na_Ring_log, rfl, g, dg, _, rfl, h1, rfl, _, rfl, g, k, L, rfl, hlog, fun i z H' hi sm => ?_, fun H' hn sm => ?_⟩
    · refine ⟨_, rfl, rfl, _, rfl, ?_⟩
      rw [decide_eq_false (show ¬ V.int (i : Int) = V.non by intro h; cases h)]
      refine iteF ?_
      refine ⟨_, rfl, r, _, dx, _, _, rfl, sm _ _ hr0, T.c_Ring, T.na_Ring_log, rfl, g, _, dg, _, _, rfl, sm _ _ h1, T.c_RingLog, T.na_RingLog_entries, rfl, e, xs, rfl, .inl (SqL.of (sm _ _ h2)), _, rfl, _, _, rfl, rfl, ?_⟩
      rw [hl]
      exact q1 i z H' hi sm
    · refine ⟨_, rfl, rfl, _, rfl, ?_⟩
      refine iteT ?_
      exact ⟨_, rfl, out_uk (q2 hn) sm hk⟩
/-! ### table -/
def lvs (L : Log) : List (Str × Int) := L.filterMap fun e => e.2.map fun z => (e.1, z)
theorem lvs_app (L M : Log) : lvs (L ++ M) = lvs L ++ lvs M := List.filterMap_append ..
theorem lvs_keys : ∀ L : Log, (lvs L).map (·.1) = nms L
  | [] => rfl
  | (k, none) :: r => lvs_keys r
  | (k, some z) :: r => congrArg (k :: ·) (lvs_keys r)
theorem lvs_mem {L : Log} {k : Str} {z : Int} : (k, z) ∈ lvs L ↔ (k, some z) ∈ L := by
  unfold lvs
  rw [List.mem_filterMap]
  constructor
  · rintro ⟨e, he, h⟩
    obtain ⟨z', h1, h2⟩ := Option.map_eq_some_iff.mp h
    injection h2 with h2 h3
    rw [← h2, ← h3, ← h1]
    exact he
  · intro h
    exact ⟨_, h, rfl⟩
theorem lvs_le (L : Log) : (lvs L).length ≤ L.length := List.length_filterMap_le _ _
theorem dc_list {K : PySem.W.Frag} {a : Addr} {xs : List V} {g : TG} {tt : TT} {tk tv : TE} {vs : List Nat} {σ : L2.St} {H1 : Hp} {D : Addr} {Qd : Hp → Prop} (Pv : Nat → Hp → Prop) (h0 : Pv 0 (upd H1 D (.dK []))) (hl : ∀ i H, i ≤ xs.length → Pv i H → SqL K H a xs)
    (hs : ∀ i x H, xs[i]? = some x → Pv i H → g x (wipe σ vs) H fun σ2 H2 => wipe σ2 vs = wipe σ vs ∧ tt σ2 H2 fun b H3 =>
      if b = true then tk σ2 H3 fun y H4 => tv σ2 H4 fun z H5 => ∃ kvs k, y = kV k ∧ H5 D = some (.dK kvs) ∧ kvs.length < sizeLine ∧ Pv (i + 1) (upd H5 D (.dK (putK kvs k z))) else Pv (i + 1) H3) (hd : ∀ H, Pv xs.length H → Qd H) :
    ∃ W : Nat → Nat → Hp → Prop, (∃ m, W 0 m (upd H1 D (.dK []))) ∧ ∀ i m H, W i m H →
      ((Itl K a).stop i H ∧ Qd H) ∨ ((Itl K a).go i H ∧ ∃ Nx : Hp → Prop, (∀ H', Nx H' → ∃ m', m' < m ∧ W (i + 1) m' H') ∧ ∀ x H', (Itl K a).yld i H x H' → g x (wipe σ vs) H' fun σ2 H2 => wipe σ2 vs = wipe σ vs ∧ tt σ2 H2 fun b H3 =>
        if b = true then tk σ2 H3 fun y H4 => tv σ2 H4 fun z H5 => ∃ kvs k, y = kV k ∧ H5 D = some (.dK kvs) ∧ kvs.length < sizeLine ∧ Nx (upd H5 D (.dK (putK kvs k z))) else Nx H3) := by
  refine ⟨fun i m H => m = xs.length - i ∧ i ≤ xs.length ∧ Pv i H, ⟨xs.length, by simp, Nat.zero_le _, h0⟩, ?_⟩
  rintro i m H ⟨rfl, hi, p⟩
  have q := hl i H hi p
  rcases Nat.lt_or_ge i xs.length with hlt | hge
  · refine .inr ⟨⟨xs, xs[i], q, by simp [hlt]⟩, Pv (i + 1), fun H' p' => ⟨xs.length - (i + 1), by omega, rfl, hlt, p'⟩, ?_⟩
    rintro x H' ⟨rfl, y⟩
    exact hs i x _ (y xs q) p
  · obtain rfl : i = xs.length := by omega
    exact .inl ⟨⟨xs, q, Nat.le_refl _⟩, hd H p⟩
theorem valV_book_none {B : List (Str × Int)} {k : Str} (h : k ∉ B.map (·.1)) : valV (bookV B) (.inr k : Key) = none := by
  induction B with
  | nil => rfl
  | cons p r ih =>
    have h1 : p.1 ≠ k := fun z => h (by rw [← z]; exact List.mem_cons_self)
    have h2 : k ∉ r.map (·.1) := fun z => h (List.mem_cons_of_mem _ z)
    show valV (((.inr p.1 : Key), V.int p.2) :: bookV r) (.inr k : Key) = none
    rw [valV_neg (by intro z; injection z with z; exact h1 z)]
    exact ih h2
theorem valV_book_some : ∀ {B : List (Str × Int)} {k : Str} {z : Int}, (B.map (·.1)).Nodup → (k, z) ∈ B → valV (bookV B) (.inr k : Key) = some (.int z)
  | [], _, _, _, h => by cases h
  | p :: r, k, z, nd, h => by
    show valV (((.inr p.1 : Key), V.int p.2) :: bookV r) (.inr k : Key) = _
    rcases List.mem_cons.mp h with e | h
    · rw [← e]
      exact valV_pos rfl
    · have h1 : p.1 ≠ k := fun e => (List.nodup_cons.mp nd).1 (List.mem_map.mpr ⟨_, h, e.symm⟩)
      rw [valV_neg (by intro z; injection z with z; exact h1 z)]
      exact valV_book_some (List.nodup_cons.mp nd).2 h
def spRingTable (K : PySem.W.Frag) : Sp := fun vs H Q _ => ∃ (r : Addr) (U : Tm) (L : Log) (t d : Nat), vs = [.ref r] ∧ RingAt K H r U L t d ∧ L.length ≤ 1000 ∧ (nms L).Nodup ∧ ∀ H' D, Same H H' → H D = none → H' D = some (.dK (bookV (lvs L))) → Q (.ref D) H'
theorem scRingTable : FnScope ["self", "entry"] ["self"] (defScope sRingTable) := ⟨rfl, rfl, rfl, by decide +kernel, rfl, by decide +kernel, by decide +kernel⟩
theorem r_Ring_table {w : World} {K : PySem.W.Frag} {mg : Str → Option Value} {base : Heap} (T : Tx K mg) : FnR pg w K mg base (L2.CX pg w) 1 (He.ma K (He.ga K "Ring") "table") (spRingTable K) := by
  obtain ⟨fd, F⟩ := T.fsRingTable
  obtain ⟨tKEY, hKEY⟩ := T.i_KEY
  obtain ⟨tLIVING, hLIVING⟩ := T.i_LIVING
  obtain ⟨tVALUE, hVALUE⟩ := T.i_VALUE
  refine mkR F scRingTable (F.bindsN fun _ _ _ _ _ _ us hl => match us, hl with | [_], _ => rfl) (fun vs H Q E h => ?_) (fun cdv A outer s H vs Q E hr h => ?_)
  · obtain ⟨r, U, L, t, d, rfl, ⟨dx, b, g, o, ca, lw, op, hr0, hb, ⟨_, dg, e, xs, h1, h2, _, nd, hp⟩⟩, h1000, hnd, q⟩ := h
    rfl
  · obtain ⟨r, U, L, t, d, rfl, ⟨dx, b, g, o, ca, lw, op, hr0, hb, ⟨_, dg, e, xs, h1, h2, _, nd, hp⟩⟩, h1000, hnd, q⟩ := h
    refine ⟨_, PSs.nox (pss_one (ps_ret (pe_dc (own := [("entry", 1)]) rfl scRingTable.nd (pi_list (pe_fld (pe_fld (pv 0) rfl) rfl)) (blkOk_by (N := [("self" : Str), ("entry" : Str)]) (sc := defScope sRingTable) (by decide +kernel)) (fun _ _ _ _ _ => (pg_name (i := 1) scRingTable.nd rfl (.inl rfl))) (fun _ _ _ _ _ => (pts_one (pt_val (pe_ix (ix_listK K) (pv 1) (pe_glob (v := .int 2) (by rfl) hLIVING ⟨_, rfl⟩) (fun _ _ => rfl))))) (fun _ _ _ _ _ => (pe_ix (ix_listK K) (pv 1) (pe_glob (v := .int 0) (by rfl) hKEY ⟨_, rfl⟩) (fun _ _ => rfl))) (fun _ _ _ _ _ => (pe_ix (ix_listK K) (pv 1) (pe_glob (v := .int 1) (by rfl) hVALUE ⟨_, rfl⟩) (fun _ _ => rfl)))))), ?_⟩
    have hl := p_len hp
    refine ⟨_, rfl, r, _, dx, _, _, rfl, hr0, T.c_Ring, T.na_Ring_log, rfl, g, _, dg, _, _, rfl, h1, T.c_RingLog, T.na_RingLog_entries, rfl, e, rfl, ⟨_, SqL.of h2⟩, fun D nD => dc_list (xs := xs)
      (fun i H' => H' D = some (.dK (bookV (lvs (L.take i)))) ∧ Same H H') ⟨upd_same, same_upd nD⟩ (fun i H' _ h => ?_) (fun i en H' hx h => ?_) (fun H' h => ?_)⟩
    · exact SqL.of (h.2 _ _ h2)
    · obtain ⟨hD, sm⟩ := h
      obtain ⟨ev, hen, a, v, rd, rfl, _, k1, k2, k3⟩ := p_get hp hx
      have k1' := sm _ _ k1
      refine ⟨rfl, _, rfl, a, _, _, _, rfl, rfl, SqL.of k1', rfl, _, rfl, ?_⟩
      rw [take_next hen]
      cases hb : ev.2 with
      | none =>
        refine ⟨?_, sm⟩
        rw [lvs_app, show lvs [ev] = [] by show (List.filterMap _ [ev]) = []; rw [show ev = (ev.1, none) from Prod.ext rfl hb]; rfl, List.append_nil]
        exact hD
      | some z =>
        refine ⟨_, rfl, a, _, _, _, rfl, rfl, SqL.of k1', rfl, _, rfl, a, _, _, _, rfl, rfl, SqL.of k1', rfl, _, (.inr ev.1 : Key), rfl, hD, ?_, ?_, Same.step sm nD⟩
        · rw [List.length_map]
          have := lvs_le (L.take i)
          have := List.length_take_le i L
          exact Nat.lt_of_le_of_lt (by have := get_lt hx; omega) (small1000 h1000)
        · rw [upd_same, k3 z hb, lvs_app, show lvs [ev] = [(ev.1, z)] by rw [show ev = (ev.1, some z) from Prod.ext rfl hb]; rfl, putK_new]
          · show some (HO.dK (bookV (lvs (L.take i)) ++ _)) = some (HO.dK ((lvs (L.take i) ++ [(ev.1, z)]).map _))
            rw [List.map_append]
            rfl
          · refine valV_book_none fun hm => ?_
            rw [lvs_keys] at hm
            have e1 : nms L = nms (L.take i) ++ nms (L.drop i) := by
              rw [← lvs_keys, ← lvs_keys, ← lvs_keys, ← List.map_append, ← lvs_app, List.take_append_drop]
            have e2 : ev.1 ∈ nms (L.drop i) := nms_mem.mpr ⟨z, by
              rw [← hb]
              have h0 := get_lt hen
              rw [List.drop_eq_getElem_cons h0]
              rw [List.getElem?_eq_getElem h0] at hen
              rw [Option.some.inj hen]
              exact List.mem_cons_self⟩
            rw [e1] at hnd
            exact (List.nodup_append.mp hnd).2.2 _ hm _ e2 rfl
    · obtain ⟨hD, sm⟩ := h
      rw [hl, List.take_of_length_le (Nat.le_refl _)] at hD
      exact q _ D sm nD hD
end K12

set_option Elab.async false
set_option linter.all false
set_option maxRecDepth 100000
set_option maxHeartbeats 4000000
namespace K12
open PySem PySem.Spec PyProof.Rows L2
/-! ## the plain log: what the steps keep -/
theorem liv_trim : ∀ L : Log, liv (trim L) = liv L
  | [] => rfl
  | (k, none) :: r => by
    show liv (trim r) = liv r
    exact liv_trim r
  | (k, some z) :: r => rfl
theorem cnt_trim (L : Log) : cnt (trim L) = cnt L := by unfold cnt; rw [liv_trim]
theorem nms_trim (L : Log) : nms (trim L) = nms L := by unfold nms; rw [liv_trim]
theorem trim_len : ∀ L : Log, (trim L).length ≤ L.length
  | [] => Nat.le_refl _
  | (k, none) :: r => by
    show (trim r).length ≤ r.length + 1
    exact Nat.le_succ_of_le (trim_len r)
  | (k, some z) :: r => Nat.le_refl _
theorem trim_trim : ∀ L : Log, trim (trim L) = trim L
  | [] => rfl
  | (k, none) :: r => by
    show trim (trim r) = trim r
    exact trim_trim r
  | (k, some z) :: r => rfl
theorem trim_sub : ∀ L : Log, ∀ e ∈ trim L, e ∈ L
  | [], _, h => h
  | (k, none) :: r, e, h => List.mem_cons_of_mem _ (trim_sub r e h)
  | (k, some z) :: r, e, h => h
theorem trim_app {L M : Log} (h : trim L = L) (hne : L ≠ []) : trim (L ++ M) = L ++ M := by
  cases L with
  | nil => exact absurd rfl hne
  | cons e r =>
    obtain ⟨k, v⟩ := e
    cases v with
    | some z => rfl
    | none =>
      have h1 : trim r = (k, none) :: r := h
      have h2 := trim_len r
      rw [h1] at h2
      exact absurd h2 (by simp)
theorem liv_app (L M : Log) : liv (L ++ M) = liv L ++ liv M := List.filter_append ..
theorem cnt_app (L M : Log) : cnt (L ++ M) = cnt L + cnt M := by unfold cnt; rw [liv_app, List.length_append]
theorem nms_app (L M : Log) : nms (L ++ M) = nms L ++ nms M := by unfold nms; rw [liv_app, List.map_append]
theorem nms_len (L : Log) : (nms L).length = cnt L := by unfold nms cnt; rw [List.length_map]
theorem liv_mem {L : Log} {k : Str} {z : Int} : (k, some z) ∈ liv L ↔ (k, some z) ∈ L := by
  unfold liv
  rw [List.mem_filter]
  exact ⟨fun h => h.1, fun h => ⟨h, rfl⟩⟩
theorem mem_trim {L : Log} {k : Str} {z : Int} : (k, some z) ∈ trim L ↔ (k, some z) ∈ L := by rw [← liv_mem, liv_trim, liv_mem]
theorem liv_rot (L : Log) : (liv (rot L)).Perm (liv L) := by
  unfold rot
  rw [liv_trim, liv_app]
  refine List.perm_append_comm.trans ?_
  rw [← liv_app, List.take_append_drop]
theorem cnt_rot (L : Log) : cnt (rot L) = cnt L := (liv_rot L).length_eq
theorem rot_len (L : Log) : (rot L).length ≤ L.length := by
  refine Nat.le_trans (trim_len _) ?_
  rw [List.length_append, List.length_drop, List.length_take]
  omega
theorem rot_sub {L : Log} : ∀ e ∈ rot L, e ∈ L := fun e h => by
  rcases List.mem_append.mp (trim_sub _ e h) with h | h
  · exact List.mem_of_mem_drop h
  · exact List.mem_of_mem_take h
theorem carry_liv (sp : Nat) : ∀ (n : Nat) (L : Log), (liv (carry sp n L).1).Perm (liv L)
  | 0, L => .refl _
  | n + 1, L => by
    unfold carry
    split
    · exact .refl _
    · exact (carry_liv sp n (rot L)).trans (liv_rot L)
theorem carry_len (sp : Nat) : ∀ (n : Nat) (L : Log), (carry sp n L).1.length ≤ L.length
  | 0, L => Nat.le_refl _
  | n + 1, L => by
    unfold carry
    split
    · exact Nat.le_refl _
    · exact Nat.le_trans (carry_len sp n (rot L)) (rot_len L)
theorem carry_sub (sp : Nat) : ∀ (n : Nat) (L : Log), ∀ e ∈ (carry sp n L).1, e ∈ L
  | 0, L, e, h => h
  | n + 1, L, e, h => by
    unfold carry at h
    split at h
    · exact h
    · exact rot_sub e (carry_sub sp n (rot L) e h)
theorem carry_trim (sp : Nat) : ∀ (n : Nat) (L : Log), trim L = L → trim (carry sp n L).1 = (carry sp n L).1
  | 0, L, h => h
  | n + 1, L, h => by
    unfold carry
    split
    · exact h
    · exact carry_trim sp n (rot L) (trim_trim _)
theorem carry_le (sp : Nat) : ∀ (n : Nat) (L : Log), (carry sp n L).2 ≤ n
  | 0, L => Nat.le_refl _
  | n + 1, L => by
    unfold carry
    split
    · exact Nat.zero_le _
    · exact Nat.succ_le_succ (carry_le sp n (rot L))
theorem kill_len (k : Str) (L : Log) : (kill k L).length = L.length := List.length_map ..
theorem kill_app (k : Str) (L M : Log) : kill k (L ++ M) = kill k L ++ kill k M := List.map_append ..
theorem kill_mem {k k' : Str} {z : Int} {L : Log} : (k', some z) ∈ kill k L ↔ k' ≠ k ∧ (k', some z) ∈ L := by
  unfold kill
  rw [List.mem_map]
  constructor
  · rintro ⟨⟨a, b⟩, h, e⟩
    have h1 : a = k' := congrArg Prod.fst e
    have h2 : (if a = k then none else b) = some z := congrArg Prod.snd e
    by_cases hk : a = k
    · rw [if_pos hk] at h2
      cases h2
    · rw [if_neg hk] at h2
      rw [← h1, ← h2]
      exact ⟨hk, h⟩
  · rintro ⟨h1, h2⟩
    exact ⟨_, h2, by simp [h1]⟩
theorem kill_none {k : Str} : ∀ {L : Log}, k ∉ nms L → kill k L = L
  | [], _ => rfl
  | (a, none) :: r, h => by
    show (a, if a = k then none else none) :: kill k r = (a, none) :: r
    rw [kill_none (L := r) h]
    split <;> rfl
  | (a, some z) :: r, h => by
    have h1 : a ≠ k := fun e => h (by rw [← e]; exact List.mem_cons_self)
    show (a, if a = k then none else some z) :: kill k r = (a, some z) :: r
    rw [if_neg h1, kill_none (L := r) fun q => h (List.mem_cons_of_mem _ q)]
theorem kill_set {k : Str} {z : Int} : ∀ {L : Log} {i : Nat}, (nms L).Nodup → L[i]? = some (k, some z) → L.set i (k, none) = kill k L
  | [], _, _, h => by cases h
  | e :: r, 0, nd, h => by
    obtain rfl : e = (k, some z) := Option.some.inj h
    have h1 : k ∉ nms r := (List.nodup_cons.mp nd).1
    show (k, none) :: r = (k, if k = k then none else some z) :: kill k r
    rw [if_pos rfl, kill_none h1]
  | (a, none) :: r, i + 1, nd, h => by
    show (a, none) :: r.set i (k, none) = (a, if a = k then none else none) :: kill k r
    rw [kill_set (L := r) nd h]
    split <;> rfl
  | (a, some y) :: r, i + 1, nd, h => by
    have h1 : a ≠ k := fun e => (List.nodup_cons.mp nd).1 (by
      rw [e]
      exact nms_mem.mpr ⟨z, List.mem_of_getElem? h⟩)
    show (a, some y) :: r.set i (k, none) = (a, if a = k then none else some y) :: kill k r
    rw [if_neg h1, kill_set (L := r) (List.nodup_cons.mp nd).2 h]
theorem nms_kill (k : Str) : ∀ L : Log, nms (kill k L) = (nms L).filter fun x => decide (x ≠ k)
  | [] => rfl
  | (a, none) :: r => by
    have ih := nms_kill k r
    show nms ((a, if a = k then none else none) :: kill k r) = (nms r).filter _
    split <;> exact ih
  | (a, some y) :: r => by
    have ih := nms_kill k r
    show nms ((a, if a = k then none else some y) :: kill k r) = (a :: nms r).filter _
    by_cases h : a = k
    · rw [if_pos h]
      have e : (a :: nms r).filter (fun x => decide (x ≠ k)) = (nms r).filter fun x => decide (x ≠ k) := by simp [h]
      rw [e]
      exact ih
    · rw [if_neg h]
      have e : (a :: nms r).filter (fun x => decide (x ≠ k)) = a :: (nms r).filter fun x => decide (x ≠ k) := by simp [h]
      rw [e]
      exact congrArg (a :: ·) ih
/-! ### one deed -/
/-- the deed behind the ring's own checks -/
def dueC (T : Tm) (t : Nat) (L : Log) (k : Str) (v : Option Int) (c : Option Int) : Option Log :=
  if T.rear = true ∧ T.span ≤ L.length then none else mid T L k v c (c.getD (mostC T t L k v)) (mostC T t L k v)
theorem due_eq (T : Tm) (t : Nat) (L : Log) (k : Str) (v : Option Int) (c : Option Int) : due T t L k v c = if v = none ∧ k ∉ nms L then none else if k ∉ nms L ∧ T.cap ≤ (nms L).length then none else dueC T t L k v c := rfl
theorem others_le (T : Tm) (L : Log) (k : Str) (v : Option Int) : others T L k v ≤ (cnt (ahead T L k v) : Int) ∧ 0 ≤ others T L k v := by
  unfold others
  split
  · rename_i h
    have h1 : 1 ≤ cnt (ahead T L k v) := by
      unfold ahead own
      rw [cnt_trim, cnt_app, if_pos h.1]
      obtain ⟨z, hz⟩ := Option.isSome_iff_exists.mp h.2
      rw [hz]
      exact Nat.le_add_left 1 _
    omega
  · omega
theorem getD_nonneg {T : Tm} (hT : T.Ok) (t : Nat) : 0 ≤ T.cyc.getD t 0 := by
  rw [List.getD_eq_getElem?_getD]
  cases h : T.cyc[t]? with
  | none => exact Int.le_refl 0
  | some z => exact hT.all z (List.mem_of_getElem? h)
theorem mostC_ok {T : Tm} (hT : T.Ok) (t : Nat) (L : Log) (k : Str) (v : Option Int) : 0 ≤ mostC T t L k v ∧ mostC T t L k v ≤ others T L k v := by
  have h1 := others_le T L k v
  have h2 := getD_nonneg hT t
  unfold mostC
  split <;> omega
theorem ahead_trim (T : Tm) (L : Log) (k : Str) (v : Option Int) : trim (ahead T L k v) = ahead T L k v := trim_trim _
theorem ahead_len (T : Tm) (L : Log) (k : Str) (v : Option Int) : (ahead T L k v).length ≤ L.length + (if T.rear = true then 1 else 0) := by
  refine Nat.le_trans (trim_len _) ?_
  unfold own
  rw [List.length_append, kill_len]
  split <;> exact Nat.le_refl _
theorem own_mem {T : Tm} {k k' : Str} {v : Option Int} {z : Int} : (k', some z) ∈ own T k v ↔ T.rear = true ∧ k' = k ∧ v = some z := by
  unfold own
  split
  · rename_i h
    rw [List.mem_singleton, Prod.mk.injEq]
    exact ⟨fun q => ⟨h, q.1, q.2.symm⟩, fun q => ⟨q.2.1, q.2.2.symm⟩⟩
  · rename_i h
    exact ⟨fun q => (by cases q), fun q => absurd q.1 h⟩
theorem carry_mem {sp n : Nat} {L : Log} {k : Str} {z : Int} : (k, some z) ∈ (carry sp n L).1 ↔ (k, some z) ∈ L := by rw [← liv_mem, (carry_liv sp n L).mem_iff, liv_mem]
/-- what a completed deed leaves -/
theorem dueC_ok {T : Tm} (hT : T.Ok) {t : Nat} {L L' : Log} {k : Str} {v c : Option Int} (ok : LogOk T L) (hk : GK k) (hv : ∀ z, v = some z → SmallI z) (h : dueC T t L k v c = some L') :
    LogOk T L' ∧ ∀ k' z, (k', some z) ∈ L' ↔ (k' ≠ k ∧ (k', some z) ∈ L) ∨ (k' = k ∧ v = some z) := by
  unfold dueC at h
  split at h
  · cases h
  rename_i h0
  unfold mid at h
  split at h
  · cases h
  split at h
  · cases h
  unfold fin at h
  generalize hn : (c.getD (mostC T t L k v)).toNat = n at h
  have ndk : (nms (kill k L)).Nodup := by
    rw [nms_kill]
    exact ok.nd.sublist List.filter_sublist
  have nk : k ∉ nms (kill k L) := by
    rw [nms_kill]
    intro q
    simp at q
  have sub : ∀ e ∈ ahead T L k v, GK e.1 ∧ ∀ z, e.2 = some z → SmallI z := by
    intro e he
    rcases List.mem_append.mp (trim_sub _ e he) with q | q
    · obtain ⟨⟨a, b⟩, h1, h2⟩ := List.mem_map.mp q
      have e1 : a = e.1 := congrArg Prod.fst h2
      have e2 : (if a = k then none else b) = e.2 := congrArg Prod.snd h2
      refine ⟨by rw [← e1]; exact ok.key _ h1, fun z hz => ?_⟩
      rw [hz] at e2
      by_cases ha : a = k
      · rw [if_pos ha] at e2; cases e2
      · rw [if_neg ha] at e2
        exact ok.val _ h1 z e2
    · unfold own at q
      split at q
      · obtain rfl := List.mem_singleton.mp q
        exact ⟨hk, fun z hz => hv z hz⟩
      · cases q
  have memA : ∀ k' z, (k', some z) ∈ ahead T L k v ↔ (k' ≠ k ∧ (k', some z) ∈ L) ∨ (T.rear = true ∧ k' = k ∧ v = some z) := by
    intro k' z
    unfold ahead
    rw [mem_trim, List.mem_append, kill_mem, own_mem]
  have ndA : (nms (ahead T L k v)).Nodup := by
    unfold ahead
    rw [nms_trim, nms_app]
    refine List.nodup_append.mpr ⟨ndk, ?_, ?_⟩
    · unfold own
      split
      · cases v with
        | none => exact List.nodup_nil
        | some z => exact List.nodup_cons.mpr ⟨by simp, List.nodup_nil⟩
      · exact List.nodup_nil
    · intro a ha b hb e
      obtain ⟨z, hz⟩ := nms_mem.mp hb
      have := (own_mem.mp hz).2.1
      rw [e, this] at ha
      exact nk ha
  have ndC : (nms (carry T.span n (ahead T L k v)).1).Nodup := ((carry_liv T.span n (ahead T L k v)).map _).nodup_iff.mpr ndA
  by_cases hr : T.rear = true
  · rw [if_pos hr] at h
    obtain rfl := Option.some.inj h
    refine ⟨⟨ndC, fun e he => (sub e (carry_sub _ _ _ e he)).1, fun e he => (sub e (carry_sub _ _ _ e he)).2, ?_, carry_trim _ _ _ (ahead_trim ..)⟩, fun k' z => ?_⟩
    · have h1 := carry_len T.span n (ahead T L k v)
      have h2 := ahead_len T L k v
      rw [if_pos hr] at h2
      have : ¬ T.span ≤ L.length := fun q => h0 ⟨hr, q⟩
      omega
    · rw [carry_mem, memA]
      exact ⟨fun q => q.imp id fun q => q.2, fun q => q.imp id fun q => ⟨hr, q⟩⟩
  · rw [if_neg hr] at h
    split at h
    · cases h
    rename_i hs
    obtain rfl := Option.some.inj h
    refine ⟨⟨?_, fun e he => ?_, fun e he => ?_, ?_, trim_trim _⟩, fun k' z => ?_⟩
    · rw [nms_trim, nms_app]
      refine List.nodup_append.mpr ⟨ndC, ?_, ?_⟩
      · cases v with
        | none => exact List.nodup_nil
        | some z => exact List.nodup_cons.mpr ⟨by simp, List.nodup_nil⟩
      · intro a ha b hb e
        obtain ⟨z, hz⟩ := nms_mem.mp hb
        have e1 : b = k := congrArg Prod.fst (List.mem_singleton.mp hz)
        rw [e, e1] at ha
        obtain ⟨z', hz'⟩ := nms_mem.mp ha
        rcases (memA _ _).mp (carry_mem.mp hz') with q | q
        · exact q.1 rfl
        · exact hr q.1
    · rcases List.mem_append.mp (trim_sub _ e he) with q | q
      · exact (sub e (carry_sub _ _ _ e q)).1
      · obtain rfl := List.mem_singleton.mp q
        exact hk
    · rcases List.mem_append.mp (trim_sub _ e he) with q | q
      · exact (sub e (carry_sub _ _ _ e q)).2
      · obtain rfl := List.mem_singleton.mp q
        exact fun z hz => hv z hz
    · refine Nat.le_trans (trim_len _) ?_
      rw [List.length_append]
      show _ + 1 ≤ _
      omega
    · rw [mem_trim, List.mem_append, carry_mem, memA, List.mem_singleton, Prod.mk.injEq]
      constructor
      · rintro ((q | q) | ⟨q1, q2⟩)
        · exact .inl q
        · exact absurd q.1 hr
        · exact .inr ⟨q1, q2.symm⟩
      · rintro (q | ⟨q1, q2⟩)
        · exact .inl (.inl q)
        · exact .inr ⟨q1, q2.symm⟩
theorem due_ok {T : Tm} (hT : T.Ok) {t : Nat} {L L' : Log} {k : Str} {v c : Option Int} (ok : LogOk T L) (hk : GK k) (hv : ∀ z, v = some z → SmallI z) (h : due T t L k v c = some L') :
    LogOk T L' ∧ ∀ k' z, (k', some z) ∈ L' ↔ (k' ≠ k ∧ (k', some z) ∈ L) ∨ (k' = k ∧ v = some z) := by
  rw [due_eq] at h
  split at h
  · cases h
  split at h
  · cases h
  exact dueC_ok hT ok hk hv h
end K12

set_option Elab.async false
set_option linter.all false
set_option maxRecDepth 100000
set_option maxHeartbeats 4000000
namespace K12
open PySem PySem.Spec PyProof.Rows L2
/-! ## the ring's deeds -/
def errs : List Str := ["KeyLimit", "UnknownKey", "BadChoice", "Stalled"]
/-- refused: one of the four errors, what was tracked in H0 stands -/
def OutSE (K : PySem.W.Frag) (H0 : Hp) (E : XK) : Prop := ∀ (x : Str) (d : Option Addr) (H' : Hp), x ∈ errs → Same H0 H' → E (.ref (He.ga K x)) d H'
def Small29 (d : Nat) : Prop := d < 10 ^ 29
theorem out_st {K : PySem.W.Frag} {H0 H1 : Hp} {d : Nat} {E : XK} {σ : L2.St} (h : OutSE K H0 E) (sm : Same H0 H1) (hd : Small29 d) : RC (He.ga K "Stalled") "deeds" okInt (fun cls d _ H2 => E cls d H2) σ (.int d) H1 :=
  RC.of ⟨d, rfl, by show d < 10 ^ 30; exact Nat.lt_of_lt_of_le hd (by decide)⟩ fun d nd => h "Stalled" _ _ (by unfold errs; simp) (Same.step sm (sm.free nd))
theorem out_bc {K : PySem.W.Frag} {H0 H1 : Hp} {v : V} {E : XK} {σ : L2.St} (h : OutSE K H0 E) (sm : Same H0 H1) : RC (He.ga K "BadChoice") "choice" (fun _ => True) (fun cls d _ H2 => E cls d H2) σ v H1 :=
  RC.of trivial fun d nd => h "BadChoice" _ _ (by unfold errs; simp) (Same.step sm (sm.free nd))
theorem out_kl {K : PySem.W.Frag} {H0 H1 : Hp} {n : Nat} {E : XK} {σ : L2.St} (h : OutSE K H0 E) (sm : Same H0 H1) (hn : n ≤ 64) : RC (He.ga K "KeyLimit") "most" okInt (fun cls d _ H2 => E cls d H2) σ (.int n) H1 :=
  RC.of ⟨n, rfl, by show n < 10 ^ 30; exact Nat.lt_of_le_of_lt hn (by decide)⟩ fun d nd => h "KeyLimit" _ _ (by unfold errs; simp) (Same.step sm (sm.free nd))
theorem out_uk2 {K : PySem.W.Frag} {H0 H1 : Hp} {k : Str} {E : XK} {σ : L2.St} (h : OutSE K H0 E) (sm : Same H0 H1) (hk : (reprText k).length ≤ 300) : RC (He.ga K "UnknownKey") "key" okStr (fun cls d _ H2 => E cls d H2) σ (.str k) H1 :=
  RC.of ⟨k, rfl, hk⟩ fun d nd => h "UnknownKey" _ _ (by unfold errs; simp) (Same.step sm (sm.free nd))
def spAppendTo (K : PySem.W.Frag) : Sp := fun vs H Q E => ∃ (r g : Addr) (k : Str) (v : V) (ov : Option Int) (U : Tm) (L0 L : Log) (t d : Nat) (H0 : Hp), vs = [.ref r, .ref g, .str k, v, .bl ov.isSome] ∧ RingAt K H r U L0 t d ∧ Small29 d ∧ Same H0 H ∧ LogAt K H0 H g L ∧ L.length ≤ 900 ∧ (∀ z, ov = some z → v = .int z) ∧
  (L.length < U.span → ∀ H', Same H0 H' → LogAt K H0 H' g (trim (L ++ [(k, ov)])) → Q .non H') ∧ (U.span ≤ L.length → OutSE K H0 E)
theorem scRingAppendTo : FnScope ["self", "draft", "key", "value", "is_living"] ["self", "draft", "key", "value", "is_living"] (defScope sRingAppendTo) := ⟨rfl, rfl, rfl, by decide +kernel, rfl, by decide +kernel, by decide +kernel⟩
theorem r_Ring_append_to {w : World} {K : PySem.W.Frag} {mg : Str → Option Value} {base : Heap} (T : Tx K mg) : FnR pg w K mg base (L2.CX pg w) 4 (He.ma K (He.ga K "Ring") "_append_to") (spAppendTo K) := by
  obtain ⟨fd, F⟩ := T.fsRingAppendTo
  obtain ⟨fdST, bST, FST⟩ := okST (w := w) (base := base) T
  refine mkR F scRingAppendTo (F.bindsN fun _ _ _ _ _ _ us hl => match us, hl with | [_, _, _, _, _], _ => rfl) (fun vs H Q E h => ?_) (fun cdv A outer s H vs Q E hr h => ?_)
  · obtain ⟨r, g, k, v, ov, U, L0, L, t, d, H0, rfl, ⟨dx, b, g0, o, ca, lw, op, hr0, hb, hl0⟩, hd, sm, hlog, h900, hv, q1, q2⟩ := h
    rfl
  · obtain ⟨r, g, k, v, ov, U, L0, L, t, d, H0, rfl, ⟨dx, b, g0, o, ca, lw, op, hr0, hb, hl0⟩, hd, sm, hlog, h900, hv, q1, q2⟩ := h
    have tk : Takes (cxOf (L2.CX pg w) pg w K mg base [("self" : Str), ("draft" : Str), ("key" : Str), ("value" : Str), ("is_living" : Str)] "Ring._append_to" (defScope sRingAppendTo) (He.fAd K ("Ring", some "_append_to")) cdv A outer s H E) (fun cls d _ H1 => E cls d H1) := takes_of rfl rfl rfl rfl
    have hp : PassesOwn (model pg w) (cxOf (L2.CX pg w) pg w K mg base [("self" : Str), ("draft" : Str), ("key" : Str), ("value" : Str), ("is_living" : Str)] "Ring._append_to" (defScope sRingAppendTo) (He.fAd K ("Ring", some "_append_to")) cdv A outer s H E).A (cxOf (L2.CX pg w) pg w K mg base [("self" : Str), ("draft" : Str), ("key" : Str), ("value" : Str), ("is_living" : Str)] "Ring._append_to" (defScope sRingAppendTo) (He.fAd K ("Ring", some "_append_to")) cdv A outer s H E).env (cxOf (L2.CX pg w) pg w K mg base [("self" : Str), ("draft" : Str), ("key" : Str), ("value" : Str), ("is_living" : Str)] "Ring._append_to" (defScope sRingAppendTo) (He.fAd K ("Ring", some "_append_to")) cdv A outer s H E).xe := passes_of rfl
    refine ⟨_, (pss_cons (ps_if (pt_cmpR op_ge (pe_callB call_len_seq (by rfl) T.n_len PySem.boot_len (pa_cons (pe_fld (pv 1) rfl) pa_nil)) (pe_fld (pv 0) rfl) (nomark _)) (pss_one (ps_raiseE T.eST FST bST (hr.mono (by decide)) T.g_Stalled rfl tk (pe_fld (pv 0) rfl))) pss_nil)
      (pss_one (ps_expr (pe_M (pv 1) T.c_RingLog T.m_RingLog_append_entry (r_RingLog_append_entry T) (hr.mono (by decide)) tk (pa_cons (pv 2) (pa_cons (pv 3) (pa_cons (pv 4) pa_nil))))))), ?_⟩
    obtain ⟨ng, dg, e, xs, h1, h2, ne, nd, hp⟩ := id hlog
    have hl := p_len hp
    refine ⟨_, rfl, g, _, dg, _, _, rfl, h1, T.c_RingLog, T.na_RingLog_entries, rfl, e, xs, rfl, .inl (SqL.of h2), _, rfl, r, _, dx, _, _, rfl, hr0, T.c_Ring, T.na_Ring_places, rfl, _, _, rfl, rfl, _, rfl, ?_⟩
    by_cases hs : U.span ≤ L.length
    · rw [decide_eq_true (show ((U.span : Nat) : Int) ≤ ((xs.length : Nat) : Int) by omega)]
      refine iteT ?_
      exact ⟨_, rfl, r, _, dx, _, _, rfl, hr0, T.c_Ring, T.na_Ring_done, rfl, out_st (q2 hs) sm hd⟩
    · rw [decide_eq_false (show ¬ ((U.span : Nat) : Int) ≤ ((xs.length : Nat) : Int) by omega)]
      refine iteF ?_
      exact ⟨_, rfl, g, dg, _, rfl, h1, rfl, _, rfl, _, rfl, _, rfl, g, H0, L, k, v, ov, rfl, sm, hlog, h900, hv, fun H' s l => q1 (by omega) H' s l⟩
/-- how many are carried, and where they lead -/
def carryIn (U : Tm) (most : Int) (L : Log) (c : Option Int) : Option (Log × Nat) :=
  if c.getD most < 0 ∨ most < c.getD most then none
  else if c.isSome = true ∧ ((carry U.span (c.getD most).toNat L).2 : Int) < c.getD most then none
  else some (carry U.span (c.getD most).toNat L)
def cV (c : Option Int) : V := match c with
  | none => .non
  | some i => .int i
def spCarryIn (K : PySem.W.Frag) : Sp := fun vs H Q E => ∃ (r g : Addr) (c : Option Int) (oth : Int) (U : Tm) (L0 L : Log) (t d : Nat) (H0 : Hp), vs = [.ref r, .ref g, cV c, .int oth] ∧ RingAt K H0 r U L0 t d ∧ U.Ok ∧ t < U.cyc.length ∧ Same H0 H ∧ LogAt K H0 H g L ∧ L.length ≤ 900 ∧ 0 ≤ oth ∧ oth ≤ (cnt L : Nat) ∧
  (carryIn U (if oth < U.cyc.getD t 0 then oth else U.cyc.getD t 0) L c = none → OutSE K H0 E) ∧
  (∀ M, carryIn U (if oth < U.cyc.getD t 0 then oth else U.cyc.getD t 0) L c = some M → ∀ H', Same H0 H' → LogAt K H0 H' g M.1 → Q (.int (M.2 : Nat)) H')
theorem scRingCarryIn : FnScope ["self", "draft", "count", "others", "most", "wait"] ["self", "draft", "count", "others"] (defScope sRingCarryIn) := ⟨rfl, rfl, rfl, by decide +kernel, rfl, by decide +kernel, by decide +kernel⟩
theorem r_Ring_carry_in {w : World} {K : PySem.W.Frag} {mg : Str → Option Value} {base : Heap} (T : Tx K mg) : FnR pg w K mg base (L2.CX pg w) 4 (He.ma K (He.ga K "Ring") "_carry_in") (spCarryIn K) := by
  obtain ⟨fd, F⟩ := T.fsRingCarryIn
  obtain ⟨fdBC, bBC, FBC⟩ := okBC (w := w) (base := base) T
  refine mkR F scRingCarryIn (F.bindsN fun _ _ _ _ _ _ us hl => match us, hl with | [_, _, _, _], _ => rfl) (fun vs H Q E h => ?_) (fun cdv A outer s H vs Q E hr h => ?_)
  · obtain ⟨r, g, c, oth, U, L0, L, t, d, H0, rfl, hring, hU, ht, sm, hlog, h900, ho0, ho, q1, q2⟩ := h
    rfl
  · obtain ⟨r, g, c, oth, U, L0, L, t, d, H0, rfl, hring, hU, ht, sm, hlog, h900, ho0, ho, q1, q2⟩ := h
    have tk : Takes (cxOf (L2.CX pg w) pg w K mg base [("self" : Str), ("draft" : Str), ("count" : Str), ("others" : Str), ("most" : Str), ("wait" : Str)] "Ring._carry_in" (defScope sRingCarryIn) (He.fAd K ("Ring", some "_carry_in")) cdv A outer s H E) (fun cls d _ H1 => E cls d H1) := takes_of rfl rfl rfl rfl
    have hp : PassesOwn (model pg w) (cxOf (L2.CX pg w) pg w K mg base [("self" : Str), ("draft" : Str), ("count" : Str), ("others" : Str), ("most" : Str), ("wait" : Str)] "Ring._carry_in" (defScope sRingCarryIn) (He.fAd K ("Ring", some "_carry_in")) cdv A outer s H E).A (cxOf (L2.CX pg w) pg w K mg base [("self" : Str), ("draft" : Str), ("count" : Str), ("others" : Str), ("most" : Str), ("wait" : Str)] "Ring._carry_in" (defScope sRingCarryIn) (He.fAd K ("Ring", some "_carry_in")) cdv A outer s H E).env (cxOf (L2.CX pg w) pg w K mg base [("self" : Str), ("draft" : Str), ("count" : Str), ("others" : Str), ("most" : Str), ("wait" : Str)] "Ring._carry_in" (defScope sRingCarryIn) (He.fAd K ("Ring", some "_carry_in")) cdv A outer s H E).xe := passes_of rfl
    refine ⟨_, (pss_cons (ps_set (i := 4) scRingCarryIn.nd rfl (by first | exact .inl rfl | exact .inr rfl) (pe_callB (call_min2 rfl) (by rfl) T.n_min (by decide +kernel) (pa_cons (pe_M (pe_fld (pv 0) rfl) T.c_Round T.m_Round_at (r_Round_at T) (hr.mono (by decide)) tk (pa_cons (pe_fld (pv 0) rfl) pa_nil)) (pa_cons (pv 3) pa_nil))))
      (Evl.pss_cut (ps_if (pt_cmpR op_notN (pv 2) pe_non (nomark _)) (pss_cons (ps_if (PW.pt (pw_or (pt_cmpR op_lt (pv 2) pe_int (nomark _)) (pw_or1 (pt_cmpR op_gt (pv 2) (pv 4) (nomark _))))) (pss_one (ps_raiseE T.eBC FBC bBC (hr.mono (by decide)) T.g_BadChoice rfl tk (pv 2))) pss_nil)
      (pss_one (ps_set (i := 4) scRingCarryIn.nd rfl (by first | exact .inl rfl | exact .inr rfl) (pv 2)))) pss_nil)
      (pss_cons (ps_set (i := 5) scRingCarryIn.nd rfl (by first | exact .inl rfl | exact .inr rfl) pe_int)
      (Evl.pss_cut (ps_while hp (PW.pt (pw_and (pt_cmpR op_lt (pv 5) (pv 4) (nomark _)) (pw_and1 (pt_cmpR op_lt (pe_callB call_len_seq (by rfl) T.n_len PySem.boot_len (pa_cons (pe_fld (pv 1) rfl) pa_nil)) (pe_fld (pv 0) rfl) (nomark _))))) (pss_cons (ps_expr (pe_M0 (pv 1) T.c_RingLog T.m_RingLog_carry_tail (r_RingLog_carry_tail T) (hr.mono (by decide)) tk))
      (pss_one (ps_set (i := 5) scRingCarryIn.nd rfl (by first | exact .inl rfl | exact .inr rfl) (pe_op op_add (pv 5) pe_int)))))
      (pss_cons (ps_if (PW.pt (pw_and (pt_cmpR op_notN (pv 2) pe_non (nomark _)) (pw_and1 (pt_cmpR op_lt (pv 5) (pv 2) (nomark _))))) (pss_one (ps_raiseE T.eBC FBC bBC (hr.mono (by decide)) T.g_BadChoice rfl tk (pv 2))) pss_nil)
      (pss_one (ps_ret (pv 5)))))))), ?_⟩
    obtain ⟨dx, b, g0, o, ca, lw, op, hr0, hb, hl0⟩ := hring
    obtain ⟨ng, dg, e, xs, h1, hrest⟩ := id hlog
    have rest : Same H H := .refl _
    obtain ⟨dxb, tb, hb1, hb2⟩ := id hb
    refine ⟨_, rfl, r, _, dx, _, _, rfl, sm _ _ hr0, T.c_Ring, T.na_Ring_budgets, rfl, b, dxb, _, rfl, sm _ _ hb1, rfl, _, rfl, r, _, dx, _, _, rfl, sm _ _ hr0, T.c_Ring, T.na_Ring_phase, rfl, b, U.cyc, t, rfl, ⟨dxb, tb, sm _ _ hb1, sm _ _ hb2⟩, ht, _, rfl, _, _, rfl, ?_⟩
    generalize hm : (if oth < U.cyc.getD t 0 then oth else U.cyc.getD t 0) = most at q1 q2 ⊢
    have hm0 : 0 ≤ most := by
      have := getD_nonneg hU t
      rw [← hm]
      split <;> omega
    have hmo : most ≤ oth := by
      rw [← hm]
      split <;> omega
    have hask : ¬ (c.getD most < 0 ∨ most < c.getD most) → 0 ≤ c.getD most ∧ c.getD most ≤ most := fun h => by omega
    -- the check of the count
    refine ⟨fun σ' H' => σ' = [some (.ref r), some (.ref g), some (cV c), some (.int oth), some (.int (c.getD most)), none] ∧ H' = H ∧ ¬ (c.getD most < 0 ∨ most < c.getD most), ?_, ?_⟩
    · cases c with
      | none =>
        refine ⟨_, rfl, rfl, _, rfl, ?_⟩
        refine iteF ⟨rfl, rfl, ?_⟩
        show ¬ (most < 0 ∨ most < most)
        omega
      | some i =>
        have bad : (i < 0 ∨ most < i) → OutSE K H0 E := fun h => q1 (by
          unfold carryIn
          rw [if_pos (show (some i).getD most < 0 ∨ most < (some i).getD most from h)])
        refine ⟨_, rfl, rfl, _, rfl, ?_⟩
        rw [decide_eq_false (show ¬ cV (some i) = V.non by intro h; cases h)]
        refine iteT ?_
        refine ⟨_, rfl, _, _, rfl, rfl, _, rfl, ?_⟩
        by_cases hi : i < 0
        · rw [decide_eq_true hi]
          refine iteT (iteT ?_)
          exact ⟨_, rfl, out_bc (bad (.inl hi)) sm⟩
        · rw [decide_eq_false hi]
          refine iteF ?_
          refine ⟨_, rfl, _, rfl, _, _, rfl, rfl, _, rfl, ?_⟩
          by_cases hi2 : most < i
          · rw [decide_eq_true hi2]
            refine iteT ?_
            exact ⟨_, rfl, out_bc (bad (.inr hi2)) sm⟩
          · rw [decide_eq_false hi2]
            refine iteF ?_
            exact ⟨_, rfl, rfl, rfl, by show ¬ (i < 0 ∨ most < i); omega⟩
    rintro σ' H' ⟨rfl, rfl, hok⟩
    obtain ⟨ha0, ham⟩ := hask hok
    generalize hask0 : c.getD most = asked at ha0 ham hok q1 q2 ⊢
    have hcar : carryIn U most L c = if c.isSome = true ∧ ((carry U.span asked.toNat L).2 : Int) < asked then none else some (carry U.span asked.toNat L) := by
      unfold carryIn
      rw [hask0, if_neg hok]
    -- the carrying
    refine ⟨fun σ' H' => ∃ n : Nat, σ' = [some (.ref r), some (.ref g), some (cV c), some (.int oth), some (.int asked), some (.int n)] ∧ Same H0 H' ∧ LogAt K H0 H' g (carry U.span asked.toNat L).1 ∧ n = (carry U.span asked.toNat L).2, ?_, ?_⟩
    · refine ⟨fun m σ' H' => ∃ (i : Nat) (M : Log), σ' = [some (.ref r), some (.ref g), some (cV c), some (.int oth), some (.int asked), some (.int i)] ∧ (i : Int) + (m : Int) = asked ∧ Same H0 H' ∧ LogAt K H0 H' g M ∧ M.length ≤ 900 ∧ cnt M = cnt L ∧
        carry U.span asked.toNat L = ((carry U.span m M).1, (carry U.span m M).2 + i), ⟨asked.toNat, 0, L, rfl, by omega, sm, hlog, h900, rfl, rfl⟩, ?_⟩
      rintro m σ' H' ⟨i, M, rfl, him, sm', hlog', h9', hcM, hcar'⟩
      obtain ⟨ng', dg', e', xs', k1, k2, ne', nd', hp'⟩ := id hlog'
      have hl' := p_len hp'
      have stop : (carry U.span m M) = (M, 0) → ∃ n : Nat, ([some (.ref r), some (.ref g), some (cV c), some (.int oth), some (.int asked), some (.int i)] : L2.St) = [some (.ref r), some (.ref g), some (cV c), some (.int oth), some (.int asked), some (.int n)] ∧ Same H0 H' ∧ LogAt K H0 H' g (carry U.span asked.toNat L).1 ∧ n = (carry U.span asked.toNat L).2 := fun h => by
        refine ⟨i, rfl, sm', ?_, ?_⟩
        · rw [hcar', h]
          exact hlog'
        · rw [hcar', h]
          exact (Nat.zero_add i).symm
      refine ⟨_, rfl, _, rfl, _, _, rfl, rfl, _, rfl, ?_⟩
      cases m with
      | zero =>
        rw [decide_eq_false (show ¬ ((i : Nat) : Int) < asked by omega)]
        exact iteF (iteF (stop rfl))
      | succ m =>
        rw [decide_eq_true (show ((i : Nat) : Int) < asked by omega)]
        refine iteT ?_
        refine ⟨_, rfl, g, _, dg', _, _, rfl, k1, T.c_RingLog, T.na_RingLog_entries, rfl, e', xs', rfl, .inl (SqL.of k2), _, rfl, r, _, dx, _, _, rfl, sm' _ _ hr0, T.c_Ring, T.na_Ring_places, rfl, _, _, rfl, rfl, _, rfl, ?_⟩
        have hM0 : M ≠ [] := fun z => by
          rw [z] at hcM
          have : cnt ([] : Log) = 0 := rfl
          omega
        have hM1 : M.length ≠ 0 := fun z => hM0 (List.length_eq_zero_iff.mp z)
        by_cases hs : U.span ≤ M.length
        · rw [decide_eq_false (show ¬ ((xs'.length : Nat) : Int) < ((U.span : Nat) : Int) by omega)]
          refine iteF (stop ?_)
          unfold carry
          rw [if_pos (.inr hs)]
        · rw [decide_eq_true (show ((xs'.length : Nat) : Int) < ((U.span : Nat) : Int) by omega)]
          refine iteT ?_
          have hstep : carry U.span (m + 1) M = ((carry U.span m (rot M)).1, (carry U.span m (rot M)).2 + 1) := by
            show (if _ then _ else _) = _
            rw [if_neg (by omega)]
          refine ⟨fun σ2 H2 => ∃ (i2 : Nat) (M2 : Log), σ2 = [some (.ref r), some (.ref g), some (cV c), some (.int oth), some (.int asked), some (.int i2)] ∧ i2 = i + 1 ∧ Same H0 H2 ∧ LogAt K H0 H2 g M2 ∧ M2 = rot M, fun σ2 H2 hN => ?_, ?_⟩
          · obtain ⟨i2, M2, rfl, rfl, s2, l2, rfl⟩ := hN
            refine ⟨m, Nat.lt_succ_self m, i + 1, rot M, rfl, by omega, s2, l2, Nat.le_trans (rot_len M) h9', (cnt_rot M).trans hcM, ?_⟩
            rw [hcar', hstep]
            exact Prod.ext rfl (by show _ + 1 + i = _ + (i + 1); omega)
          · refine ⟨_, rfl, g, dg', _, rfl, k1, rfl, g, H0, M, rfl, sm', hlog', hM0, h9', fun H2 s2 l2 => ?_⟩
            exact ⟨_, rfl, _, _, rfl, rfl, i + 1, rot M, rfl, rfl, s2, l2, rfl⟩
    rintro σ' H' ⟨n, rfl, sm', hlog', hn⟩
    have good : (¬ (c.isSome = true ∧ ((carry U.span asked.toNat L).2 : Int) < asked)) → Q (.int (n : Nat)) H' := fun h => by
      rw [if_neg h] at hcar
      rw [hn]
      exact q2 _ hcar H' sm' hlog'
    have bad : (c.isSome = true ∧ ((carry U.span asked.toNat L).2 : Int) < asked) → OutSE K H0 E := fun h => by
      rw [if_pos h] at hcar
      exact q1 hcar
    cases c with
    | none =>
      refine ⟨_, rfl, rfl, _, rfl, ?_⟩
      refine iteF (iteF ?_)
      exact ⟨_, rfl, good fun h => by cases h.1⟩
    | some i =>
      have hi : i = asked := hask0
      refine ⟨_, rfl, rfl, _, rfl, ?_⟩
      rw [decide_eq_false (show ¬ cV (some i) = V.non by intro h; cases h)]
      refine iteT ?_
      refine ⟨_, rfl, _, rfl, (n : Int), i, rfl, rfl, _, rfl, ?_⟩
      by_cases hni : (n : Int) < i
      · rw [decide_eq_true hni]
        refine iteT ?_
        exact ⟨_, rfl, out_bc (bad ⟨rfl, by omega⟩) sm'⟩
      · rw [decide_eq_false hni]
        refine iteF ?_
        exact ⟨_, rfl, good fun h => by have := h.2; omega⟩
end K12

set_option Elab.async false
set_option linter.all false
set_option maxRecDepth 100000
set_option maxHeartbeats 4000000
namespace K12
open PySem PySem.Spec PyProof.Rows L2
/-! ## the ring's deeds: complete, put, delete -/
theorem iteY {c A B : Prop} [Decidable c] (h : c) (a : A) : if c then A else B := by rw [if_pos h]; exact a
theorem iteN {c A B : Prop} [Decidable c] (h : ¬ c) (b : B) : if c then A else B := by rw [if_neg h]; exact b
theorem mid_eq (U : Tm) (L : Log) (k : Str) (v c : Option Int) (most : Int) : mid U L k v c (c.getD most) most = match carryIn U most (ahead U L k v) c with
  | none => none
  | some M => fin U k v M.1 := by
  unfold mid carryIn
  split
  · rfl
  · split <;> rfl
theorem OutSE.weak {K : PySem.W.Frag} {H H1 : Hp} {E : XK} (h : OutSE K H E) (sm : Same H H1) : OutSE K H1 E := fun x d H' hx s => h x d H' hx (Same.trans sm s)
def spComplete (K : PySem.W.Frag) : Sp := fun vs H Q E => ∃ (r : Addr) (k : Str) (v : V) (ov c : Option Int) (U : Tm) (L : Log) (t d : Nat), vs = [.ref r, .str k, v, .bl ov.isSome, cV c] ∧ RingAt K H r U L t d ∧ U.Ok ∧ t < U.cyc.length ∧ LogOk U L ∧ Small29 d ∧ (∀ z, ov = some z → v = .int z) ∧
  (dueC U t L k ov c = none → OutSE K H E) ∧ (∀ L', dueC U t L k ov c = some L' → ∀ H', Fr [r] H H' → RingAt K H' r U L' ((t + 1) % U.cyc.length) (d + 1) → Q .non H')
theorem scRingComplete : FnScope ["self", "key", "value", "is_living", "count", "draft", "old", "others", "wait"] ["self", "key", "value", "is_living", "count"] (defScope sRingComplete) := ⟨rfl, rfl, rfl, by decide +kernel, rfl, by decide +kernel, by decide +kernel⟩
theorem r_Ring_complete {w : World} {K : PySem.W.Frag} {mg : Str → Option Value} {base : Heap} (T : Tx K mg) : FnR pg w K mg base (L2.CX pg w) 5 (He.ma K (He.ga K "Ring") "_complete") (spComplete K) := by
  obtain ⟨fd, F⟩ := T.fsRingComplete
  refine mkR F scRingComplete (F.bindsN fun _ _ _ _ _ _ us hl => match us, hl with | [_, _, _, _, _], _ => rfl) (fun vs H Q E h => ?_) (fun cdv A outer s H vs Q E hr h => ?_)
  · obtain ⟨r, k, v, ov, c, U, L, t, d, rfl, hring, hU, ht, hL, hd, hv, q1, q2⟩ := h
    rfl
  · obtain ⟨r, k, v, ov, c, U, L, t, d, rfl, hring, hU, ht, hL, hd, hv, q1, q2⟩ := h
    have tk : Takes (cxOf (L2.CX pg w) pg w K mg base [("self" : Str), ("key" : Str), ("value" : Str), ("is_living" : Str), ("count" : Str), ("draft" : Str), ("old" : Str), ("others" : Str), ("wait" : Str)] "Ring._complete" (defScope sRingComplete) (He.fAd K ("Ring", some "_complete")) cdv A outer s H E) (fun cls d _ H1 => E cls d H1) := takes_of rfl rfl rfl rfl
    have hp : PassesOwn (model pg w) (cxOf (L2.CX pg w) pg w K mg base [("self" : Str), ("key" : Str), ("value" : Str), ("is_living" : Str), ("count" : Str), ("draft" : Str), ("old" : Str), ("others" : Str), ("wait" : Str)] "Ring._complete" (defScope sRingComplete) (He.fAd K ("Ring", some "_complete")) cdv A outer s H E).A (cxOf (L2.CX pg w) pg w K mg base [("self" : Str), ("key" : Str), ("value" : Str), ("is_living" : Str), ("count" : Str), ("draft" : Str), ("old" : Str), ("others" : Str), ("wait" : Str)] "Ring._complete" (defScope sRingComplete) (He.fAd K ("Ring", some "_complete")) cdv A outer s H E).env (cxOf (L2.CX pg w) pg w K mg base [("self" : Str), ("key" : Str), ("value" : Str), ("is_living" : Str), ("count" : Str), ("draft" : Str), ("old" : Str), ("others" : Str), ("wait" : Str)] "Ring._complete" (defScope sRingComplete) (He.fAd K ("Ring", some "_complete")) cdv A outer s H E).xe := passes_of rfl
    refine ⟨_, (pss_cons (ps_set (i := 5) scRingComplete.nd rfl (by first | exact .inl rfl | exact .inr rfl) (pe_M0 (pe_fld (pv 0) rfl) T.c_RingLog T.m_RingLog_copied (r_RingLog_copied T) (hr.mono (by decide)) tk))
      (Evl.pss_cut (ps_set (i := 6) scRingComplete.nd rfl (by first | exact .inl rfl | exact .inr rfl) (pe_M (pv 5) T.c_RingLog T.m_RingLog_find_living (r_RingLog_find_living T) (hr.mono (by decide)) tk (pa_cons (pv 1) pa_nil)))
      (Evl.pss_cut (ps_if (pt_val (pe_fld (pv 0) rfl)) (pss_one (ps_expr (pe_M (pv 0) T.c_Ring T.m_Ring_append_to (r_Ring_append_to T) (hr.mono (by decide)) tk (pa_cons (pv 5) (pa_cons (pv 1) (pa_cons (pv 2) (pa_cons (pv 3) pa_nil))))))) pss_nil)
      (Evl.pss_cut (ps_if (pt_cmpR op_notN (pv 6) pe_non (nomark _)) (pss_one (ps_expr (pe_M (pv 5) T.c_RingLog T.m_RingLog_release_at (r_RingLog_release_at T) (hr.mono (by decide)) tk (pa_cons (pv 6) pa_nil)))) pss_nil)
      (pss_cons (ps_set (i := 7) scRingComplete.nd rfl (by first | exact .inl rfl | exact .inr rfl) (pe_M0 (pv 5) T.c_RingLog T.m_RingLog_needed_count (r_RingLog_needed_count T) (hr.mono (by decide)) tk))
      (Evl.pss_cut (ps_if (PW.pt (pw_and (pt_val (pe_fld (pv 0) rfl)) (pw_and1 (pt_val (pv 3))))) (pss_one (ps_set (i := 7) scRingComplete.nd rfl (by first | exact .inl rfl | exact .inr rfl) (pe_op op_sub (pv 7) pe_int))) pss_nil)
      (pss_cons (ps_set (i := 8) scRingComplete.nd rfl (by first | exact .inl rfl | exact .inr rfl) (pe_M (pv 0) T.c_Ring T.m_Ring_carry_in (r_Ring_carry_in T) (hr.mono (by decide)) tk (pa_cons (pv 5) (pa_cons (pv 4) (pa_cons (pv 7) pa_nil)))))
      (Evl.pss_cut (ps_if (pt_not (pt_val (pe_fld (pv 0) rfl))) (pss_one (ps_expr (pe_M (pv 0) T.c_Ring T.m_Ring_append_to (r_Ring_append_to T) (hr.mono (by decide)) tk (pa_cons (pv 5) (pa_cons (pv 1) (pa_cons (pv 2) (pa_cons (pv 3) pa_nil))))))) pss_nil)
      (pss_cons (ps_fld (pv 0) (pv 5) rfl)
      (pss_cons (ps_fld (pv 0) (pe_op op_add (pe_fld (pv 0) rfl) pe_int) rfl)
      (pss_cons (ps_fld (pv 0) (pe_op op_mod (pe_op op_add (pe_fld (pv 0) rfl) pe_int) (pe_callB (call_lenOwn (spec_of T.ex.2.2.2.2.1.2.2.1).2 (spec_of T.ex.2.2.2.2.1.2.2.1).1 (r_Round_len T) (hr.mono (by decide)) passL) (by rfl) T.n_len PySem.boot_len (pa_cons (pe_fld (pv 0) rfl) pa_nil))) rfl)
      (pss_cons (ps_fld (pv 0) (pe_op op_add (pe_fld (pv 0) rfl) (pv 8)) rfl)
      (pss_one (ps_fld (pv 0) (pv 8) rfl)))))))))))))), ?_⟩
    obtain ⟨dx, b, g0, o, ca, lw, op, hr0, hb, hl0⟩ := id hring
    obtain ⟨_, dg0, e0, xs0, h1, hrest0⟩ := id hl0
    have hL64 : L.length ≤ 64 := Nat.le_trans hL.len hU.s64
    refine ⟨_, rfl, r, _, dx, _, _, rfl, hr0, T.c_Ring, T.na_Ring_log, rfl, g0, dg0, _, rfl, h1, rfl, g0, L, rfl, hl0, by omega, fun H1 g sm1 hlog1 => ?_⟩
    obtain ⟨ng, dg1, e1, xs1, k1, hrest1⟩ := id hlog1
    -- old
    refine ⟨fun σ' H' => ∃ old : V, σ' = [some (.ref r), some (.str k), some v, some (.bl ov.isSome), some (cV c), some (.ref g), some old, none, none] ∧ Same H H' ∧ LogAt K H H' g L ∧ ((∃ (i : Nat) (z : Int), old = .int i ∧ L[i]? = some (k, some z)) ∨ (old = .non ∧ k ∉ nms L)), ?_, ?_⟩
    · refine ⟨_, rfl, g, dg1, _, rfl, k1, rfl, _, rfl, g, k, L, rfl, hlog1.old, fun i z H2 hi sm2 => ?_, fun H2 hn sm2 => ?_⟩
      · exact ⟨_, rfl, Same.trans sm1 sm2, hlog1.same sm2, .inl ⟨i, z, rfl, hi⟩⟩
      · exact ⟨_, rfl, Same.trans sm1 sm2, hlog1.same sm2, .inr ⟨rfl, hn⟩⟩
    rintro σ' H2 ⟨old, rfl, sm2, hlog2, hold⟩
    -- the late order
    refine ⟨fun σ' H' => σ' = [some (.ref r), some (.str k), some v, some (.bl ov.isSome), some (cV c), some (.ref g), some old, none, none] ∧ Same H H' ∧ LogAt K H H' g (if U.rear = true then trim (L ++ [(k, ov)]) else L) ∧ ¬ (U.rear = true ∧ U.span ≤ L.length), ?_, ?_⟩
    · refine ⟨_, rfl, r, _, dx, _, _, rfl, sm2 _ _ hr0, T.c_Ring, T.na_Ring_late, rfl, _, rfl, ?_⟩
      refine ite2 (fun hr => ?_) (fun hr => ?_)
      · refine ⟨_, rfl, r, dx, _, rfl, sm2 _ _ hr0, rfl, _, rfl, _, rfl, _, rfl, _, rfl, r, g, k, v, ov, U, L, L, t, d, H, rfl, hring.same sm2, hd, sm2, hlog2, by omega, hv, fun hlt H' s l => ?_, fun hle => ?_⟩
        · refine ⟨rfl, s, ?_, fun h => by omega⟩
          rw [if_pos hr]
          exact l
        · refine q1 ?_
          unfold dueC
          rw [if_pos ⟨hr, hle⟩]
      · refine ⟨rfl, sm2, ?_, fun h => hr h.1⟩
        rw [if_neg hr]
        exact hlog2
    rintro σ' H3 ⟨rfl, sm3, hlog3, hns⟩
    -- the release
    refine ⟨fun σ' H' => σ' = [some (.ref r), some (.str k), some v, some (.bl ov.isSome), some (cV c), some (.ref g), some old, none, none] ∧ Same H H' ∧ LogAt K H H' g (ahead U L k ov), ?_, ?_⟩
    · rcases hold with ⟨i, z, rfl, hi⟩ | ⟨rfl, hn⟩
      · refine ⟨_, rfl, rfl, _, rfl, ?_⟩
        rw [decide_eq_false (show ¬ V.int (i : Int) = V.non by intro h; cases h)]
        refine iteT ?_
        have hne : L ≠ [] := fun z => by rw [z] at hi; cases hi
        obtain ⟨_, dg3, e3, xs3, k3, _⟩ := id hlog3
        have hi3 : (if U.rear = true then trim (L ++ [(k, ov)]) else L)[i]? = some (k, some z) := by
          split
          · rw [trim_app hL.hd hne, List.getElem?_append_left (get_lt hi)]
            exact hi
          · exact hi
        refine ⟨_, rfl, g, dg3, _, rfl, k3, rfl, _, rfl, g, H, _, i, k, some z, rfl, sm3, hlog3, hi3, fun H' s l => ⟨rfl, s, ?_⟩⟩
        have e : trim ((if U.rear = true then trim (L ++ [(k, ov)]) else L).set i (k, none)) = ahead U L k ov := by
          unfold ahead own
          split
          · rw [trim_app hL.hd hne, List.set_append_left _ _ (get_lt hi), kill_set hL.nd hi]
          · rw [kill_set hL.nd hi, List.append_nil]
        rw [← e]
        exact l
      · refine ⟨_, rfl, rfl, _, rfl, ?_⟩
        refine iteF ⟨rfl, sm3, ?_⟩
        have e : (if U.rear = true then trim (L ++ [(k, ov)]) else L) = ahead U L k ov := by
          unfold ahead own
          rw [kill_none hn]
          split
          · rfl
          · rw [List.append_nil, hL.hd]
        rw [← e]
        exact hlog3
    rintro σ' H4 ⟨rfl, sm4, hlog4⟩
    obtain ⟨_, dg4, e4, xs4, k4, _⟩ := id hlog4
    have hA : (ahead U L k ov).length ≤ 900 := by
      have := ahead_len U L k ov
      split at this <;> omega
    refine ⟨_, rfl, g, dg4, _, rfl, k4, rfl, g, _, rfl, hlog4.old, by omega, fun H5 sm5 => ?_⟩
    have sm5' : Same H H5 := Same.trans sm4 sm5
    -- the others
    refine ⟨fun σ' H' => σ' = [some (.ref r), some (.str k), some v, some (.bl ov.isSome), some (cV c), some (.ref g), some old, some (.int (others U L k ov)), none] ∧ H' = H5, ?_, ?_⟩
    · refine ⟨_, rfl, r, _, dx, _, _, rfl, sm5' _ _ hr0, T.c_Ring, T.na_Ring_late, rfl, _, rfl, ?_⟩
      by_cases hr : U.rear = true
      · refine iteY hr ?_
        refine ⟨_, rfl, _, rfl, ?_⟩
        by_cases hs : ov.isSome = true
        · refine iteY hs ?_
          refine ⟨_, rfl, _, _, rfl, rfl, ?_⟩
          refine ⟨?_, rfl⟩
          unfold others
          rw [if_pos ⟨hr, hs⟩]
          rfl
        · refine iteN hs ?_
          refine ⟨?_, rfl⟩
          unfold others
          rw [if_neg (fun h => hs h.2), Int.sub_zero]
          rfl
      · refine iteN hr ?_
        refine iteF ⟨?_, rfl⟩
        unfold others
        rw [if_neg (fun h => hr h.1), Int.sub_zero]
        rfl
    rintro σ' H6 ⟨rfl, rfl⟩
    have ol := others_le U L k ov
    have dc : dueC U t L k ov c = match carryIn U (mostC U t L k ov) (ahead U L k ov) c with
      | none => none
      | some M => fin U k ov M.1 := by
      unfold dueC
      rw [if_neg hns, mid_eq]
    refine ⟨_, rfl, r, dx, _, rfl, sm5' _ _ hr0, rfl, _, rfl, _, rfl, _, rfl, r, g, c, others U L k ov, U, L, ahead U L k ov, t, d, H, rfl, hring, hU, ht, sm5', hlog4.same sm5, hA, ol.2, ol.1, fun hnone => ?_, fun M hM H7 sm7 hlog7 => ?_⟩
    · refine q1 ?_
      rw [dc]
      have e : carryIn U (mostC U t L k ov) (ahead U L k ov) c = none := hnone
      rw [e]
    have eM : carryIn U (mostC U t L k ov) (ahead U L k ov) c = some M := hM
    rw [eM] at dc
    have dc' : dueC U t L k ov c = fin U k ov M.1 := dc
    have hM900 : M.1.length ≤ 900 := by
      have e : M = carry U.span (c.getD (mostC U t L k ov)).toNat (ahead U L k ov) := by
        unfold carryIn at eM
        split at eM
        · cases eM
        · split at eM
          · cases eM
          · exact (Option.some.inj eM).symm
      rw [e]
      exact Nat.le_trans (carry_len _ _ _) hA
    -- the early order
    refine ⟨fun σ' H' => ∃ L', σ' = [some (.ref r), some (.str k), some v, some (.bl ov.isSome), some (cV c), some (.ref g), some old, some (.int (others U L k ov)), some (.int (M.2 : Nat))] ∧ Same H H' ∧ LogAt K H H' g L' ∧ dueC U t L k ov c = some L', ?_, ?_⟩
    · refine ⟨_, rfl, r, _, dx, _, _, rfl, sm7 _ _ hr0, T.c_Ring, T.na_Ring_late, rfl, _, rfl, ?_⟩
      by_cases hr : U.rear = true
      · rw [hr]
        refine iteF ⟨M.1, rfl, sm7, hlog7, ?_⟩
        rw [dc']
        unfold fin
        rw [if_pos hr]
      · rw [eq_false_of_ne_true hr]
        refine iteT ?_
        refine ⟨_, rfl, r, dx, _, rfl, sm7 _ _ hr0, rfl, _, rfl, _, rfl, _, rfl, _, rfl, r, g, k, v, ov, U, L, M.1, t, d, H, rfl, hring.same sm7, hd, sm7, hlog7, hM900, hv, fun hlt H' s l => ?_, fun hle => ?_⟩
        · refine ⟨_, rfl, s, l, ?_⟩
          rw [dc']
          unfold fin
          rw [if_neg hr, if_neg (by omega)]
        · refine q1 ?_
          rw [dc']
          unfold fin
          rw [if_neg hr, if_pos hle]
    rintro σ' H8 ⟨L', rfl, sm8, hlog8, hdue⟩
    have hr8 := sm8 _ _ hr0
    refine ⟨_, rfl, _, rfl, r, _, dx, _, rfl, hr8, T.c_Ring, T.na_Ring_log, (by show 12 < 1000; decide), ?_⟩
    refine ⟨_, rfl, r, _, dx, _, _, rfl, upd_same, T.c_Ring, T.na_Ring_done, rfl, _, _, rfl, rfl, _, rfl, r, _, dx, _, rfl, upd_same, T.c_Ring, T.na_Ring_done, (by show 12 < 1000; decide), ?_⟩
    obtain ⟨dxb, tb, hb1, hb2⟩ := id hb
    have rb : b ≠ r := kind_ne hb1 hr0 (by intro z; injection z with _ _ z; cases z)
    have rt : tb ≠ r := kind_ne hb2 hr0 (by intro z; cases z)
    refine ⟨_, rfl, r, _, dx, _, _, rfl, upd_same, T.c_Ring, T.na_Ring_phase, rfl, _, _, rfl, rfl, ?_⟩
    refine ⟨_, rfl, r, _, dx, _, _, rfl, upd_same, T.c_Ring, T.na_Ring_budgets, rfl, b, dxb, _, rfl, (by rw [upd_ne rb, upd_ne rb]; exact sm8 _ _ hb1), b, U.cyc, rfl, ⟨dxb, tb, by rw [upd_ne rb, upd_ne rb]; exact sm8 _ _ hb1, by rw [upd_ne rt, upd_ne rt]; exact sm8 _ _ hb2⟩, _, rfl, Int.natCast_nonneg _, ?_, ?_⟩
    · have := hU.c12
      show ((U.cyc.length : Nat) : Int) < 2 ^ 63
      omega
    refine ⟨_, _, rfl, rfl, (by have := hU.c1; omega), _, rfl, r, _, dx, _, rfl, upd_same, T.c_Ring, T.na_Ring_phase, (by show 12 < 1000; decide), ?_⟩
    refine ⟨_, rfl, r, _, dx, _, _, rfl, upd_same, T.c_Ring, T.na_Ring_carried, rfl, _, rfl, _, _, rfl, rfl, _, rfl, r, _, dx, _, rfl, upd_same, T.c_Ring, T.na_Ring_carried, (by show 12 < 1000; decide), ?_⟩
    refine ⟨_, rfl, _, rfl, r, _, dx, _, rfl, upd_same, T.c_Ring, T.na_Ring_last_wait, (by show 12 < 1000; decide), ?_⟩
    have f8 : ∀ x1 x2 x3 x4 x5 : HO, Fr [r] H8 (upd (upd (upd (upd (upd H8 r x1) r x2) r x3) r x4) r x5) := fun _ _ _ _ _ =>
      Fr.trans (.put (by simp)) (Fr.trans (.put (by simp)) (Fr.trans (.put (by simp)) (Fr.trans (.put (by simp)) (.put (by simp)))))
    have kp : ∀ x1 x2 x3 x4 x5 : HO, Kept H8 (upd (upd (upd (upd (upd H8 r x1) r x2) r x3) r x4) r x5) := fun x1 x2 x3 x4 x5 => Fr.kept (S := [r]) (fun b' hb' => by
      obtain rfl : b' = r := by simpa using hb'
      exact .inr ⟨_, _, _, hr8, by show 2 ≤ 12; decide⟩) (f8 x1 x2 x3 x4 x5)
    refine q2 L' hdue _ (Fr.trans (.of_same sm8) (f8 _ _ _ _ _)) ⟨dx, b, g, o, _, _, op, upd_same, ?_, ?_⟩
    · exact RoundAt.kept (kp _ _ _ _ _) (hb.kept (.of_same sm8))
    · exact (hlog8.old).kept (kp _ _ _ _ _)
end K12

set_option Elab.async false
set_option linter.all false
set_option maxRecDepth 100000
set_option maxHeartbeats 4000000
namespace K12
open PySem PySem.Spec PyProof.Rows L2
/-! ## put, delete -/
theorem signs_small : (("abcdefghijklmnopqrstuvwxyz0123456789" : Str).cps.toList.all fun c => decide (c < 128)) = true := by decide +kernel
theorem GK.small {k : Str} (h : GK k) : ∀ c ∈ k.cps.toList, c < 16 ^ 8 := fun c hc =>
  Nat.lt_of_lt_of_le (of_decide_eq_true (List.all_eq_true.mp signs_small c (h.2.2 c hc))) (by decide)
theorem repr_gk {k : Str} (h : GK k) : (reprText k).length ≤ 300 := by
  have h1 := PySem.StrLaws.reprText_len k h.small
  have := h.2.1
  omega
theorem scRingPut : FnScope ["self", "key", "value", "count"] ["self", "key", "value", "count"] (defScope sRingPut) := ⟨rfl, rfl, rfl, by decide +kernel, rfl, by decide +kernel, by decide +kernel⟩
theorem scRingDelete : FnScope ["self", "key", "count"] ["self", "key", "count"] (defScope sRingDelete) := ⟨rfl, rfl, rfl, by decide +kernel, rfl, by decide +kernel, by decide +kernel⟩
def spDeed (K : PySem.W.Frag) (r : Addr) (k : Str) (ov c : Option Int) (H : Hp) (Q : VK) (E : XK) : Prop := ∃ (U : Tm) (L : Log) (t d : Nat), RingAt K H r U L t d ∧ U.Ok ∧ t < U.cyc.length ∧ LogOk U L ∧ GK k ∧ Small29 d ∧
  (due U t L k ov c = none → OutSE K H E) ∧ (∀ L', due U t L k ov c = some L' → ∀ H', Fr [r] H H' → RingAt K H' r U L' ((t + 1) % U.cyc.length) (d + 1) → Q .non H')
def spPut (K : PySem.W.Frag) : Sp := fun vs H Q E => ∃ (r : Addr) (k : Str) (z : Int) (c : Option Int), vs = [.ref r, .str k, .int z, cV c] ∧ spDeed K r k (some z) c H Q E
def spDel (K : PySem.W.Frag) : Sp := fun vs H Q E => ∃ (r : Addr) (k : Str) (c : Option Int), vs = [.ref r, .str k, cV c] ∧ spDeed K r k none c H Q E
theorem ok_Ring_put {w : World} {K : PySem.W.Frag} {mg : Str → Option Value} {base : Heap} (T : Tx K mg) : ∃ fd, FunD K "put" "Ring.put" (defArgs sRingPut) (defBody sRingPut) (defScope sRingPut) [.non] [] (He.ma K (He.ga K "Ring") "put") fd ∧
    FnOk pg w K mg base (L2.CX pg w) 6 (He.ma K (He.ga K "Ring") "put") fd ["self", "key", "value", "count"] (spPut K) := by
  obtain ⟨fd, F⟩ := T.fsRingPut
  obtain ⟨fdKL, bKL, FKL⟩ := okKL (w := w) (base := base) T
  refine ⟨fd, F, FunD.ok (k := 5) F scRingPut (fun vs H Q E h => ?_) (fun cdv A outer s H vs Q E hr h => ?_)⟩
  · obtain ⟨r, k, z, c, rfl, _⟩ := h
    rfl
  · obtain ⟨r, k, z, c, rfl, U, L, t, d, hring, hU, ht, hL, hk, hd, q1, q2⟩ := h
    have tk : Takes (cxOf (L2.CX pg w) pg w K mg base ["self", "key", "value", "count"] "Ring.put" (defScope sRingPut) (He.fAd K ("Ring", some "put")) cdv A outer s H E) (fun cls d _ H1 => E cls d H1) := takes_of rfl rfl rfl rfl
    obtain ⟨dx, b, g0, o, ca, lw, op, hr0, hb, hl0⟩ := id hring
    have hL64 : L.length ≤ 64 := Nat.le_trans hL.len hU.s64
    refine ⟨_, (pss_cons (ps_expr (pe_F (r_good_key T) (hr.mono (by decide)) T.g_good_key T.kGoodKey tk (pa_cons (pv 1) pa_nil)))
      (pss_cons (ps_if (PW.pt (pw_and (pt_cmpR (op_notInOwn (spec_of T.ex.2.2.2.2.1.2.1).2 (spec_of T.ex.2.2.2.2.1.2.1).1 (r_Ring_contains T) (hr.mono (by decide)) passL) (pv 1) (pv 0) (by rfl)) (pw_and1 (pt_cmpR op_ge (pe_callB (call_lenOwn (spec_of T.ex.2.2.2.2.1.1).2 (spec_of T.ex.2.2.2.2.1.1).1 (r_Ring_len T) (hr.mono (by decide)) passL) (by rfl) T.n_len PySem.boot_len (pa_cons (pv 0) pa_nil)) (pe_fld (pv 0) rfl) (nomark _))))) (pss_one (ps_raiseE T.eKL FKL bKL (hr.mono (by decide)) T.g_KeyLimit rfl tk (pe_fld (pv 0) rfl))) pss_nil)
      (pss_one (ps_expr (pe_M (pv 0) T.c_Ring T.m_Ring_complete (r_Ring_complete T) (hr.mono (by decide)) tk (pa_cons (pv 1) (pa_cons (pv 2) (pa_cons pe_bl (pa_cons (pv 3) pa_nil))))))))), ?_⟩
    refine ⟨_, rfl, k, rfl, hk, ?_⟩
    refine ⟨_, rfl, _, rfl, r, dx, _, rfl, hr0, r, k, U, L, t, d, rfl, hring, fun H1 sm1 => ⟨_, rfl, _, rfl, ?_⟩⟩
    have comp : ∀ H', Same H H' → ¬ (k ∉ nms L ∧ U.cap ≤ (nms L).length) → spComplete K [.ref r, .str k, .int z, .bl true, cV c] H' (fun _ H1 => Q .non H1) E := fun H' sm h => by
      have e : due U t L k (some z) c = dueC U t L k (some z) c := by
        rw [due_eq, if_neg (fun h => by cases h.1), if_neg h]
      refine ⟨r, k, .int z, some z, c, U, L, t, d, rfl, hring.same sm, hU, ht, hL, hd, fun z' h => by cases h; rfl, fun h => ?_, fun L' h H2 f2 r2 => ?_⟩
      · exact (q1 (by rw [e]; exact h)).weak sm
      · exact q2 L' (by rw [e]; exact h) H2 (Fr.trans (.of_same sm) f2) r2
    have go : ∀ H', Same H H' → ¬ (k ∉ nms L ∧ U.cap ≤ (nms L).length) → tDrop (tM (He.ga K "Ring") "_complete" (spComplete K) (fun cls d _ H1 => E cls d H1) (tVar 0) (tCons (tVar 1) (tCons (tVar 2) (tCons (tC (.bl true)) (tCons (tVar 3) tNil)))))
        { nx := fun _ H' => Q .non H', rt := Q } (start ["self", "key", "value", "count"] [.ref r, .str k, .int z, cV c]) H' := fun H' sm h => by
      have z1 := comp H' sm h
      exact ⟨_, rfl, r, dx, _, rfl, sm _ _ hr0, rfl, _, rfl, _, rfl, _, rfl, z1⟩
    by_cases hin : k ∈ nms L
    · rw [decide_eq_true hin]
      refine iteF (iteF ?_)
      exact go H1 sm1 fun h => h.1 hin
    · rw [decide_eq_false hin]
      refine iteT ?_
      refine ⟨_, rfl, r, dx, _, rfl, sm1 _ _ hr0, r, U, L, t, d, rfl, hring.same sm1, by omega, fun H2 sm2 => ?_⟩
      have sm2' := Same.trans sm1 sm2
      refine ⟨_, rfl, Int.natCast_nonneg _, ?_, _, rfl, r, _, dx, _, _, rfl, sm2' _ _ hr0, T.c_Ring, T.na_Ring_limit, rfl, _, _, rfl, rfl, _, rfl, ?_⟩
      · have h1 : cnt L ≤ L.length := List.length_filter_le _ _
        show ((cnt L : Nat) : Int) < 2 ^ 63
        omega
      have e := nms_len L
      by_cases hc : U.cap ≤ cnt L
      · rw [decide_eq_true (show ((U.cap : Nat) : Int) ≤ ((cnt L : Nat) : Int) by omega)]
        refine iteT ?_
        refine ⟨_, rfl, r, _, dx, _, _, rfl, sm2' _ _ hr0, T.c_Ring, T.na_Ring_limit, rfl, out_kl (q1 ?_) sm2' (by have := hU.cs; have := hU.s64; omega)⟩
        rw [due_eq, if_neg (fun h => by cases h.1), if_pos ⟨hin, by omega⟩]
      · rw [decide_eq_false (show ¬ ((U.cap : Nat) : Int) ≤ ((cnt L : Nat) : Int) by omega)]
        refine iteF ?_
        exact go H2 sm2' fun h => hc (by omega)
theorem ok_Ring_del {w : World} {K : PySem.W.Frag} {mg : Str → Option Value} {base : Heap} (T : Tx K mg) : ∃ fd, FunD K "delete" "Ring.delete" (defArgs sRingDelete) (defBody sRingDelete) (defScope sRingDelete) [.non] [] (He.ma K (He.ga K "Ring") "delete") fd ∧
    FnOk pg w K mg base (L2.CX pg w) 6 (He.ma K (He.ga K "Ring") "delete") fd ["self", "key", "count"] (spDel K) := by
  obtain ⟨fd, F⟩ := T.fsRingDelete
  obtain ⟨fdUK, bUK, FUK⟩ := okUK (w := w) (base := base) T
  refine ⟨fd, F, FunD.ok (k := 5) F scRingDelete (fun vs H Q E h => ?_) (fun cdv A outer s H vs Q E hr h => ?_)⟩
  · obtain ⟨r, k, c, rfl, _⟩ := h
    rfl
  · obtain ⟨r, k, c, rfl, U, L, t, d, hring, hU, ht, hL, hk, hd, q1, q2⟩ := h
    have tk : Takes (cxOf (L2.CX pg w) pg w K mg base ["self", "key", "count"] "Ring.delete" (defScope sRingDelete) (He.fAd K ("Ring", some "delete")) cdv A outer s H E) (fun cls d _ H1 => E cls d H1) := takes_of rfl rfl rfl rfl
    obtain ⟨dx, b, g0, o, ca, lw, op, hr0, hb, hl0⟩ := id hring
    refine ⟨_, (pss_cons (ps_if (pt_cmpR (op_notInOwn (spec_of T.ex.2.2.2.2.1.2.1).2 (spec_of T.ex.2.2.2.2.1.2.1).1 (r_Ring_contains T) (hr.mono (by decide)) passL) (pv 1) (pv 0) (by rfl)) (pss_one (ps_raiseE T.eUK FUK bUK (hr.mono (by decide)) T.g_UnknownKey rfl tk (pv 1))) pss_nil)
      (pss_one (ps_expr (pe_M (pv 0) T.c_Ring T.m_Ring_complete (r_Ring_complete T) (hr.mono (by decide)) tk (pa_cons (pv 1) (pa_cons pe_int (pa_cons pe_bl (pa_cons (pv 2) pa_nil)))))))), ?_⟩
    refine ⟨_, rfl, _, rfl, r, dx, _, rfl, hr0, r, k, U, L, t, d, rfl, hring, fun H1 sm1 => ⟨_, rfl, _, rfl, ?_⟩⟩
    by_cases hin : k ∈ nms L
    · rw [decide_eq_true hin]
      refine iteF ?_
      have e : due U t L k none c = dueC U t L k none c := by
        rw [due_eq, if_neg (fun h => h.2 hin), if_neg (fun h => h.1 hin)]
      refine ⟨_, rfl, r, dx, _, rfl, sm1 _ _ hr0, rfl, _, rfl, _, rfl, r, k, .int 0, none, c, U, L, t, d, rfl, hring.same sm1, hU, ht, hL, hd, (fun z' h => by cases h), fun h => ?_, fun L' h H2 f2 r2 => ?_⟩
      · exact (q1 (by rw [e]; exact h)).weak sm1
      · exact q2 L' (by rw [e]; exact h) H2 (Fr.trans (.of_same sm1) f2) r2
    · rw [decide_eq_false hin]
      refine iteT ?_
      refine ⟨_, rfl, out_uk2 (q1 ?_) sm1 (repr_gk hk)⟩
      rw [due_eq, if_pos ⟨rfl, hin⟩]
theorem r_Ring_put {w : World} {K : PySem.W.Frag} {mg : Str → Option Value} {base : Heap} (T : Tx K mg) : FnR pg w K mg base (L2.CX pg w) 6 (He.ma K (He.ga K "Ring") "put") (spPut K) := by
  obtain ⟨fd, F, ok⟩ := ok_Ring_put (w := w) (base := base) T
  obtain ⟨ds, r, b⟩ := F.binds1 (ps := ["self", "key", "value", "count"]) 4 1 (by simp) rfl fun D kV doc pm an cdv ct us its h1 h2 => match us, its, h1, h2 with
    | [_, _, _, _], [_], _, _ => ⟨_, rfl, rfl⟩
  exact (ok.raw b r).imp fun vs H Q E h => by simpa using h
theorem r_Ring_put0 {w : World} {K : PySem.W.Frag} {mg : Str → Option Value} {base : Heap} (T : Tx K mg) : FnR pg w K mg base (L2.CX pg w) 6 (He.ma K (He.ga K "Ring") "put") (fun vs H Q E => spPut K (vs ++ [.non]) H Q E) := by
  obtain ⟨fd, F, ok⟩ := ok_Ring_put (w := w) (base := base) T
  obtain ⟨ds, r, b⟩ := F.binds1 (ps := ["self", "key", "value", "count"]) 3 0 (by simp) rfl fun D kV doc pm an cdv ct us its h1 h2 => match us, its, h1, h2 with
    | [_, _, _], [_], _, _ => ⟨_, rfl, rfl⟩
  exact ok.raw b r
theorem r_Ring_delete {w : World} {K : PySem.W.Frag} {mg : Str → Option Value} {base : Heap} (T : Tx K mg) : FnR pg w K mg base (L2.CX pg w) 6 (He.ma K (He.ga K "Ring") "delete") (spDel K) := by
  obtain ⟨fd, F, ok⟩ := ok_Ring_del (w := w) (base := base) T
  obtain ⟨ds, r, b⟩ := F.binds1 (ps := ["self", "key", "count"]) 3 1 (by simp) rfl fun D kV doc pm an cdv ct us its h1 h2 => match us, its, h1, h2 with
    | [_, _, _], [_], _, _ => ⟨_, rfl, rfl⟩
  exact (ok.raw b r).imp fun vs H Q E h => by simpa using h
theorem r_Ring_delete0 {w : World} {K : PySem.W.Frag} {mg : Str → Option Value} {base : Heap} (T : Tx K mg) : FnR pg w K mg base (L2.CX pg w) 6 (He.ma K (He.ga K "Ring") "delete") (fun vs H Q E => spDel K (vs ++ [.non]) H Q E) := by
  obtain ⟨fd, F, ok⟩ := ok_Ring_del (w := w) (base := base) T
  obtain ⟨ds, r, b⟩ := F.binds1 (ps := ["self", "key", "count"]) 2 0 (by simp) rfl fun D kV doc pm an cdv ct us its h1 h2 => match us, its, h1, h2 with
    | [_, _], [_], _, _ => ⟨_, rfl, rfl⟩
  exact ok.raw b r
end K12

set_option Elab.async false
set_option linter.all false
set_option maxRecDepth 100000
set_option maxHeartbeats 4000000
namespace K12
open PySem PySem.Spec PyProof.Rows L2
/-! ## the law's purse -/
def PurseAt (H : Hp) (p : Addr) : Prop := ∃ l m z : Int, H p = some (.lst [.int l, .int m, .int z])
theorem PurseAt.same {H H' : Hp} {p : Addr} (h : Same H H') (a : PurseAt H p) : PurseAt H' p := by
  obtain ⟨l, m, z, e⟩ := a
  exact ⟨l, m, z, h _ _ e⟩
def spLCell (K : PySem.W.Frag) : Sp := fun vs H Q _ => ∃ (s : Addr) (ns : List Int) (k : Nat), vs = [.ref s, .int k] ∧ SqL K H s (ns.map V.int) ∧ ∀ v H', Same H H' → Q (.int v) H'
theorem scLawCell : FnScope ["_law_script", "_law_k"] ["_law_script", "_law_k"] (defScope sLawCell) := ⟨rfl, rfl, rfl, by decide +kernel, rfl, by decide +kernel, by decide +kernel⟩
theorem Tx.kLawCell {K : PySem.W.Frag} {mg : Str → Option Value} (T : Tx K mg) : PySem.W.keepIn K (.ref (He.ga K "_law_cell")) = true := let ⟨_, F⟩ := T.fsLawCell; F.kp
theorem r_law_cell {w : World} {K : PySem.W.Frag} {mg : Str → Option Value} {base : Heap} (T : Tx K mg) : FnR pg w K mg base (L2.CX pg w) 1 (He.ga K "_law_cell") (spLCell K) := by
  obtain ⟨fd, F⟩ := T.fsLawCell
  refine mkR F scLawCell (F.bindsN fun _ _ _ _ _ _ us hl => match us, hl with | [_, _], _ => rfl) (fun vs H Q E h => ?_) (fun cdv A outer s H vs Q E hr h => ?_)
  · obtain ⟨sc, ns, k, rfl, hs, q⟩ := h
    rfl
  · obtain ⟨sc, ns, k, rfl, hs, q⟩ := h
    refine ⟨_, PSs.nox (pss_cons (ps_if (pt_cmpR op_lt (pv 1) (pe_callB call_len_seq (by rfl) T.n_len PySem.boot_len (pa_cons (pv 0) pa_nil)) (nomark _)) (pss_one (ps_ret (pe_ix ix_list (pv 0) (pv 1) (fun _ _ => rfl)))) pss_nil)
      (pss_one (ps_ret (pe_op op_add (pe_op op_mod (pe_callTy call_int1 (by rfl) T.n_int (by decide +kernel) (pa_cons (pe_op op_add (pe_op op_add (pe_callB (cr_sum rfl) (by rfl) T.n_sum (by decide +kernel) (pa_cons (pe_slice sl_list (pv 0) po_none (po_some pe_int)) pa_nil)) (pe_op op_mul pe_int (pv 1))) pe_int) pa_nil)) pe_int) (pe_op op_mul pe_int (pv 1)))))), ?_⟩
    refine ⟨_, rfl, _, rfl, sc, _, rfl, .inl hs, _, _, rfl, rfl, _, rfl, ?_⟩
    rw [List.length_map]
    by_cases hk : k < ns.length
    · rw [decide_eq_true (show ((k : Nat) : Int) < ((ns.length : Nat) : Int) by omega)]
      refine iteT ?_
      obtain ⟨x, hx⟩ := get_of hk
      exact ⟨_, rfl, _, rfl, sc, _, _, .int x, rfl, rfl, hs, atI_nat (by rw [List.getElem?_map, hx]; rfl), q _ _ (.refl _)⟩
    · rw [decide_eq_false (show ¬ ((k : Nat) : Int) < ((ns.length : Nat) : Int) by omega)]
      refine iteF ?_
      refine ⟨_, rfl, 1, rfl, sc, _, rfl, hs, fun c nc => ⟨c, ns.take 1, rfl, SqL.of (by rw [upd_same, show (1 : Int) = ((1 : Nat) : Int) from rfl, cut_to, List.map_take]), ?_⟩⟩
      refine ⟨_, rfl, 7919, _, rfl, rfl, .inl (by decide), _, _, rfl, rfl, _, 280, rfl, rfl, .inl ⟨_, rfl, _, 1000003, rfl, rfl, (by show (0 : Int) < 1000003; decide), _, rfl, 1000003, _, rfl, rfl, .inl (by decide), _, _, rfl, rfl, q _ _ (same_upd nc)⟩⟩
def spLPurse (K : PySem.W.Frag) : Sp := fun vs H Q _ => ∃ (c s : Int), vs = [.int c, .int s] ∧ ∀ p H', Same H H' → H p = none → PurseAt H' p → Q (.ref p) H'
theorem scLawPurse : FnScope ["_law_cell_here", "_law_salt", "_law_left"] ["_law_cell_here", "_law_salt"] (defScope sLawPurse) := ⟨rfl, rfl, rfl, by decide +kernel, rfl, by decide +kernel, by decide +kernel⟩
theorem Tx.kLawPurse {K : PySem.W.Frag} {mg : Str → Option Value} (T : Tx K mg) : PySem.W.keepIn K (.ref (He.ga K "_law_purse")) = true := let ⟨_, F⟩ := T.fsLawPurse; F.kp
theorem r_law_purse {w : World} {K : PySem.W.Frag} {mg : Str → Option Value} {base : Heap} (T : Tx K mg) : FnR pg w K mg base (L2.CX pg w) 1 (He.ga K "_law_purse") (spLPurse K) := by
  obtain ⟨fd, F⟩ := T.fsLawPurse
  refine mkR F scLawPurse (F.bindsN fun _ _ _ _ _ _ us hl => match us, hl with | [_, _], _ => rfl) (fun vs H Q E h => ?_) (fun cdv A outer s H vs Q E hr h => ?_)
  · obtain ⟨c, sl, rfl, q⟩ := h
    rfl
  · obtain ⟨c, sl, rfl, q⟩ := h
    refine ⟨_, PSs.nox (pss_cons (ps_set (i := 2) scLawPurse.nd rfl (by first | exact .inl rfl | exact .inr rfl) pe_int)
      (Evl.pss_cut (ps_if (pt_cmpR op_ge (pe_callB call_abs (by rfl) T.n_abs (by decide +kernel) (pa_cons (pv 0) pa_nil)) (pe_op op_pow pe_int pe_int) (nomark _)) (pss_one (ps_set (i := 2) scLawPurse.nd rfl (by first | exact .inl rfl | exact .inr rfl) (pe_callB call_abs (by rfl) T.n_abs (by decide +kernel) (pa_cons (pv 0) pa_nil)))) pss_nil)
      (pss_one (ps_ret (pe_lst (pa_cons (pv 2) (pa_cons (pe_op op_mod (pe_callTy call_int1 (by rfl) T.n_int (by decide +kernel) (pa_cons (pe_op op_add (pe_op op_add (pe_op op_mul (pv 0) pe_int) (pe_op op_mul (pv 1) pe_int)) pe_int) pa_nil)) pe_int) (pa_cons (pv 1) pa_nil)))))))), ?_⟩
    refine ⟨fun σ' H' => H' = H ∧ ∃ l : Int, σ' = [some (.int c), some (.int sl), some (.int l)], ?_, ?_⟩
    · refine ⟨_, rfl, c, rfl, 10, 18, rfl, rfl, ⟨by decide, by decide, by decide⟩, _, _, rfl, rfl, _, rfl, ?_⟩
      refine ite2 (fun _ => ?_) (fun _ => ⟨rfl, _, rfl⟩)
      exact ⟨_, rfl, c, rfl, rfl, _, rfl⟩
    rintro σ' H' ⟨rfl, l, rfl⟩
    refine ⟨_, rfl, _, rfl, c, 69621, rfl, rfl, .inr (by decide), _, rfl, sl, 48271, rfl, rfl, .inr (by decide), _, _, rfl, rfl, _, 17, rfl, rfl, .inl ⟨_, rfl, _, 2147483647, rfl, rfl, (by show (0 : Int) < 2147483647; decide), _, rfl, (by show 3 ≤ sizeLine; decide), fun p np => ?_⟩⟩
    exact q p _ (same_upd np) np ⟨_, _, _, upd_same⟩
def spMixed (K : PySem.W.Frag) : Sp := fun vs H Q _ => ∃ (p : Addr), vs = [.ref p] ∧ PurseAt H p ∧ ∀ (d : Int) H', 0 ≤ d → PurseAt H' p → Fr [p] H H' → Q (.int d) H'
theorem scLawMixed : FnScope ["_law_purse_here", "_law_low"] ["_law_purse_here"] (defScope sLawMixed) := ⟨rfl, rfl, rfl, by decide +kernel, rfl, by decide +kernel, by decide +kernel⟩
theorem Tx.kLawMixed {K : PySem.W.Frag} {mg : Str → Option Value} (T : Tx K mg) : PySem.W.keepIn K (.ref (He.ga K "_law_mixed")) = true := let ⟨_, F⟩ := T.fsLawMixed; F.kp
theorem r_law_mixed {w : World} {K : PySem.W.Frag} {mg : Str → Option Value} {base : Heap} (T : Tx K mg) : FnR pg w K mg base (L2.CX pg w) 1 (He.ga K "_law_mixed") (spMixed K) := by
  obtain ⟨fd, F⟩ := T.fsLawMixed
  refine mkR F scLawMixed (F.bindsN fun _ _ _ _ _ _ us hl => match us, hl with | [_], _ => rfl) (fun vs H Q E h => ?_) (fun cdv A outer s H vs Q E hr h => ?_)
  · obtain ⟨p, rfl, ⟨l, m, z, hp⟩, q⟩ := h
    rfl
  · obtain ⟨p, rfl, ⟨l, m, z, hp⟩, q⟩ := h
    refine ⟨_, PSs.nox (pss_cons (ps_asg (pe_op op_add (pe_ix ix_list (pv 0) pe_int (fun _ _ => rfl)) pe_int) (pg_sub (pv 0) pe_int set_list))
      (pss_cons (ps_set (i := 1) scLawMixed.nd rfl (by first | exact .inl rfl | exact .inr rfl) (pe_op op_mod (pe_callTy call_int1 (by rfl) T.n_int (by decide +kernel) (pa_cons (pe_op op_add (pe_op op_add (pe_op op_mul (pe_ix ix_list (pv 0) pe_int (fun _ _ => rfl)) pe_int) (pe_op op_mul (pe_ix ix_list (pv 0) pe_int (fun _ _ => rfl)) pe_int)) pe_int) pa_nil)) pe_int))
      (pss_cons (ps_asg (pe_op op_mod (pe_callTy call_int1 (by rfl) T.n_int (by decide +kernel) (pa_cons (pe_op op_add (pe_op op_add (pe_op op_fdiv (pe_op op_mul (pv 1) (pv 1)) pe_int) (pe_op op_mul (pv 1) pe_int)) (pe_op op_mul (pe_ix ix_list (pv 0) pe_int (fun _ _ => rfl)) pe_int)) pa_nil)) pe_int) (pg_sub (pv 0) pe_int set_list))
      (pss_one (ps_ret (pe_op op_fdiv (pe_ix ix_list (pv 0) pe_int (fun _ _ => rfl)) pe_int)))))), ?_⟩
    refine ⟨_, rfl, p, _, 2, _, rfl, rfl, SqL.of hp, rfl, z, 1, rfl, rfl, _, rfl, p, _, 2, 2, rfl, rfl, hp, rfl, ?_⟩
    refine ⟨_, rfl, p, _, 1, _, rfl, rfl, SqL.of upd_same, rfl, m, 48271, rfl, rfl, .inr (by decide), _, rfl, p, _, 2, _, rfl, rfl, SqL.of upd_same, rfl, _, 40692, rfl, rfl, .inr (by decide), _, _, rfl, rfl, _, 101, rfl, rfl, .inl ⟨_, rfl, _, 2147483647, rfl, rfl, (by show (0 : Int) < 2147483647; decide), ?_⟩⟩
    have l0 : 0 ≤ (m * 48271 + (z + 1) * 40692 + 101) % 2147483647 ∧ (m * 48271 + (z + 1) * 40692 + 101) % 2147483647 < 2147483647 := ⟨Int.emod_nonneg _ (by decide), Int.emod_lt_of_pos _ (by decide)⟩
    refine ⟨_, rfl, _, rfl, (m * 48271 + (z + 1) * 40692 + 101) % 2147483647, (m * 48271 + (z + 1) * 40692 + 101) % 2147483647, rfl, rfl, .inl ⟨by omega, by omega⟩, _, 64, rfl, rfl, ⟨by decide, by decide⟩, _, rfl, _, 69621, rfl, rfl, .inr (by decide), _, _, rfl, rfl, _, rfl, p, _, 2, _, rfl, rfl, SqL.of upd_same, rfl, _, 7919, rfl, rfl, .inr (by decide), _, _, rfl, rfl, .inl ⟨_, rfl, _, 2147483399, rfl, rfl, (by show (0 : Int) < 2147483399; decide), _, rfl, p, _, 1, 1, rfl, rfl, upd_same, rfl, ?_⟩⟩
    refine ⟨_, rfl, p, _, 1, _, rfl, rfl, SqL.of upd_same, rfl, _, 16, rfl, rfl, ⟨by decide, by decide⟩, q _ _ (Int.ediv_nonneg (Int.emod_nonneg _ (by decide)) (by decide)) ⟨_, _, _, upd_same⟩ (Fr.trans (.put (by simp)) (.put (by simp)))⟩
def Pos200 (n : Int) : Prop := 0 < n ∧ n < 2 ^ 200
def spTake (K : PySem.W.Frag) : Sp := fun vs H Q _ => ∃ (p : Addr) (n : Int), vs = [.ref p, .int n] ∧ PurseAt H p ∧ Pos200 n ∧ ∀ (d : Int) H', 0 ≤ d → d < n → PurseAt H' p → Fr [p] H H' → Q (.int d) H'
theorem scLawTake : FnScope ["_law_purse_here", "_law_many", "_law_drawn", "_law_k"] ["_law_purse_here", "_law_many"] (defScope sLawTake) := ⟨rfl, rfl, rfl, by decide +kernel, rfl, by decide +kernel, by decide +kernel⟩
theorem Tx.kLawTake {K : PySem.W.Frag} {mg : Str → Option Value} (T : Tx K mg) : PySem.W.keepIn K (.ref (He.ga K "_law_take")) = true := let ⟨_, F⟩ := T.fsLawTake; F.kp
theorem r_law_take {w : World} {K : PySem.W.Frag} {mg : Str → Option Value} {base : Heap} (T : Tx K mg) : FnR pg w K mg base (L2.CX pg w) 2 (He.ga K "_law_take") (spTake K) := by
  obtain ⟨fd, F⟩ := T.fsLawTake
  refine mkR F scLawTake (F.bindsN fun _ _ _ _ _ _ us hl => match us, hl with | [_, _], _ => rfl) (fun vs H Q E h => ?_) (fun cdv A outer s H vs Q E hr h => ?_)
  · obtain ⟨p, n, rfl, ⟨l, m, z, hp⟩, ⟨n0, n200⟩, q⟩ := h
    rfl
  · obtain ⟨p, n, rfl, ⟨l, m, z, hp⟩, ⟨n0, n200⟩, q⟩ := h
    refine ⟨_, PSs.nox (Evl.pss_cut (ps_if (pt_cmpR op_gt (pe_ix ix_list (pv 0) pe_int (fun _ _ => rfl)) pe_int (nomark _)) (pss_cons (ps_set (i := 2) scLawTake.nd rfl (by first | exact .inl rfl | exact .inr rfl) (pe_op op_mod (pe_callTy call_int1 (by rfl) T.n_int (by decide +kernel) (pa_cons (pe_ix ix_list (pv 0) pe_int (fun _ _ => rfl)) pa_nil)) (pv 1)))
      (pss_cons (ps_asg (pe_op op_fdivW (pe_ix ix_list (pv 0) pe_int (fun _ _ => rfl)) (pv 1)) (pg_sub (pv 0) pe_int set_list))
      (pss_one (ps_ret (pv 2))))) pss_nil)
      (pss_cons (ps_set (i := 2) scLawTake.nd rfl (by first | exact .inl rfl | exact .inr rfl) (pe_F (r_law_mixed T) (hr.mono (by decide)) T.g_law_mixed T.kLawMixed takes0 (pa_cons (pv 0) pa_nil)))
      (Evl.pss_cut (ps_if (pt_cmpR op_gt (pv 1) pe_int (nomark _)) (pss_one (ps_for PassesOwn.never rfl (pi_range1 (by rfl) T.n_range (pa_cons pe_int pa_nil)) (pg_name (i := 3) scLawTake.nd rfl (by first | exact .inl rfl | exact .inr rfl)) (pss_one (ps_set (i := 2) scLawTake.nd rfl (by first | exact .inl rfl | exact .inr rfl) (pe_op op_add (pe_op op_mul (pv 2) pe_int) (pe_F (r_law_mixed T) (hr.mono (by decide)) T.g_law_mixed T.kLawMixed takes0 (pa_cons (pv 0) pa_nil))))))) pss_nil)
      (pss_one (ps_ret (pe_op op_mod (pe_callTy call_int1 (by rfl) T.n_int (by decide +kernel) (pa_cons (pv 2) pa_nil)) (pv 1))))))), ?_⟩
    refine ⟨fun σ' H' => σ' = [some (.ref p), some (.int n), none, none] ∧ H' = H, ?_, ?_⟩
    · refine ⟨_, rfl, p, _, 0, _, rfl, rfl, SqL.of hp, rfl, l, 0, rfl, rfl, _, rfl, ?_⟩
      refine ite2 (fun _ => ?_) (fun _ => ⟨rfl, rfl⟩)
      refine ⟨_, rfl, p, _, 0, _, rfl, rfl, SqL.of hp, rfl, .inl ⟨_, rfl, _, rfl, l, n, rfl, rfl, n0, ?_⟩⟩
      have hb : n.natAbs < 2 ^ 200 := by omega
      refine ⟨_, rfl, p, _, 0, _, rfl, rfl, SqL.of hp, rfl, _, rfl, l, n, rfl, rfl, wide_div n0 hb (by decide) (by decide), _, rfl, p, _, 0, 0, rfl, rfl, hp, rfl, _, rfl, ?_⟩
      exact q _ _ (Int.emod_nonneg _ (by omega)) (Int.emod_lt_of_pos _ n0) ⟨_, _, _, upd_same⟩ (.put (by simp))
    rintro σ' H' ⟨rfl, rfl⟩
    refine ⟨_, rfl, p, rfl, ⟨l, m, z, hp⟩, fun d H1 d0 a1 f1 => ?_⟩
    refine ⟨fun σ' H2 => (∃ (x : Int) (y : Option V), σ' = [some (.ref p), some (.int n), some (.int x), y]) ∧ PurseAt H2 p ∧ Fr [p] H' H2, ?_, ?_⟩
    · refine ⟨_, rfl, _, 100000, rfl, rfl, _, rfl, ?_⟩
      refine ite2 (fun _ => ?_) (fun _ => ⟨⟨_, _, rfl⟩, a1, f1⟩)
      refine ⟨4, rfl, by decide, by decide, for_range (n := 4) (fun i σ' H2 => (∃ (x : Int) (y : Option V), σ' = [some (.ref p), some (.int n), some (.int x), y]) ∧ PurseAt H2 p ∧ Fr [p] H' H2) ⟨⟨_, _, rfl⟩, a1, f1⟩ (fun i σ' H2 _ h => ?_) (fun σ' H2 h => h)⟩
      obtain ⟨⟨x, y, rfl⟩, a2, f2⟩ := h
      refine ⟨_, rfl, x, 134217689, rfl, rfl, .inr (by decide), _, rfl, p, rfl, a2, fun d3 H3 _ a3 f3 => ⟨_, _, rfl, rfl, ⟨_, _, rfl⟩, a3, Fr.trans f2 f3⟩⟩
    rintro σ' H2 ⟨⟨x, y, rfl⟩, a2, f2⟩
    exact ⟨_, rfl, .inl ⟨_, rfl, _, rfl, x, n, rfl, rfl, n0, q _ _ (Int.emod_nonneg _ (by omega)) (Int.emod_lt_of_pos _ n0) a2 f2⟩⟩
def spWorth (K : PySem.W.Frag) : Sp := fun vs H Q _ => ∃ (p : Addr), vs = [.ref p] ∧ PurseAt H p ∧ ∀ (z : Int) H', SmallI z → PurseAt H' p → Fr [p] H H' → Q (.int z) H'
theorem scLawWorth : FnScope ["_law_purse_here", "_law_way"] ["_law_purse_here"] (defScope sLawWorth) := ⟨rfl, rfl, rfl, by decide +kernel, rfl, by decide +kernel, by decide +kernel⟩
theorem Tx.kLawWorth {K : PySem.W.Frag} {mg : Str → Option Value} (T : Tx K mg) : PySem.W.keepIn K (.ref (He.ga K "_law_worth")) = true := let ⟨_, F⟩ := T.fsLawWorth; F.kp
theorem r_law_worth {w : World} {K : PySem.W.Frag} {mg : Str → Option Value} {base : Heap} (T : Tx K mg) : FnR pg w K mg base (L2.CX pg w) 3 (He.ga K "_law_worth") (spWorth K) := by
  obtain ⟨fd, F⟩ := T.fsLawWorth
  refine mkR F scLawWorth (F.bindsN fun _ _ _ _ _ _ us hl => match us, hl with | [_], _ => rfl) (fun vs H Q E h => ?_) (fun cdv A outer s H vs Q E hr h => ?_)
  · obtain ⟨p, rfl, hp, q⟩ := h
    rfl
  · obtain ⟨p, rfl, hp, q⟩ := h
    refine ⟨_, PSs.nox (pss_cons (ps_set (i := 1) scLawWorth.nd rfl (by first | exact .inl rfl | exact .inr rfl) (pe_F (r_law_take T) (hr.mono (by decide)) T.g_law_take T.kLawTake takes0 (pa_cons (pv 0) (pa_cons pe_int pa_nil))))
      (pss_cons (ps_if (pt_cmpR op_eq (pv 1) pe_int (nomark _)) (pss_one (ps_ret (pe_F (r_law_take T) (hr.mono (by decide)) T.g_law_take T.kLawTake takes0 (pa_cons (pv 0) (pa_cons pe_int pa_nil))))) pss_nil)
      (pss_cons (ps_if (pt_cmpR op_eq (pv 1) pe_int (nomark _)) (pss_one (ps_ret (pe_op op_sub (pe_un un_neg pe_int) (pe_F (r_law_take T) (hr.mono (by decide)) T.g_law_take T.kLawTake takes0 (pa_cons (pv 0) (pa_cons pe_int pa_nil)))))) pss_nil)
      (pss_one (ps_ret (pe_op op_sub (pe_F (r_law_take T) (hr.mono (by decide)) T.g_law_take T.kLawTake takes0 (pa_cons (pv 0) (pa_cons (pe_op op_add (pe_op op_mul pe_int (pe_op op_pow pe_int pe_int)) pe_int) pa_nil))) (pe_op op_pow pe_int pe_int))))))), ?_⟩
    refine ⟨_, rfl, p, 3, rfl, hp, ⟨by decide, by decide⟩, fun d H1 d0 d1 a1 f1 => ?_⟩
    refine ⟨_, rfl, rfl, _, rfl, ?_⟩
    refine ite2 (fun _ => ?_) (fun _ => ?_)
    · exact ⟨_, rfl, p, 3, rfl, a1, ⟨by decide, by decide⟩, fun d2 H2 d3 d4 a2 f2 => q _ _ (by show d2.natAbs ≤ 10 ^ 20; omega) a2 (Fr.trans f1 f2)⟩
    refine ⟨_, rfl, rfl, _, rfl, ?_⟩
    refine ite2 (fun _ => ?_) (fun _ => ?_)
    · exact ⟨1, rfl, _, rfl, p, 40, rfl, a1, ⟨by decide, by decide⟩, fun d2 H2 d3 d4 a2 f2 => ⟨_, _, rfl, rfl, q _ _ (by show (-1 - d2).natAbs ≤ 10 ^ 20; omega) a2 (Fr.trans f1 f2)⟩⟩
    · refine ⟨_, rfl, 10, 20, rfl, rfl, ⟨by decide, by decide, by decide⟩, 2, _, rfl, rfl, .inl ⟨by decide, by decide⟩, _, 1, rfl, rfl, p, _, rfl, a1, ⟨by decide, by decide⟩, fun d2 H2 d3 d4 a2 f2 => ⟨10, 20, rfl, rfl, ⟨by decide, by decide, by decide⟩, _, _, rfl, rfl, q _ _ ?_ a2 (Fr.trans f1 f2)⟩⟩
      have e : ((10 : Int) ^ (20 : Int).toNat) = 100000000000000000000 := by decide
      rw [e] at d4 ⊢
      show (d2 - 100000000000000000000).natAbs ≤ 10 ^ 20
      omega
def spTally (K : PySem.W.Frag) : Sp := fun vs H Q _ => ∃ (p : Addr), vs = [.ref p] ∧ PurseAt H p ∧ ∀ (c : Option Int) H', PurseAt H' p → Fr [p] H H' → Q (cV c) H'
theorem scLawTally : FnScope ["_law_purse_here", "_law_way"] ["_law_purse_here"] (defScope sLawTally) := ⟨rfl, rfl, rfl, by decide +kernel, rfl, by decide +kernel, by decide +kernel⟩
theorem Tx.kLawTally {K : PySem.W.Frag} {mg : Str → Option Value} (T : Tx K mg) : PySem.W.keepIn K (.ref (He.ga K "_law_tally")) = true := let ⟨_, F⟩ := T.fsLawTally; F.kp
theorem r_law_tally {w : World} {K : PySem.W.Frag} {mg : Str → Option Value} {base : Heap} (T : Tx K mg) : FnR pg w K mg base (L2.CX pg w) 3 (He.ga K "_law_tally") (spTally K) := by
  obtain ⟨fd, F⟩ := T.fsLawTally
  refine mkR F scLawTally (F.bindsN fun _ _ _ _ _ _ us hl => match us, hl with | [_], _ => rfl) (fun vs H Q E h => ?_) (fun cdv A outer s H vs Q E hr h => ?_)
  · obtain ⟨p, rfl, hp, q⟩ := h
    rfl
  · obtain ⟨p, rfl, hp, q⟩ := h
    refine ⟨_, PSs.nox (pss_cons (ps_set (i := 1) scLawTally.nd rfl (by first | exact .inl rfl | exact .inr rfl) (pe_F (r_law_take T) (hr.mono (by decide)) T.g_law_take T.kLawTake takes0 (pa_cons (pv 0) (pa_cons pe_int pa_nil))))
      (pss_cons (ps_if (pt_cmpR op_lt (pv 1) pe_int (nomark _)) (pss_one (ps_ret pe_non)) pss_nil)
      (pss_cons (ps_if (pt_cmpR op_eq (pv 1) pe_int (nomark _)) (pss_one (ps_ret (pe_F (r_law_take T) (hr.mono (by decide)) T.g_law_take T.kLawTake takes0 (pa_cons (pv 0) (pa_cons pe_int pa_nil))))) pss_nil)
      (pss_cons (ps_if (pt_cmpR op_eq (pv 1) pe_int (nomark _)) (pss_one (ps_ret (pe_op op_sub (pe_F (r_law_take T) (hr.mono (by decide)) T.g_law_take T.kLawTake takes0 (pa_cons (pv 0) (pa_cons pe_int pa_nil))) pe_int))) pss_nil)
      (pss_one (ps_ret pe_int)))))), ?_⟩
    refine ⟨_, rfl, p, 6, rfl, hp, ⟨by decide, by decide⟩, fun d H1 d0 d1 a1 f1 => ?_⟩
    refine ⟨_, rfl, _, 3, rfl, rfl, _, rfl, ?_⟩
    refine ite2 (fun _ => ?_) (fun _ => ?_)
    · exact q none _ a1 f1
    refine ⟨_, rfl, rfl, _, rfl, ?_⟩
    refine ite2 (fun _ => ?_) (fun _ => ?_)
    · exact ⟨_, rfl, p, 3, rfl, a1, ⟨by decide, by decide⟩, fun d2 H2 _ _ a2 f2 => q (some d2) _ a2 (Fr.trans f1 f2)⟩
    refine ⟨_, rfl, rfl, _, rfl, ?_⟩
    refine ite2 (fun _ => ?_) (fun _ => ?_)
    · exact ⟨_, rfl, p, 66, rfl, a1, ⟨by decide, by decide⟩, fun d2 H2 _ _ a2 f2 => ⟨_, 1, rfl, rfl, q (some (d2 - 1)) _ a2 (Fr.trans f1 f2)⟩⟩
    · exact q (some 1) _ a1 f1
end K12

set_option Elab.async false
set_option linter.all false
set_option maxRecDepth 100000
set_option maxHeartbeats 4000000
namespace K12
open PySem PySem.Spec PyProof.Rows L2
/-! ## terms, rings, worlds -/
theorem pos_small {n : Int} (h : 0 < n) (h2 : n < 1000) : Pos200 n := ⟨h, Int.lt_trans h2 (by decide)⟩
def spCycle (K : PySem.W.Frag) : Sp := fun vs H Q _ => ∃ (p : Addr), vs = [.ref p] ∧ PurseAt H p ∧ ∀ (c : Addr) (cyc : List Int) H', H c = none → H' c = some (.lst (cyc.map V.int)) → 1 ≤ cyc.length → cyc.length ≤ 12 → (∀ b ∈ cyc, 0 ≤ b) → PurseAt H' p → Fr [p] H H' → Q (.ref c) H'
theorem scLawCycle : FnScope ["_law_purse_here", "_law_size", "_law_cycle_here", "_law_k", "_law_way", "_law_budget"] ["_law_purse_here"] (defScope sLawCycle) := ⟨rfl, rfl, rfl, by decide +kernel, rfl, by decide +kernel, by decide +kernel⟩
theorem Tx.kLawCycle {K : PySem.W.Frag} {mg : Str → Option Value} (T : Tx K mg) : PySem.W.keepIn K (.ref (He.ga K "_law_cycle")) = true := let ⟨_, F⟩ := T.fsLawCycle; F.kp
theorem r_law_cycle {w : World} {K : PySem.W.Frag} {mg : Str → Option Value} {base : Heap} (T : Tx K mg) : FnR pg w K mg base (L2.CX pg w) 3 (He.ga K "_law_cycle") (spCycle K) := by
  obtain ⟨fd, F⟩ := T.fsLawCycle
  refine mkR F scLawCycle (F.bindsN fun _ _ _ _ _ _ us hl => match us, hl with | [_], _ => rfl) (fun vs H Q E h => ?_) (fun cdv A outer s H vs Q E hr h => ?_)
  · obtain ⟨p, rfl, hp, q⟩ := h
    rfl
  · obtain ⟨p, rfl, hp, q⟩ := h
    refine ⟨_, PSs.nox (pss_cons (ps_set (i := 1) scLawCycle.nd rfl (by first | exact .inl rfl | exact .inr rfl) (pe_op op_add pe_int (pe_F (r_law_take T) (hr.mono (by decide)) T.g_law_take T.kLawTake takes0 (pa_cons (pv 0) (pa_cons pe_int pa_nil)))))
      (Evl.pss_cut (ps_if (pt_cmpR op_eq (pe_F (r_law_take T) (hr.mono (by decide)) T.g_law_take T.kLawTake takes0 (pa_cons (pv 0) (pa_cons pe_int pa_nil))) pe_int (nomark _)) (pss_one (ps_set (i := 1) scLawCycle.nd rfl (by first | exact .inl rfl | exact .inr rfl) (pe_op op_add pe_int (pe_F (r_law_take T) (hr.mono (by decide)) T.g_law_take T.kLawTake takes0 (pa_cons (pv 0) (pa_cons pe_int pa_nil)))))) pss_nil)
      (pss_cons (ps_set (i := 2) scLawCycle.nd rfl (by first | exact .inl rfl | exact .inr rfl) (pe_lst pa_nil))
      (Evl.pss_cut (ps_for PassesOwn.never rfl (pi_range1 (by rfl) T.n_range (pa_cons (pv 1) pa_nil)) (pg_name (i := 3) scLawCycle.nd rfl (by first | exact .inl rfl | exact .inr rfl)) (pss_cons (ps_set (i := 4) scLawCycle.nd rfl (by first | exact .inl rfl | exact .inr rfl) (pe_F (r_law_take T) (hr.mono (by decide)) T.g_law_take T.kLawTake takes0 (pa_cons (pv 0) (pa_cons pe_int pa_nil))))
      (pss_cons (ps_set (i := 5) scLawCycle.nd rfl (by first | exact .inl rfl | exact .inr rfl) (pe_F (r_law_take T) (hr.mono (by decide)) T.g_law_take T.kLawTake takes0 (pa_cons (pv 0) (pa_cons pe_int pa_nil))))
      (Evl.pss_cut (ps_if (pt_cmpR op_in_seq (pv 4) (pe_tup (pa_cons pe_int (pa_cons pe_int pa_nil))) (by rfl)) (pss_one (ps_set (i := 5) scLawCycle.nd rfl (by first | exact .inl rfl | exact .inr rfl) (pe_F (r_law_take T) (hr.mono (by decide)) T.g_law_take T.kLawTake takes0 (pa_cons (pv 0) (pa_cons pe_int pa_nil))))) pss_nil)
      (Evl.pss_cut (ps_if (pt_cmpR op_eq (pv 4) pe_int (nomark _)) (pss_one (ps_set (i := 5) scLawCycle.nd rfl (by first | exact .inl rfl | exact .inr rfl) (pe_op op_sub (pe_op op_pow pe_int pe_int) (pv 5)))) pss_nil)
      (pss_one (ps_expr (pe_bm PySem.F.plainAttrs_list PySem.F.slot_list_append PySem.F.type_list_append mt_append (pv 2) (pa_cons (pv 5) pa_nil)))))))))
      (pss_one (ps_ret (pv 2))))))), ?_⟩
    refine ⟨_, rfl, p, 3, rfl, hp, pos_small (by decide) (by decide), fun d H1 d0 d1 a1 f1 => ⟨_, _, rfl, rfl, ?_⟩⟩
    refine ⟨fun σ' H2 => (∃ s : Nat, σ' = [some (.ref p), some (.int s), none, none, none, none] ∧ 1 ≤ s ∧ s ≤ 12) ∧ PurseAt H2 p ∧ Fr [p] H H2, ?_, ?_⟩
    · refine ⟨_, rfl, p, 6, rfl, a1, pos_small (by decide) (by decide), fun d2 H2 _ _ a2 f2 => ⟨rfl, _, rfl, ?_⟩⟩
      refine ite2 (fun _ => ?_) (fun _ => ?_)
      · refine ⟨_, rfl, p, 12, rfl, a2, pos_small (by decide) (by decide), fun d3 H3 d30 d31 a3 f3 => ⟨_, _, rfl, rfl, ⟨(1 + d3).toNat, ?_, by omega, by omega⟩, a3, Fr.trans f1 (Fr.trans f2 f3)⟩⟩
        rw [show (((1 + d3).toNat : Nat) : Int) = 1 + d3 by omega]
        rfl
      · refine ⟨⟨(1 + d).toNat, ?_, by omega, by omega⟩, a2, Fr.trans f1 f2⟩
        rw [show (((1 + d).toNat : Nat) : Int) = 1 + d by omega]
        rfl
    rintro σ' H2 ⟨⟨s, rfl, s1, s12⟩, a2, f2⟩
    refine ⟨Nat.zero_le _, fun c nc => ?_⟩
    obtain ⟨pl, pm, pz, hp2⟩ := id a2
    have cp : c ≠ p := (ne_of_none hp2 nc).symm
    have hc0 : H c = none := by
      cases e : H c with
      | none => rfl
      | some o => rw [f2 c o (by simpa using cp) e] at nc; cases nc
    refine ⟨fun σ' H3 => ∃ (cyc : List Int) (y3 y4 y5 : Option V), σ' = [some (.ref p), some (.int s), some (.ref c), y3, y4, y5] ∧ cyc.length = s ∧ (∀ b ∈ cyc, 0 ≤ b) ∧ H3 c = some (.lst (cyc.map V.int)) ∧ PurseAt H3 p ∧ Fr [p] H H3, ?_, ?_⟩
    · refine ⟨_, rfl, s, rfl, by omega, by omega, ?_⟩
      rw [Int.toNat_natCast]
      refine for_range (n := s) (fun i σ' H3 => ∃ (cyc : List Int) (y3 y4 y5 : Option V), σ' = [some (.ref p), some (.int s), some (.ref c), y3, y4, y5] ∧ cyc.length = i ∧ (∀ b ∈ cyc, 0 ≤ b) ∧ H3 c = some (.lst (cyc.map V.int)) ∧ PurseAt H3 p ∧ Fr [p] H H3)
        ⟨[], none, none, none, rfl, rfl, (fun b hb => by cases hb), upd_same, a2.same (same_upd nc), Fr.trans f2 (.of_same (same_upd nc))⟩ (fun i σ' H3 _ h => ?_) (fun σ' H3 h => h)
      obtain ⟨cyc, y3, y4, y5, rfl, hl, hall, h3, a3, f3⟩ := h
      refine ⟨_, rfl, p, 16, rfl, a3, pos_small (by decide) (by decide), fun d4 H4 _ _ a4 f4 => ?_⟩
      refine ⟨_, rfl, p, 4, rfl, a4, pos_small (by decide) (by decide), fun d5 H5 d50 d51 a5 f5 => ?_⟩
      have c5 := f5 c _ (by simpa using cp) (f4 c _ (by simpa using cp) h3)
      have F5 := Fr.trans f3 (Fr.trans f4 f5)
      refine ⟨fun σ' H6 => ∃ (x y b : Int), σ' = [some (.ref p), some (.int s), some (.ref c), some (.int x), some (.int y), some (.int b)] ∧ 0 ≤ b ∧ b < 1000 ∧ H6 c = some (.lst (cyc.map V.int)) ∧ PurseAt H6 p ∧ Fr [p] H H6, ?_, ?_⟩
      · refine ⟨_, rfl, (by show 2 ≤ sizeLine; decide), fun tt nt => ⟨tt, [.int 13, .int 14], rfl, .inr (SqT.of upd_same), rfl, rfl, _, rfl, ?_⟩⟩
        have st : Same H5 (upd H5 tt (.tup [.int 13, .int 14])) := same_upd nt
        refine ite2 (fun _ => ?_) (fun _ => ?_)
        · refine ⟨_, rfl, p, 70, rfl, a5.same st, pos_small (by decide) (by decide), fun d6 H6 d60 d61 a6 f6 => ⟨_, _, d6, rfl, d60, by omega, f6 c _ (by simpa using cp) (st _ _ c5), a6, Fr.trans F5 (Fr.trans (.of_same st) f6)⟩⟩
        · exact ⟨_, _, d5, rfl, d50, by omega, st _ _ c5, a5.same st, Fr.trans F5 (.of_same st)⟩
      rintro σ' H6 ⟨x, y, b, rfl, b0, b1, c6, a6, F6⟩
      refine ⟨fun σ' H7 => ∃ (x y b : Int), σ' = [some (.ref p), some (.int s), some (.ref c), some (.int x), some (.int y), some (.int b)] ∧ 0 ≤ b ∧ H7 = H6, ?_, ?_⟩
      · refine ⟨_, rfl, rfl, _, rfl, ?_⟩
        refine ite2 (fun _ => ?_) (fun _ => ⟨_, _, b, rfl, b0, rfl⟩)
        refine ⟨10, 30, rfl, rfl, ⟨by decide, by decide, by decide⟩, _, rfl, _, _, rfl, rfl, ⟨_, _, _, rfl, ?_, rfl⟩⟩
        have e : ((10 : Int) ^ (30 : Int).toNat) = 1000000000000000000000000000000 := by decide
        rw [e]
        omega
      rintro σ' H7 ⟨x, y, b, rfl, b0, rfl⟩
      refine ⟨_, rfl, .inl ⟨rfl, _, SqL.of c6⟩, _, rfl, c, _, _, rfl, rfl, c6, ?_, cyc ++ [b], _, _, _, rfl, ?_, ?_, ?_, ?_, ?_⟩
      · rw [List.length_map]
        exact small1000 (by omega)
      · rw [List.length_append, hl]
        rfl
      · intro z hz
        rcases List.mem_append.mp hz with hz | hz
        · exact hall z hz
        · rw [List.mem_singleton.mp hz]
          exact b0
      · rw [upd_same, List.map_append]
        rfl
      · obtain ⟨l, m, z, e⟩ := a6
        exact ⟨l, m, z, by rw [upd_ne cp.symm]; exact e⟩
      · intro b' o' n' e'
        have bc : b' ≠ c := ne_of_none e' hc0
        rw [upd_ne bc]
        exact F6 b' o' n' e'
    rintro σ' H3 ⟨cyc, y3, y4, y5, rfl, hl, hall, h3, a3, f3⟩
    exact ⟨_, rfl, q c cyc H3 hc0 h3 (by omega) (by omega) hall a3 f3⟩
theorem made_same {H H' : Hp} {x dx : Addr} {o1 o2 : HO} (nx : H x = none) (ndx : H dx = none) (f : Fr [x] (upd (upd H dx o1) x o2) H') : Same H H' := fun b o e =>
  f b o (by simpa using ne_of_none e nx) (by rw [upd_ne (ne_of_none e nx), upd_ne (ne_of_none e ndx)]; exact e)
def spLRound (K : PySem.W.Frag) : Sp := fun vs H Q _ => ∃ (c : Addr) (cyc : List Int), vs = [.ref c] ∧ H c = some (.lst (cyc.map V.int)) ∧ 1 ≤ cyc.length ∧ cyc.length ≤ 12 ∧ (∀ b ∈ cyc, 0 ≤ b) ∧ ∀ H' b, Same H H' → RoundAt K H' b cyc → Q (.ref b) H'
theorem scLawRound : FnScope ["_law_cycle_here", "_law_made", "_law_budget"] ["_law_cycle_here"] (defScope sLawRound) := ⟨rfl, rfl, rfl, by decide +kernel, rfl, by decide +kernel, by decide +kernel⟩
theorem Tx.kLawRound {K : PySem.W.Frag} {mg : Str → Option Value} (T : Tx K mg) : PySem.W.keepIn K (.ref (He.ga K "_law_round")) = true := let ⟨_, F⟩ := T.fsLawRound; F.kp
theorem r_law_round {w : World} {K : PySem.W.Frag} {mg : Str → Option Value} {base : Heap} (T : Tx K mg) : FnR pg w K mg base (L2.CX pg w) 5 (He.ga K "_law_round") (spLRound K) := by
  obtain ⟨fd, F⟩ := T.fsLawRound
  refine mkR F scLawRound (F.bindsN fun _ _ _ _ _ _ us hl => match us, hl with | [_], _ => rfl) (fun vs H Q E h => ?_) (fun cdv A outer s H vs Q E hr h => ?_)
  · obtain ⟨c, cyc, rfl, hc, c1, c12, hall, q⟩ := h
    rfl
  · obtain ⟨c, cyc, rfl, hc, c1, c12, hall, q⟩ := h
    refine ⟨_, PSs.nox (pss_cons (ps_set (i := 1) scLawRound.nd rfl (by first | exact .inl rfl | exact .inr rfl) (StX.pe_makeR T.mk_Round (r_Round_init T) (hr.mono (by decide)) (by rfl) T.g_Round passL (pa_cons (pe_ix ix_list (pv 0) pe_int (fun _ _ => rfl)) pa_nil)))
      (pss_cons (ps_for PassesOwn.never rfl (pi_list (pe_slice sl_list (pv 0) (po_some pe_int) po_none)) (pg_name (i := 2) scLawRound.nd rfl (by first | exact .inl rfl | exact .inr rfl)) (pss_one (ps_set (i := 1) scLawRound.nd rfl (by first | exact .inl rfl | exact .inr rfl) (pe_op (op_addOwn (spec_of T.ex.2.2.2.2.1.2.2.2).2 (spec_of T.ex.2.2.2.2.1.2.2.2).1 T.ex.2.2.2.2.2.1 (r_Round_add T) (hr.mono (by decide)) passL) (pv 1) (StX.pe_makeR T.mk_Round (r_Round_init T) (hr.mono (by decide)) (by rfl) T.g_Round passL (pa_cons (pv 2) pa_nil))))))
      (pss_one (ps_ret (pv 1))))), ?_⟩
    obtain ⟨b0, hb0⟩ := get_of (show 0 < cyc.length by omega)
    refine ⟨_, rfl, c, _, 0, .int b0, rfl, rfl, SqL.of hc, atI_nat (j := 0) (by rw [List.getElem?_map, hb0]; rfl), fun x dx nx ndx nex => ?_⟩
    refine ⟨x, dx, [b0], rfl, upd_same, (by show 1 ≤ 1; decide), (by show 1 ≤ 12; decide), (fun z hz => by rw [List.mem_singleton.mp hz]; exact hall b0 (List.mem_of_getElem? hb0)), fun H1 f1 r1 => ⟨rfl, ?_⟩⟩
    have sm1 := made_same nx ndx f1
    refine ⟨_, rfl, 1, rfl, c, _, rfl, SqL.of (sm1 _ _ hc), fun l nl => ?_⟩
    have hl : (upd H1 l (.lst (cutV (cyc.map V.int) (some 1) none))) l = some (.lst ((cyc.drop 1).map V.int)) := by
      rw [upd_same, show (1 : Int) = ((1 : Nat) : Int) from rfl, cut_from, List.map_drop]
    refine ⟨l, rfl, ⟨_, SqL.of hl⟩, for_list (xs := (cyc.drop 1).map V.int) (fun i σ' H2 => (∃ (b : Addr) (y : Option V), σ' = [some (.ref c), some (.ref b), y] ∧ RoundAt K H2 b (cyc.take (i + 1))) ∧ Same (upd H1 l (.lst (cutV (cyc.map V.int) (some 1) none))) H2) ⟨⟨x, none, rfl, ?_⟩, .refl _⟩ (fun i σ' H2 _ h => ?_) (fun i y σ' H2 hy h => ?_) (fun σ' H2 h => ?_)⟩
    · have e : cyc.take 1 = [b0] := by
        cases cyc with
        | nil => cases hb0
        | cons z r =>
          have : z = b0 := Option.some.inj hb0
          rw [this]
          rfl
      show RoundAt K _ x (cyc.take 1)
      rw [e]
      exact r1.kept (.of_same (same_upd nl))
    · exact SqL.of (h.2 _ _ hl)
    · obtain ⟨⟨b, yv, rfl, rb⟩, sm2⟩ := h
      rw [List.getElem?_map, List.getElem?_drop] at hy
      obtain ⟨z, hz, rfl⟩ := Option.map_eq_some_iff.mp hy
      have hz' : cyc[i + 1]? = some z := by rw [Nat.add_comm]; exact hz
      have hlt := get_lt hz'
      refine ⟨_, rfl, _, rfl, fun x2 dx2 nx2 ndx2 nex2 => ?_⟩
      refine ⟨x2, dx2, [z], rfl, upd_same, (by show 1 ≤ 1; decide), (by show 1 ≤ 12; decide), (fun w hw => by rw [List.mem_singleton.mp hw]; exact hall z (List.mem_of_getElem? hz')), fun H3 f3 r3 => ⟨rfl, ?_⟩⟩
      have sm3 := made_same nx2 ndx2 f3
      have rb3 := rb.kept (.of_same sm3)
      obtain ⟨db, tb, k1, k2⟩ := id rb3
      obtain ⟨db2, tb2, j1, j2⟩ := id r3
      refine ⟨b, db, _, x2, db2, _, rfl, rfl, k1, j1, b, x2, cyc.take (i + 1), [z], rfl, rb3, r3, ?_, (by show 1 ≤ 1; decide), ?_, ?_, fun H4 r sm4 r4 => ⟨⟨r, _, rfl, ?_⟩, Same.trans sm2 (Same.trans sm3 sm4)⟩⟩
      · rw [List.length_take]; omega
      · rw [List.length_take]
        show _ + 1 ≤ 12
        omega
      · intro w hw
        rcases List.mem_append.mp hw with hw | hw
        · exact hall w (List.mem_of_mem_take hw)
        · rw [List.mem_singleton.mp hw]
          exact hall z (List.mem_of_getElem? hz')
      · rw [take_next hz']
        exact r4
    · obtain ⟨⟨b, yv, rfl, rb⟩, sm2⟩ := h
      refine ⟨_, rfl, q H2 b (Same.trans sm1 (Same.trans (same_upd nl) sm2)) ?_⟩
      rw [List.length_map, List.length_drop, List.take_of_length_le (by omega)] at rb
      exact rb
/-- the terms as the law keeps them: a list of four -/
def TermsAt (H : Hp) (tm c : Addr) (U : Tm) : Prop := H tm = some (.lst [.int U.span, .int U.cap, .ref c, .bl U.rear]) ∧ H c = some (.lst (U.cyc.map V.int))
def spTerms (K : PySem.W.Frag) : Sp := fun vs H Q _ => ∃ (p : Addr), vs = [.ref p] ∧ PurseAt H p ∧ ∀ (tm c : Addr) (U : Tm) H', H tm = none → H c = none → TermsAt H' tm c U → U.Ok → PurseAt H' p → Fr [p] H H' → Q (.ref tm) H'
theorem scLawTerms : FnScope ["_law_purse_here", "_law_span", "_law_cap", "_law_cycle_here"] ["_law_purse_here"] (defScope sLawTerms) := ⟨rfl, rfl, rfl, by decide +kernel, rfl, by decide +kernel, by decide +kernel⟩
theorem Tx.kLawTerms {K : PySem.W.Frag} {mg : Str → Option Value} (T : Tx K mg) : PySem.W.keepIn K (.ref (He.ga K "_law_terms")) = true := let ⟨_, F⟩ := T.fsLawTerms; F.kp
theorem r_law_terms {w : World} {K : PySem.W.Frag} {mg : Str → Option Value} {base : Heap} (T : Tx K mg) : FnR pg w K mg base (L2.CX pg w) 4 (He.ga K "_law_terms") (spTerms K) := by
  obtain ⟨fd, F⟩ := T.fsLawTerms
  refine mkR F scLawTerms (F.bindsN fun _ _ _ _ _ _ us hl => match us, hl with | [_], _ => rfl) (fun vs H Q E h => ?_) (fun cdv A outer s H vs Q E hr h => ?_)
  · obtain ⟨p, rfl, hp, q⟩ := h
    rfl
  · obtain ⟨p, rfl, hp, q⟩ := h
    refine ⟨_, PSs.nox (pss_cons (ps_set (i := 1) scLawTerms.nd rfl (by first | exact .inl rfl | exact .inr rfl) (pe_op op_add pe_int (pe_F (r_law_take T) (hr.mono (by decide)) T.g_law_take T.kLawTake takes0 (pa_cons (pv 0) (pa_cons pe_int pa_nil)))))
      (Evl.pss_cut (ps_if (pt_cmpR op_eq (pe_F (r_law_take T) (hr.mono (by decide)) T.g_law_take T.kLawTake takes0 (pa_cons (pv 0) (pa_cons pe_int pa_nil))) pe_int (nomark _)) (pss_one (ps_set (i := 1) scLawTerms.nd rfl (by first | exact .inl rfl | exact .inr rfl) (pe_op op_add pe_int (pe_F (r_law_take T) (hr.mono (by decide)) T.g_law_take T.kLawTake takes0 (pa_cons (pv 0) (pa_cons pe_int pa_nil)))))) pss_nil)
      (pss_cons (ps_set (i := 2) scLawTerms.nd rfl (by first | exact .inl rfl | exact .inr rfl) (pe_op op_add pe_int (pe_F (r_law_take T) (hr.mono (by decide)) T.g_law_take T.kLawTake takes0 (pa_cons (pv 0) (pa_cons (pv 1) pa_nil)))))
      (Evl.pss_cut (ps_if (pt_cmpR op_eq (pe_F (r_law_take T) (hr.mono (by decide)) T.g_law_take T.kLawTake takes0 (pa_cons (pv 0) (pa_cons pe_int pa_nil))) pe_int (nomark _)) (pss_one (ps_set (i := 2) scLawTerms.nd rfl (by first | exact .inl rfl | exact .inr rfl) (pe_op op_add pe_int (pe_op op_fdiv (pv 2) pe_int)))) pss_nil)
      (pss_cons (ps_set (i := 3) scLawTerms.nd rfl (by first | exact .inl rfl | exact .inr rfl) (pe_F (r_law_cycle T) (hr.mono (by decide)) T.g_law_cycle T.kLawCycle takes0 (pa_cons (pv 0) pa_nil)))
      (pss_one (ps_ret (pe_lst (pa_cons (pv 1) (pa_cons (pv 2) (pa_cons (pv 3) (pa_cons (pe_cmpR op_eq (pe_F (r_law_take T) (hr.mono (by decide)) T.g_law_take T.kLawTake takes0 (pa_cons (pv 0) (pa_cons pe_int pa_nil))) pe_int (nomark _)) pa_nil)))))))))))), ?_⟩
    refine ⟨_, rfl, p, 9, rfl, hp, pos_small (by decide) (by decide), fun d H1 d0 d1 a1 f1 => ⟨_, _, rfl, rfl, ?_⟩⟩
    refine ⟨fun σ' H2 => (∃ s : Nat, σ' = [some (.ref p), some (.int s), none, none] ∧ 1 ≤ s ∧ s ≤ 64) ∧ PurseAt H2 p ∧ Fr [p] H H2, ?_, ?_⟩
    · refine ⟨_, rfl, p, 8, rfl, a1, pos_small (by decide) (by decide), fun d2 H2 _ _ a2 f2 => ⟨rfl, _, rfl, ?_⟩⟩
      refine ite2 (fun _ => ?_) (fun _ => ?_)
      · refine ⟨_, rfl, p, 64, rfl, a2, pos_small (by decide) (by decide), fun d3 H3 d30 d31 a3 f3 => ⟨_, _, rfl, rfl, ⟨(1 + d3).toNat, ?_, by omega, by omega⟩, a3, Fr.trans f1 (Fr.trans f2 f3)⟩⟩
        rw [show (((1 + d3).toNat : Nat) : Int) = 1 + d3 by omega]
        rfl
      · refine ⟨⟨(1 + d).toNat, ?_, by omega, by omega⟩, a2, Fr.trans f1 f2⟩
        rw [show (((1 + d).toNat : Nat) : Int) = 1 + d by omega]
        rfl
    rintro σ' H2 ⟨⟨s, rfl, s1, s64⟩, a2, f2⟩
    refine ⟨_, rfl, _, rfl, p, s, rfl, a2, pos_small (by omega) (by omega), fun d3 H3 d30 d31 a3 f3 => ⟨_, _, rfl, rfl, ?_⟩⟩
    refine ⟨fun σ' H4 => (∃ cp : Nat, σ' = [some (.ref p), some (.int s), some (.int cp), none] ∧ 1 ≤ cp ∧ cp ≤ s) ∧ PurseAt H4 p ∧ Fr [p] H H4, ?_, ?_⟩
    · refine ⟨_, rfl, p, 2, rfl, a3, pos_small (by decide) (by decide), fun d4 H4 _ _ a4 f4 => ⟨rfl, _, rfl, ?_⟩⟩
      refine ite2 (fun _ => ?_) (fun _ => ?_)
      · refine ⟨_, rfl, _, 2, rfl, rfl, ⟨by decide, by decide⟩, 1, _, rfl, rfl, ⟨(1 + (1 + d3) / 2).toNat, ?_, by omega, by omega⟩, a4, Fr.trans f2 (Fr.trans f3 f4)⟩
        rw [show (((1 + (1 + d3) / 2).toNat : Nat) : Int) = 1 + (1 + d3) / 2 by omega]
        rfl
      · refine ⟨⟨(1 + d3).toNat, ?_, by omega, by omega⟩, a4, Fr.trans f2 (Fr.trans f3 f4)⟩
        rw [show (((1 + d3).toNat : Nat) : Int) = 1 + d3 by omega]
        rfl
    rintro σ' H4 ⟨⟨cp, rfl, p1, ps⟩, a4, f4⟩
    refine ⟨_, rfl, p, rfl, a4, fun c cyc H5 nc hc c1 c12 hall a5 f5 => ?_⟩
    refine ⟨_, rfl, _, rfl, _, rfl, _, rfl, p, 2, rfl, a5, pos_small (by decide) (by decide), fun d6 H6 d60 d61 a6 f6 => ⟨rfl, (by show 4 ≤ sizeLine; decide), fun tm ntm => ?_⟩⟩
    obtain ⟨pl, pm, pz, hp4⟩ := id a4
    obtain ⟨pl6, pm6, pz6, hp6⟩ := id a6
    have cnp : c ≠ p := (ne_of_none hp4 nc).symm
    have F4 := Fr.trans f4 (Fr.trans f5 f6)
    have old : ∀ (H1 : Hp) (x : Addr), Fr [p] H H1 → x ≠ p → H1 x = none → H x = none := fun H1 x f hx hn => by
      cases e : H x with
      | none => rfl
      | some o => rw [f x o (by simpa using hx) e] at hn; cases hn
    have hc6 := f6 c _ (by simpa using cnp) hc
    refine q tm c ⟨s, cp, cyc, decide (V.int d6 = V.int 1)⟩ _ (old H6 tm F4 (ne_of_none hp6 ntm).symm ntm) (old H4 c f4 cnp nc) ⟨upd_same, same_upd ntm _ _ hc6⟩ ⟨p1, ps, s64, c1, c12, hall⟩ (a6.same (same_upd ntm)) (Fr.trans F4 (.of_same (same_upd ntm)))
def spLRing (K : PySem.W.Frag) : Sp := fun vs H Q _ => ∃ (tm c : Addr) (U : Tm), vs = [.ref tm] ∧ TermsAt H tm c U ∧ U.Ok ∧ ∀ H' r, Same H H' → H r = none → RingAt K H' r U [] 0 0 → Q (.ref r) H'
theorem scLawRing : FnScope ["_law_terms_here"] ["_law_terms_here"] (defScope sLawRing) := ⟨rfl, rfl, rfl, by decide +kernel, rfl, by decide +kernel, by decide +kernel⟩
theorem Tx.kLawRing {K : PySem.W.Frag} {mg : Str → Option Value} (T : Tx K mg) : PySem.W.keepIn K (.ref (He.ga K "_law_ring")) = true := let ⟨_, F⟩ := T.fsLawRing; F.kp
theorem r_law_ring {w : World} {K : PySem.W.Frag} {mg : Str → Option Value} {base : Heap} (T : Tx K mg) : FnR pg w K mg base (L2.CX pg w) 6 (He.ga K "_law_ring") (spLRing K) := by
  obtain ⟨fd, F⟩ := T.fsLawRing
  obtain ⟨fdRI, FRI, okRI⟩ := ok_Ring_init (w := w) (base := base) T; obtain ⟨_, mvRI, kb⟩ := ring_kw (base := base) (mg := mg) FRI
  refine mkR F scLawRing (F.bindsN fun _ _ _ _ _ _ us hl => match us, hl with | [_], _ => rfl) (fun vs H Q E h => ?_) (fun cdv A outer s H vs Q E hr h => ?_)
  · obtain ⟨tm, c, U, rfl, ⟨h1, h2⟩, hU, q⟩ := h
    rfl
  · obtain ⟨tm, c, U, rfl, ⟨h1, h2⟩, hU, q⟩ := h
    refine ⟨_, PSs.nox (pss_cons (ps_if (pt_val (pe_ix ix_list (pv 0) pe_int (fun _ _ => rfl))) (pss_one (ps_ret (pe_makeK T.mk_Ring okRI (hr.mono (by decide)) (by rfl) T.g_Ring kb passL (pa_cons (pe_ix ix_list (pv 0) pe_int (fun _ _ => rfl)) (pa_cons (pe_ix ix_list (pv 0) pe_int (fun _ _ => rfl)) (pa_cons (pe_F (r_law_round T) (hr.mono (by decide)) T.g_law_round T.kLawRound takes0 (pa_cons (pe_ix ix_list (pv 0) pe_int (fun _ _ => rfl)) pa_nil)) pa_nil))) (pk_cons pe_bl pk_nil)))) pss_nil)
      (pss_one (ps_ret (StX.pe_makeR T.mk_Ring (r_Ring_init T) (hr.mono (by decide)) (by rfl) T.g_Ring passL (pa_cons (pe_ix ix_list (pv 0) pe_int (fun _ _ => rfl)) (pa_cons (pe_ix ix_list (pv 0) pe_int (fun _ _ => rfl)) (pa_cons (pe_F (r_law_round T) (hr.mono (by decide)) T.g_law_round T.kLawRound takes0 (pa_cons (pe_ix ix_list (pv 0) pe_int (fun _ _ => rfl)) pa_nil)) pa_nil))))))), ?_⟩
    refine ⟨_, rfl, tm, _, 3, _, rfl, rfl, SqL.of h1, rfl, _, rfl, ?_⟩
    refine ite2 (fun hr => ?_) (fun hr => ?_)
    · refine ⟨_, rfl, tm, _, 0, _, rfl, rfl, SqL.of h1, rfl, _, rfl, tm, _, 1, _, rfl, rfl, SqL.of h1, rfl, _, rfl, tm, _, 2, _, rfl, rfl, SqL.of h1, rfl, c, U.cyc, rfl, h2, hU.c1, hU.c12, hU.all, fun H1 b sm1 rb => ⟨rfl, rfl, fun x dx nx ndx nex => ?_⟩⟩
      refine ⟨x, dx, b, U, (by rw [hr]; rfl), upd_same, rb.kept (Kept.of_same (Same.step (same_upd ndx) nx)), hU.cap1, hU.cs, fun H2 f2 r2 => ⟨rfl, ?_⟩⟩
      exact q H2 x (Same.trans sm1 (made_same nx ndx f2)) (sm1.free nx) r2
    · refine ⟨_, rfl, tm, _, 0, _, rfl, rfl, SqL.of h1, rfl, _, rfl, tm, _, 1, _, rfl, rfl, SqL.of h1, rfl, _, rfl, tm, _, 2, _, rfl, rfl, SqL.of h1, rfl, c, U.cyc, rfl, h2, hU.c1, hU.c12, hU.all, fun H1 b sm1 rb => fun x dx nx ndx nex => ?_⟩
      refine ⟨x, dx, b, U, (by rw [eq_false_of_ne_true hr]; rfl), upd_same, rb.kept (Kept.of_same (Same.step (same_upd ndx) nx)), hU.cap1, hU.cs, fun H2 f2 r2 => ⟨rfl, ?_⟩⟩
      exact q H2 x (Same.trans sm1 (made_same nx ndx f2)) (sm1.free nx) r2
def spLWorld (K : PySem.W.Frag) : Sp := fun vs H Q _ => ∃ (tm c : Addr) (U : Tm), vs = [.ref tm] ∧ TermsAt H tm c U ∧ ∀ H' wd bk, Same H H' → H wd = none → H bk = none → bk ≠ wd → WorldAt H' wd U [] 0 c bk [] → Q (.ref wd) H'
theorem scLawWorld : FnScope ["_law_terms_here"] ["_law_terms_here"] (defScope sLawWorld) := ⟨rfl, rfl, rfl, by decide +kernel, rfl, by decide +kernel, by decide +kernel⟩
theorem Tx.kLawWorld {K : PySem.W.Frag} {mg : Str → Option Value} (T : Tx K mg) : PySem.W.keepIn K (.ref (He.ga K "_law_world")) = true := let ⟨_, F⟩ := T.fsLawWorld; F.kp
theorem r_law_world {w : World} {K : PySem.W.Frag} {mg : Str → Option Value} {base : Heap} (T : Tx K mg) : FnR pg w K mg base (L2.CX pg w) 1 (He.ga K "_law_world") (spLWorld K) := by
  obtain ⟨fd, F⟩ := T.fsLawWorld
  refine mkR F scLawWorld (F.bindsN fun _ _ _ _ _ _ us hl => match us, hl with | [_], _ => rfl) (fun vs H Q E h => ?_) (fun cdv A outer s H vs Q E hr h => ?_)
  · obtain ⟨tm, c, U, rfl, ⟨h1, h2⟩, q⟩ := h
    rfl
  · obtain ⟨tm, c, U, rfl, ⟨h1, h2⟩, q⟩ := h
    refine ⟨_, PSs.nox (pss_one (ps_ret (pe_disp (pps_cons pe_str (pe_ix ix_list (pv 0) pe_int (fun _ _ => rfl)) (pps_cons pe_str (pe_ix ix_list (pv 0) pe_int (fun _ _ => rfl)) (pps_cons pe_str (pe_ix ix_list (pv 0) pe_int (fun _ _ => rfl)) (pps_cons pe_str (pe_ix ix_list (pv 0) pe_int (fun _ _ => rfl)) (pps_cons pe_str (pe_lst pa_nil) (pps_cons pe_str pe_dnewK (pps_cons pe_str pe_int (pps_cons pe_str pe_int pps_nil)))))))) rfl rfl (by simp) (by show 8 ≤ 15; decide)))), ?_⟩
    intro wd nw
    have h1' : (upd H wd (.dK [])) tm = some (.lst [.int U.span, .int U.cap, .ref c, .bl U.rear]) := same_upd nw _ _ h1
    refine ⟨_, rfl, tm, _, 0, _, rfl, rfl, SqL.of h1', rfl, _, rfl, tm, _, 1, _, rfl, rfl, SqL.of h1', rfl, _, rfl, tm, _, 2, _, rfl, rfl, SqL.of h1', rfl, _, rfl, tm, _, 3, _, rfl, rfl, SqL.of h1', rfl, Nat.zero_le _, fun ch nch => fun bk nbk => ?_⟩
    have wc : wd ≠ ch := fun z => by rw [← z, upd_same] at nch; cases nch
    have nch1 : H ch = none := by rw [upd_ne wc.symm] at nch; exact nch
    have bc : bk ≠ ch := fun z => by rw [z, upd_same] at nbk; cases nbk
    have bw : bk ≠ wd := fun z => by rw [z, upd_ne wc, upd_same] at nbk; cases nbk
    have nbk1 : H bk = none := by rw [upd_ne bc, upd_ne bw] at nbk; exact nbk
    refine ⟨(by rw [upd_ne bw.symm, upd_ne wc, upd_same]), worldV U c ch bk 0 0, rfl, (by show 8 ≤ 15; decide), ?_⟩
    refine q _ wd bk ?_ nw nbk1 bw ⟨ch, 0, upd_same, ?_, ⟨[], ?_, .nil⟩, ?_, ⟨List.nodup_nil, fun k z => ⟨fun h => (by cases h), fun h => (by cases h)⟩⟩⟩
    · exact Same.step (Same.step (Same.step (same_upd nw) nch1) nbk1) nw
    · exact Same.step (Same.step (Same.step (same_upd nw) nch1) nbk1) nw _ _ h2
    · rw [upd_ne wc.symm, upd_ne bc.symm, upd_same]
    · rw [upd_ne bw, upd_same]
      rfl
end K12

set_option Elab.async false
set_option linter.all false
set_option maxRecDepth 100000
set_option maxHeartbeats 4000000
namespace K12
open PySem PySem.Spec PyProof.Rows L2
/-! ## the pool's keys -/
abbrev signs : Str := "abcdefghijklmnopqrstuvwxyz0123456789"
def CH (x : Str) : Prop := ∀ c ∈ x.cps.toList, c ∈ signs.cps.toList
theorem CH.app {x y : Str} (hx : CH x) (hy : CH y) : CH (x ++ y) := fun c hc => by
  rw [Str.cps_append, Array.toList_append] at hc
  rcases List.mem_append.mp hc with h | h
  · exact hx c h
  · exact hy c h
theorem CH.cut {x : Str} (hx : CH x) (lo hi : Option Int) : CH (cutS x lo hi) := fun c hc => by
  unfold cutS at hc
  exact hx c (List.mem_of_mem_drop (List.mem_of_mem_take hc))
theorem CH.one {c : Nat} (h : c ∈ signs.cps.toList) : CH ⟨#[c]⟩ := fun d hd => by
  obtain rfl : d = c := by simpa using hd
  exact h
theorem CH.nil : CH Str.empty := fun c hc => by cases hc
theorem cutS_to_len (z : Str) (j : Nat) : (cutS z none (some (j : Int))).length = min j z.length := by
  show (((z.cps.toList.drop (HT.sIx z.length 0 none)).take (HT.sIx z.length z.length (some (j : Int)) - HT.sIx z.length 0 none)).toArray).size = _
  rw [HT.sIx_nat, HT.sIx_none, List.size_toArray, List.length_take, List.length_drop, Array.length_toList]
  show min (min j z.length - 0) (z.length - 0) = _
  omega
theorem cutS_from_len (z : Str) (i : Nat) : (cutS z (some (i : Int)) none).length = z.length - i := by
  show (((z.cps.toList.drop (HT.sIx z.length 0 (some (i : Int)))).take (HT.sIx z.length z.length none - HT.sIx z.length 0 (some (i : Int)))).toArray).size = _
  rw [HT.sIx_nat, HT.sIx_none, List.size_toArray, List.length_take, List.length_drop, Array.length_toList]
  show min (z.length - min i z.length) (z.length - min i z.length) = _
  omega
theorem GK.ch {k : Str} (h : GK k) : CH k := h.2.2
theorem signs_len : signs.length = 36 := by decide +kernel
theorem signs_line : signs.length ≤ sizeLine := by rw [signs_len]; decide
theorem sign_at {d : Int} (h0 : 0 ≤ d) (h1 : d < 36) : ∃ c, atI signs.cps.toList d = some c ∧ c ∈ signs.cps.toList := by
  have hl : signs.cps.toList.length = 36 := by decide +kernel
  obtain ⟨c, hc⟩ := get_of (xs := signs.cps.toList) (i := d.toNat) (by omega)
  refine ⟨c, ?_, List.mem_of_getElem? hc⟩
  have := atI_nat hc
  rw [Int.toNat_of_nonneg h0] at this
  exact this
def gkB (k : Str) : Bool := decide (1 ≤ k.length) && (decide (k.length ≤ 12) && k.cps.toList.all fun c => signs.cps.toList.contains c)
theorem gkB_ok {k : Str} (h : gkB k = true) : GK k := by
  obtain ⟨h1, h⟩ := ba h
  obtain ⟨h2, h⟩ := ba h
  exact ⟨of_decide_eq_true h1, of_decide_eq_true h2, fun c hc => by
    have := List.all_eq_true.mp h c hc
    simpa using this⟩
theorem kk_all : ((List.range 80).all fun i => gkB (("k" : Str) ++ (Str.ofString (toString ((i : Nat) : Int))))) = true := by decide +kernel
theorem kk_ok {i : Nat} (h : i < 80) : GK (("k" : Str) ++ (Str.ofString (toString ((i : Nat) : Int)))) := gkB_ok (List.all_eq_true.mp kk_all i (List.mem_range.mpr h))
/-- if: what the test says is told once for both branches -/
def tIfM (tc : TT) (t u : TS) : TS := fun D σ H => ∃ M : Bool → Hp → Prop, tc σ H M ∧ (∀ H1, M true H1 → t D σ H1) ∧ ∀ H1, M false H1 → u D σ H1
theorem ps_ifM {X : Cx} {c : Expr} {a b : List Stmt} {tc : TT} {t u : TS} {pos : Pos} (hc : PT X c tc) (ha : PSs X a t) (hb : PSs X b u) : PS X (.If c a b pos) (tIfM tc t u) := by
  refine ⟨fun pins s σ H D I h => ?_⟩
  obtain ⟨M, h0, h1, h2⟩ := h
  refine wpAny_If (thn (hc.run pins s σ H M I h0) fun d s1 hh => ?_)
  obtain ⟨H1, I1, q1⟩ := hh
  cases d with
  | true => exact ha.run pins s1 σ H1 D I1 (h1 H1 q1)
  | false => exact hb.run pins s1 σ H1 D I1 (h2 H1 q1)
def spName (K : PySem.W.Frag) : Sp := fun vs H Q _ => ∃ (p pl : Addr) (ks : List Str), vs = [.ref p, .ref pl] ∧ PurseAt H p ∧ H pl = some (.lst (ks.map V.str)) ∧ (∀ k ∈ ks, GK k) ∧ ks.length ≤ 70 ∧ ∀ (k : Str) H', GK k → PurseAt H' p → Fr [p] H H' → Q (.str k) H'
theorem flat_strs (ks : List Str) : (ks.map V.str).all flatV = true := List.all_eq_true.mpr fun x hx => by
  obtain ⟨k, _, rfl⟩ := List.mem_map.mp hx
  rfl
theorem scLawName : FnScope ["_law_purse_here", "_law_pool_here", "_law_signs", "_law_way", "_law_text", "_law_sign", "_law_place", "_law_number", "_law_size", "_law_k"] ["_law_purse_here", "_law_pool_here"] (defScope sLawName) := ⟨rfl, rfl, rfl, by decide +kernel, rfl, by decide +kernel, by decide +kernel⟩
theorem Tx.kLawName {K : PySem.W.Frag} {mg : Str → Option Value} (T : Tx K mg) : PySem.W.keepIn K (.ref (He.ga K "_law_name")) = true := let ⟨_, F⟩ := T.fsLawName; F.kp
theorem r_law_name {w : World} {K : PySem.W.Frag} {mg : Str → Option Value} {base : Heap} (T : Tx K mg) : FnR pg w K mg base (L2.CX pg w) 3 (He.ga K "_law_name") (spName K) := by
  obtain ⟨fd, F⟩ := T.fsLawName
  refine mkR F scLawName (F.bindsN fun _ _ _ _ _ _ us hl => match us, hl with | [_, _], _ => rfl) (fun vs H Q E h => ?_) (fun cdv A outer s H vs Q E hr h => ?_)
  · obtain ⟨p, pl, ks, rfl, hp, hpl, hks, h70, q⟩ := h
    rfl
  · obtain ⟨p, pl, ks, rfl, hp, hpl, hks, h70, q⟩ := h
    refine ⟨_, PSs.nox (pss_cons (ps_set (i := 2) scLawName.nd rfl (by first | exact .inl rfl | exact .inr rfl) pe_str)
      (pss_cons (ps_set (i := 3) scLawName.nd rfl (by first | exact .inl rfl | exact .inr rfl) (pe_F (r_law_take T) (hr.mono (by decide)) T.g_law_take T.kLawTake takes0 (pa_cons (pv 0) (pa_cons pe_int pa_nil))))
      (pss_cons (ps_set (i := 4) scLawName.nd rfl (by first | exact .inl rfl | exact .inr rfl) pe_str)
      (Evl.pss_cut (ps_ifM (PW.pt (pw_and (pt_cmpR op_gt (pv 3) pe_int (nomark _)) (pw_and1 (pt_cmpR op_gt (pe_callB call_len_seq (by rfl) T.n_len PySem.boot_len (pa_cons (pv 1) pa_nil)) pe_int (nomark _))))) (pss_cons (ps_set (i := 4) scLawName.nd rfl (by first | exact .inl rfl | exact .inr rfl) (pe_ix ix_list (pv 1) (pe_F (r_law_take T) (hr.mono (by decide)) T.g_law_take T.kLawTake takes0 (pa_cons (pv 0) (pa_cons (pe_callB call_len_seq (by rfl) T.n_len PySem.boot_len (pa_cons (pv 1) pa_nil)) pa_nil))) (fun _ _ => rfl)))
      (pss_cons (ps_set (i := 5) scLawName.nd rfl (by first | exact .inl rfl | exact .inr rfl) (pe_ix ix_str (pv 2) (pe_F (r_law_take T) (hr.mono (by decide)) T.g_law_take T.kLawTake takes0 (pa_cons (pv 0) (pa_cons pe_int pa_nil))) (fun _ _ => rfl)))
      (pss_cons (ps_set (i := 6) scLawName.nd rfl (by first | exact .inl rfl | exact .inr rfl) (pe_F (r_law_take T) (hr.mono (by decide)) T.g_law_take T.kLawTake takes0 (pa_cons (pv 0) (pa_cons (pe_callB call_len (by rfl) T.n_len PySem.boot_len (pa_cons (pv 4) pa_nil)) pa_nil))))
      (pss_one (ps_if (pt_cmpR op_eq (pv 3) pe_int (nomark _)) (pss_one (ps_set (i := 4) scLawName.nd rfl (by first | exact .inl rfl | exact .inr rfl) (pe_op op_add_str (pe_op op_add_str (pe_slice sl_str (pv 4) po_none (po_some (pv 6))) (pv 5)) (pe_slice sl_str (pv 4) (po_some (pe_op op_add (pv 6) pe_int)) po_none)))) (pss_one (ps_set (i := 4) scLawName.nd rfl (by first | exact .inl rfl | exact .inr rfl) (pe_slice sl_str (pe_op op_add_str (pe_op op_add_str (pe_slice sl_str (pv 4) po_none (po_some (pv 6))) (pv 5)) (pe_slice sl_str (pv 4) (po_some (pv 6)) po_none)) po_none (po_some pe_int))))))))) (pss_cons (ps_set (i := 7) scLawName.nd rfl (by first | exact .inl rfl | exact .inr rfl) (pe_F (r_law_take T) (hr.mono (by decide)) T.g_law_take T.kLawTake takes0 (pa_cons (pv 0) (pa_cons (pe_op op_mul pe_int (pe_op op_pow pe_int pe_int)) pa_nil))))
      (pss_cons (ps_set (i := 8) scLawName.nd rfl (by first | exact .inl rfl | exact .inr rfl) (pe_op op_add pe_int (pe_op op_mod (pe_callTy call_int1 (by rfl) T.n_int (by decide +kernel) (pa_cons (pv 7) pa_nil)) pe_int)))
      (Evl.pss_cut (ps_if (PW.pt (pw_and (pt_cmpR op_eq (pe_callB call_len_seq (by rfl) T.n_len PySem.boot_len (pa_cons (pv 1) pa_nil)) pe_int (nomark _)) (pw_and1 (pt_cmpR op_lt (pv 3) pe_int (nomark _))))) (pss_one (ps_set (i := 8) scLawName.nd rfl (by first | exact .inl rfl | exact .inr rfl) (pe_op op_add pe_int (pe_op op_mul pe_int (pv 3))))) pss_nil)
      (pss_cons (ps_set (i := 7) scLawName.nd rfl (by first | exact .inl rfl | exact .inr rfl) (pe_op op_fdiv (pv 7) pe_int))
      (pss_one (ps_for PassesOwn.never rfl (pi_range1 (by rfl) T.n_range (pa_cons (pv 8) pa_nil)) (pg_name (i := 9) scLawName.nd rfl (by first | exact .inl rfl | exact .inr rfl)) (pss_cons (ps_set (i := 4) scLawName.nd rfl (by first | exact .inl rfl | exact .inr rfl) (pe_op op_add_str (pv 4) (pe_ix ix_str (pv 2) (pe_op op_mod (pe_callTy call_int1 (by rfl) T.n_int (by decide +kernel) (pa_cons (pv 7) pa_nil)) pe_int) (fun _ _ => rfl))))
      (pss_one (ps_set (i := 7) scLawName.nd rfl (by first | exact .inl rfl | exact .inr rfl) (pe_op op_fdiv (pv 7) pe_int)))))))))))
      (Evl.pss_cut (ps_for PassesOwn.never rfl (pi_range1 (by rfl) T.n_range (pa_cons (pe_op op_add (pe_callB call_len_seq (by rfl) T.n_len PySem.boot_len (pa_cons (pv 1) pa_nil)) pe_int) pa_nil)) (pg_name (i := 9) scLawName.nd rfl (by first | exact .inl rfl | exact .inr rfl)) (Evl.pss_cut (ps_if (pt_cmpR op_notIn_seq (pv 4) (pv 1) (by rfl)) (pss_one (ps_ret (pv 4))) pss_nil)
      (pss_one (ps_set (i := 4) scLawName.nd rfl (by first | exact .inl rfl | exact .inr rfl) (pe_op op_add_str pe_str (pe_callTy call_str_int (by rfl) T.n_str (by decide +kernel) (pa_cons (pv 9) pa_nil)))))))
      (pss_one (ps_ret (pv 4)))))))), ?_⟩
    have plp : pl ≠ p := by
      obtain ⟨l, m, z, e⟩ := hp
      intro h
      rw [h, e] at hpl
      have z2 := Option.some.inj hpl
      injection z2 with z2
      cases ks with
      | nil => cases z2
      | cons a r =>
        injection z2 with z3
        cases z3
    refine ⟨_, rfl, p, 4, rfl, hp, pos_small (by decide) (by decide), fun way H1 w0 w1 a1 f1 => ?_⟩
    have pl1 := f1 pl _ (by simpa using plp) hpl
    refine ⟨fun σ' H2 => (∃ (k : Str) (y5 y6 y7 y8 y9 : Option V), σ' = [some (.ref p), some (.ref pl), some (.str signs), some (.int way), some (.str k), y5, y6, y7, y8, y9] ∧ GK k) ∧ PurseAt H2 p ∧ Fr [p] H H2, ?_, ?_⟩
    · refine ⟨fun b H2 => H2 = H1 ∧ (b = true → (1 : Int) < way ∧ 0 < ks.length), ?_, ?_, ?_⟩
      · refine ⟨_, rfl, way, 1, rfl, rfl, _, rfl, ?_⟩
        refine ite2 (fun h1 => ?_) (fun _ => ⟨rfl, fun h => (by cases h)⟩)
        refine ⟨_, rfl, pl, _, rfl, .inl (SqL.of pl1), _, 0, rfl, rfl, _, rfl, rfl, fun h => ⟨of_decide_eq_true h1, ?_⟩⟩
        have := of_decide_eq_true h
        rw [List.length_map] at this
        omega
      · rintro _ ⟨rfl, hc⟩
        have hc := hc rfl
        refine ⟨_, rfl, _, rfl, _, rfl, pl, _, rfl, .inl (SqL.of pl1), p, ((ks.map V.str).length : Nat), rfl, a1, pos_small (by rw [List.length_map]; omega) (by rw [List.length_map]; omega), fun d2 H2 d20 d21 a2 f2 => ?_⟩
        rw [List.length_map] at d21
        obtain ⟨k0, hk0⟩ := get_of (xs := ks) (i := d2.toNat) (by omega)
        have gk0 := hks k0 (List.mem_of_getElem? hk0)
        have pl2 := f2 pl _ (by simpa using plp) pl1
        refine ⟨pl, _, d2, .str k0, rfl, rfl, SqL.of pl2, ?_, ?_⟩
        · have := atI_nat (xs := ks.map V.str) (j := d2.toNat) (v := .str k0) (by rw [List.getElem?_map, hk0]; rfl)
          rw [Int.toNat_of_nonneg d20] at this
          exact this
        refine ⟨_, rfl, _, rfl, p, 36, rfl, a2, pos_small (by decide) (by decide), fun d3 H3 d30 d31 a3 f3 => ?_⟩
        obtain ⟨c, hc1, hc2⟩ := sign_at d30 d31
        refine ⟨signs, d3, c, rfl, rfl, signs_line, hc1, ?_⟩
        refine ⟨_, rfl, _, rfl, .str k0, _, rfl, ⟨gk0.line, rfl⟩, p, (k0.length : Nat), rfl, a3, pos_small (by have := gk0.1; omega) (by have := gk0.2.1; omega), fun d4 H4 d40 d41 a4 f4 => ?_⟩
        obtain ⟨j, rfl⟩ : ∃ j : Nat, d4 = (j : Int) := ⟨d4.toNat, (Int.toNat_of_nonneg d40).symm⟩
        have jl : j < k0.length := by omega
        have g1 := gk0.1
        have g2 := gk0.2.1
        have F := Fr.trans f1 (Fr.trans f2 (Fr.trans f3 f4))
        have one : (⟨#[c]⟩ : Str).length = 1 := rfl
        have big : (1000 : Nat) ≤ sizeLine := by decide
        refine ⟨_, rfl, rfl, _, rfl, ?_⟩
        refine ite2 (fun _ => ?_) (fun _ => ?_)
        · have e1 := cutS_to_len k0 j
          have e2 := cutS_from_len k0 (j + 1)
          have l1 : (cutS k0 none (some (j : Int)) ++ ⟨#[c]⟩).length = j + 1 := by rw [strLen_append, e1, one]; omega
          refine ⟨_, rfl, _, rfl, (j : Int), rfl, k0, rfl, gk0.line, _, rfl, _, _, rfl, rfl, by rw [e1, one]; omega, _, rfl, _, rfl, _, _, rfl, rfl, _, rfl, k0, rfl, gk0.line, _, _, rfl, rfl, ?_, ?_⟩
          · rw [l1]
            show j + 1 + (cutS k0 (some ((j + 1 : Nat) : Int)) none).length ≤ sizeLine
            rw [e2]
            omega
          · refine ⟨⟨_, _, _, _, _, _, rfl, ?_⟩, a4, F⟩
            refine ⟨?_, ?_, (CH.app (CH.app (gk0.ch.cut _ _) (.one hc2)) (gk0.ch.cut _ _))⟩
            · rw [strLen_append, l1]
              omega
            · show ((cutS k0 none (some (j : Int)) ++ ⟨#[c]⟩) ++ cutS k0 (some ((j + 1 : Nat) : Int)) none).length ≤ 12
              rw [strLen_append, l1, e2]
              omega
        · have e1 := cutS_to_len k0 j
          have e2 := cutS_from_len k0 j
          have l1 : (cutS k0 none (some (j : Int)) ++ ⟨#[c]⟩).length = j + 1 := by rw [strLen_append, e1, one]; omega
          have l2 : ((cutS k0 none (some (j : Int)) ++ ⟨#[c]⟩) ++ cutS k0 (some (j : Int)) none).length = k0.length + 1 := by rw [strLen_append, l1, e2]; omega
          refine ⟨_, rfl, _, rfl, (j : Int), rfl, k0, rfl, gk0.line, _, rfl, _, _, rfl, rfl, by rw [e1, one]; omega, _, rfl, _, rfl, (j : Int), rfl, k0, rfl, gk0.line, _, _, rfl, rfl, by rw [l1, e2]; omega, 12, rfl, _, rfl, by rw [l2]; omega, ?_⟩
          have l3 := cutS_to_len ((cutS k0 none (some (j : Int)) ++ ⟨#[c]⟩) ++ cutS k0 (some (j : Int)) none) 12
          rw [l2] at l3
          refine ⟨⟨_, _, _, _, _, _, rfl, ?_⟩, a4, F⟩
          refine ⟨?_, ?_, (CH.app (CH.app (gk0.ch.cut _ _) (.one hc2)) (gk0.ch.cut _ _)).cut _ _⟩
          · show 1 ≤ (cutS _ none (some ((12 : Nat) : Int))).length
            rw [l3]
            omega
          · show (cutS _ none (some ((12 : Nat) : Int))).length ≤ 12
            rw [l3]
            omega
      · rintro _ ⟨rfl, _⟩
        have e36 : ((36 : Int) ^ (12 : Int).toNat) = 4738381338321616896 := by decide
        refine ⟨_, rfl, 36, 12, rfl, rfl, ⟨by decide, by decide, by decide⟩, 12, _, rfl, rfl, .inl ⟨by decide, by decide⟩, p, _, rfl, a1, ⟨by rw [e36]; decide, by rw [e36]; decide⟩, fun d2 H2 d20 d21 a2 f2 => ?_⟩
        have F2 := Fr.trans f1 f2
        have pl2 := f2 pl _ (by simpa using plp) pl1
        refine ⟨_, rfl, .inl ⟨_, rfl, d2, 12, rfl, rfl, (by show (0 : Int) < 12; decide), 1, _, rfl, rfl, ?_⟩⟩
        have m0 := Int.emod_nonneg d2 (show (12 : Int) ≠ 0 by decide)
        have m1 := Int.emod_lt_of_pos d2 (show (0 : Int) < 12 by decide)
        refine ⟨fun σ' H3 => (∃ s : Nat, σ' = [some (.ref p), some (.ref pl), some (.str signs), some (.int way), some (.str Str.empty), none, none, some (.int d2), some (.int s), none] ∧ 1 ≤ s ∧ s ≤ 12) ∧ H3 = H2, ?_, ?_⟩
        · have stay : (∃ s : Nat, ([some (.ref p), some (.ref pl), some (.str signs), some (.int way), some (.str Str.empty), none, none, some (.int d2), some (.int (1 + d2 % 12)), none] : L2.St) = [some (.ref p), some (.ref pl), some (.str signs), some (.int way), some (.str Str.empty), none, none, some (.int d2), some (.int s), none] ∧ 1 ≤ s ∧ s ≤ 12) ∧ H2 = H2 :=
            ⟨⟨(1 + d2 % 12).toNat, by rw [show (((1 + d2 % 12).toNat : Nat) : Int) = 1 + d2 % 12 by omega], by omega, by omega⟩, rfl⟩
          refine ⟨_, rfl, pl, _, rfl, .inl (SqL.of pl2), rfl, _, rfl, ?_⟩
          refine ite2 (fun _ => ?_) (fun _ => ?_)
          · refine ⟨_, rfl, way, 2, rfl, rfl, _, rfl, ?_⟩
            refine ite2 (fun hw => ?_) (fun _ => ?_)
            · have hw2 : way < 2 := of_decide_eq_true hw
              refine ⟨_, rfl, 11, way, rfl, rfl, .inl ⟨by decide, by decide⟩, 1, _, rfl, rfl, ⟨(1 + 11 * way).toNat, ?_, by omega, by omega⟩, rfl⟩
              rw [show (((1 + 11 * way).toNat : Nat) : Int) = 1 + 11 * way by omega]
              rfl
            · exact stay
          · exact iteF stay
        rintro σ' H3 ⟨⟨s, rfl, s1, s12⟩, rfl⟩
        refine ⟨_, rfl, d2, 12, rfl, rfl, ⟨by decide, by decide⟩, ?_⟩
        refine ⟨_, rfl, s, rfl, by omega, by omega, ?_⟩
        rw [Int.toNat_natCast]
        refine for_range (n := s) (fun i σ' H4 => (∃ (k : Str) (m : Int) (y9 : Option V), σ' = [some (.ref p), some (.ref pl), some (.str signs), some (.int way), some (.str k), none, none, some (.int m), some (.int s), y9] ∧ k.length = i ∧ CH k) ∧ H4 = H3) ⟨⟨_, _, _, rfl, rfl, CH.nil⟩, rfl⟩ (fun i σ' H4 hi h => ?_) (fun σ' H4 h => ?_)
        · obtain ⟨⟨k, m, y9, rfl, kl, kc⟩, rfl⟩ := h
          obtain ⟨c, hc1, hc2⟩ := sign_at (Int.emod_nonneg m (show (36 : Int) ≠ 0 by decide)) (Int.emod_lt_of_pos m (show (0 : Int) < 36 by decide))
          have one : (⟨#[c]⟩ : Str).length = 1 := rfl
          have big : (1000 : Nat) ≤ sizeLine := by decide
          refine ⟨_, rfl, _, rfl, _, rfl, .inl ⟨_, rfl, m, 36, rfl, rfl, (by show (0 : Int) < 36; decide), signs, _, c, rfl, rfl, signs_line, hc1, _, _, rfl, rfl, by rw [one]; omega, _, rfl, m, 36, rfl, rfl, ⟨by decide, by decide⟩, ⟨_, _, _, rfl, ?_, kc.app (.one hc2)⟩, rfl⟩⟩
          rw [strLen_append, one, kl]
        · obtain ⟨⟨k, m, y9, rfl, kl, kc⟩, rfl⟩ := h
          exact ⟨⟨k, _, _, _, _, _, rfl, by omega, by omega, kc⟩, a2, F2⟩
    rintro σ' H2 ⟨⟨k, y5, y6, y7, y8, y9, rfl, gk⟩, a2, f2⟩
    have pl2 := f2 pl _ (by simpa using plp) hpl
    refine ⟨fun σ' H3 => (∃ (k : Str) (y5 y6 y7 y8 y9 : Option V), σ' = [some (.ref p), some (.ref pl), some (.str signs), some (.int way), some (.str k), y5, y6, y7, y8, y9] ∧ GK k) ∧ PurseAt H3 p ∧ Fr [p] H H3, ?_, ?_⟩
    · refine ⟨_, rfl, pl, _, rfl, .inl (SqL.of pl2), _, 1, rfl, rfl, ((ks.length + 1 : Nat) : Int), ?_, by omega, by omega, ?_⟩
      · rw [List.length_map]
        rfl
      rw [Int.toNat_natCast]
      refine for_range (n := ks.length + 1) (fun i σ' H3 => (∃ (k : Str) (y5 y6 y7 y8 y9 : Option V), σ' = [some (.ref p), some (.ref pl), some (.str signs), some (.int way), some (.str k), y5, y6, y7, y8, y9] ∧ GK k) ∧ H3 = H2) ⟨⟨k, _, _, _, _, _, rfl, gk⟩, rfl⟩ (fun i σ' H3 hi h => ?_) (fun σ' H3 h => ?_)
      · obtain ⟨⟨k, y5, y6, y7, y8, y9, rfl, gk⟩, rfl⟩ := h
        refine ⟨fun σ' H4 => σ' = [some (.ref p), some (.ref pl), some (.str signs), some (.int way), some (.str k), y5, y6, y7, y8, some (.int (0 + (i : Nat)))] ∧ H4 = H3, ?_, ?_⟩
        · refine ⟨_, rfl, _, rfl, pl, _, rfl, .inl (SqL.of pl2), rfl, flat_strs ks, _, rfl, ?_⟩
          refine ite2 (fun _ => ?_) (fun _ => ⟨rfl, rfl⟩)
          exact ⟨_, rfl, q k _ gk a2 f2⟩
        rintro σ' H4 ⟨rfl, rfl⟩
        have i80 : i < 80 := by omega
        have ei : (0 + (i : Nat) : Int) = ((i : Nat) : Int) := Int.zero_add _
        have k2 := kk_ok i80
        refine ⟨_, rfl, _, rfl, ?_, _, _, rfl, rfl, ?_, ⟨_, _, _, _, _, _, rfl, ?_⟩, rfl⟩
        · rw [ei, Int.natAbs_natCast]
          exact small_int (i := (i : Int)) (by rw [Int.natAbs_natCast]; exact Nat.lt_trans i80 (by decide))
        · have big : (1000 : Nat) ≤ sizeLine := by decide
          have := k2.2.1
          rw [strLen_append] at this
          rw [ei]
          omega
        · rw [ei]
          exact k2
      · obtain ⟨⟨k, y5, y6, y7, y8, y9, rfl, gk⟩, rfl⟩ := h
        exact ⟨⟨k, _, _, _, _, _, rfl, gk⟩, a2, f2⟩
    rintro σ' H3 ⟨⟨k, y5, y6, y7, y8, y9, rfl, gk⟩, a3, f3⟩
    exact ⟨_, rfl, q k _ gk a3 f3⟩
def spPool (K : PySem.W.Frag) : Sp := fun vs H Q _ => ∃ (p : Addr) (n : Nat), vs = [.ref p, .int n] ∧ PurseAt H p ∧ n ≤ 70 ∧ ∀ (pl : Addr) (ks : List Str) H', H pl = none → H' pl = some (.lst (ks.map V.str)) → ks.length = n → (∀ k ∈ ks, GK k) → PurseAt H' p → Fr [p] H H' → Q (.ref pl) H'
theorem scLawPool : FnScope ["_law_purse_here", "_law_many", "_law_pool_here", "_law_k"] ["_law_purse_here", "_law_many"] (defScope sLawPool) := ⟨rfl, rfl, rfl, by decide +kernel, rfl, by decide +kernel, by decide +kernel⟩
theorem Tx.kLawPool {K : PySem.W.Frag} {mg : Str → Option Value} (T : Tx K mg) : PySem.W.keepIn K (.ref (He.ga K "_law_pool")) = true := let ⟨_, F⟩ := T.fsLawPool; F.kp
theorem r_law_pool {w : World} {K : PySem.W.Frag} {mg : Str → Option Value} {base : Heap} (T : Tx K mg) : FnR pg w K mg base (L2.CX pg w) 4 (He.ga K "_law_pool") (spPool K) := by
  obtain ⟨fd, F⟩ := T.fsLawPool
  refine mkR F scLawPool (F.bindsN fun _ _ _ _ _ _ us hl => match us, hl with | [_, _], _ => rfl) (fun vs H Q E h => ?_) (fun cdv A outer s H vs Q E hr h => ?_)
  · obtain ⟨p, n, rfl, hp, h70, q⟩ := h
    rfl
  · obtain ⟨p, n, rfl, hp, h70, q⟩ := h
    refine ⟨_, PSs.nox (pss_cons (ps_set (i := 2) scLawPool.nd rfl (by first | exact .inl rfl | exact .inr rfl) (pe_lst pa_nil))
      (pss_cons (ps_for PassesOwn.never rfl (pi_range1 (by rfl) T.n_range (pa_cons (pv 1) pa_nil)) (pg_name (i := 3) scLawPool.nd rfl (by first | exact .inl rfl | exact .inr rfl)) (pss_one (ps_expr (pe_bm PySem.F.plainAttrs_list PySem.F.slot_list_append PySem.F.type_list_append mt_append (pv 2) (pa_cons (pe_F (r_law_name T) (hr.mono (by decide)) T.g_law_name T.kLawName takes0 (pa_cons (pv 0) (pa_cons (pv 2) pa_nil))) pa_nil)))))
      (pss_one (ps_ret (pv 2))))), ?_⟩
    refine ⟨Nat.zero_le _, fun pl npl => ?_⟩
    obtain ⟨pl0, pm0, pz0, hp0⟩ := id hp
    have plp : pl ≠ p := (ne_of_none hp0 npl).symm
    refine ⟨_, rfl, n, rfl, by omega, by omega, ?_⟩
    rw [Int.toNat_natCast]
    refine for_range (n := n) (fun i σ' H' => ∃ (ks : List Str) (y3 : Option V), σ' = [some (.ref p), some (.int n), some (.ref pl), y3] ∧ ks.length = i ∧ (∀ k ∈ ks, GK k) ∧ H' pl = some (.lst (ks.map V.str)) ∧ PurseAt H' p ∧ Fr [p] H H') ⟨[], none, rfl, rfl, (fun k hk => by cases hk), upd_same, hp.same (same_upd npl), .of_same (same_upd npl)⟩ (fun i σ' H' hi h => ?_) (fun σ' H' h => ?_)
    · obtain ⟨ks, y3, rfl, hl, hks, h1, a1, f1⟩ := h
      refine ⟨_, rfl, .inl ⟨rfl, _, SqL.of h1⟩, _, rfl, _, rfl, p, pl, ks, rfl, a1, h1, hks, by omega, fun k H2 gk a2 f2 => ?_⟩
      have h2 := f2 pl _ (by simpa using plp) h1
      refine ⟨pl, _, _, rfl, rfl, h2, ?_, ks ++ [k], _, rfl, ?_, ?_, ?_, ?_, ?_⟩
      · rw [List.length_map]
        exact small1000 (by omega)
      · rw [List.length_append, hl]
        rfl
      · intro x hx
        rcases List.mem_append.mp hx with hx | hx
        · exact hks x hx
        · rw [List.mem_singleton.mp hx]
          exact gk
      · rw [upd_same, List.map_append]
        rfl
      · obtain ⟨l, m, z, e⟩ := a2
        exact ⟨l, m, z, by rw [upd_ne plp.symm]; exact e⟩
      · intro b o nb e
        rw [upd_ne (ne_of_none e npl)]
        exact f2 b o nb (f1 b o nb e)
    · obtain ⟨ks, y3, rfl, hl, hks, h1, a1, f1⟩ := h
      exact ⟨_, rfl, q pl ks H' npl h1 hl hks a1 f1⟩
end K12

set_option Elab.async false
set_option linter.all false
set_option maxRecDepth 100000
set_option maxHeartbeats 4000000
namespace K12
open PySem PySem.Spec PyProof.Rows L2
/-! ## the law's log: trimmed, moved, ahead -/
theorem trim_dropAt {L : Log} {i : Nat} (h : ∀ j e, j < i → L[j]? = some e → e.2.isSome = false) (hi : i ≤ L.length) : trim (L.drop i) = trim L := by
  induction i with
  | zero => rfl
  | succ i ih =>
    have ih' := ih (fun j e hj => h j e (by omega)) (by omega)
    obtain ⟨e, he⟩ := get_of (xs := L) (i := i) (by omega)
    have := trim_at he
    rw [h i e (by omega) he] at this
    rw [← ih', this]
    rfl
def spTrimmed (K : PySem.W.Frag) : Sp := fun vs H Q _ => ∃ (c : Addr) (L : Log), vs = [.ref c] ∧ ChainAt H c L ∧ L.length ≤ 1000 ∧ ∀ H' c', Same H H' → ChainAt H' c' (trim L) → Q (.ref c') H'
theorem scLawTrimmed : FnScope ["_law_chain", "_law_k"] ["_law_chain"] (defScope sLawTrimmed) := ⟨rfl, rfl, rfl, by decide +kernel, rfl, by decide +kernel, by decide +kernel⟩
theorem Tx.kLawTrimmed {K : PySem.W.Frag} {mg : Str → Option Value} (T : Tx K mg) : PySem.W.keepIn K (.ref (He.ga K "_law_trimmed")) = true := let ⟨_, F⟩ := T.fsLawTrimmed; F.kp
theorem r_law_trimmed {w : World} {K : PySem.W.Frag} {mg : Str → Option Value} {base : Heap} (T : Tx K mg) : FnR pg w K mg base (L2.CX pg w) 1 (He.ga K "_law_trimmed") (spTrimmed K) := by
  obtain ⟨fd, F⟩ := T.fsLawTrimmed
  refine mkR F scLawTrimmed (F.bindsN fun _ _ _ _ _ _ us hl => match us, hl with | [_], _ => rfl) (fun vs H Q E h => ?_) (fun cdv A outer s H vs Q E hr h => ?_)
  · obtain ⟨c, L, rfl, ⟨xs, h1, hp⟩, h1000, q⟩ := h
    rfl
  · obtain ⟨c, L, rfl, ⟨xs, h1, hp⟩, h1000, q⟩ := h
    refine ⟨_, PSs.nox (pss_cons (ps_for PassesOwn.never rfl (pi_range1 (by rfl) T.n_range (pa_cons (pe_callB call_len_seq (by rfl) T.n_len PySem.boot_len (pa_cons (pv 0) pa_nil)) pa_nil)) (pg_name (i := 1) scLawTrimmed.nd rfl (by first | exact .inl rfl | exact .inr rfl)) (pss_one (ps_if (pt_val (pe_ix ix_tup (pe_ix ix_list (pv 0) (pv 1) (fun _ _ => rfl)) pe_int (fun _ _ => rfl))) (pss_one (ps_ret (pe_slice sl_list (pv 0) (po_some (pv 1)) po_none))) pss_nil)))
      (pss_one (ps_ret (pe_lst pa_nil)))), ?_⟩
    have hl := p_len hp
    refine ⟨_, rfl, c, _, rfl, .inl (SqL.of h1), (xs.length : Nat), rfl, by omega, by omega, ?_⟩
    rw [Int.toNat_natCast]
    refine for_range (n := xs.length) (fun i σ' H' => (∃ y, σ' = [some (.ref c), y]) ∧ H' = H ∧ i ≤ xs.length ∧ ∀ j e, j < i → L[j]? = some e → e.2.isSome = false) ⟨⟨_, rfl⟩, rfl, Nat.zero_le _, fun j e hj => absurd hj (Nat.not_lt_zero _)⟩ (fun i σ' H' hi h => ?_) (fun σ' H' h => ?_)
    · obtain ⟨⟨y, rfl⟩, rfl, _, hno⟩ := h
      obtain ⟨x, hx⟩ := get_of hi
      obtain ⟨en, hen, a, v, rfl, k1, k2⟩ := p_get hp hx
      have ei : (0 + (i : Nat) : Int) = ((i : Nat) : Int) := Int.zero_add _
      refine ⟨_, rfl, _, rfl, c, xs, _, _, rfl, rfl, SqL.of h1, (by rw [ei]; exact atI_nat hx), a, _, 2, _, rfl, rfl, SqT.of k1, rfl, _, rfl, ?_⟩
      refine ite2 (fun hb => ?_) (fun hb => ?_)
      · refine ⟨_, rfl, _, rfl, _, rfl, c, xs, rfl, SqL.of h1, fun c' n' => ?_⟩
        refine q _ c' (same_upd n') ⟨xs.drop i, by rw [upd_same, ei, cut_from], ?_⟩
        have e := trim_at hen
        rw [hb] at e
        have e2 := trim_dropAt hno (by omega)
        rw [← e2, e]
        exact p_mono (fun _ _ r => r.same (same_upd n')) (p_drop i hp)
      · refine ⟨⟨_, rfl⟩, rfl, hi, fun j e hj he => ?_⟩
        by_cases hji : j < i
        · exact hno j e hji he
        · obtain rfl : j = i := by omega
          rw [hen] at he
          rw [← Option.some.inj he]
          exact eq_false_of_ne_true hb
    · obtain ⟨⟨y, rfl⟩, rfl, _, hno⟩ := h
      refine ⟨Nat.zero_le _, fun c' n' => ?_⟩
      refine q _ c' (same_upd n') ⟨[], upd_same, ?_⟩
      have e2 := trim_dropAt (i := L.length) (fun j e hj => hno j e (by omega)) (Nat.le_refl _)
      rw [List.drop_eq_nil_of_le (Nat.le_refl _)] at e2
      rw [← e2]
      exact .nil
def spMoved (K : PySem.W.Frag) : Sp := fun vs H Q _ => ∃ (c : Addr) (sp n : Nat) (L : Log), vs = [.ref c, .int sp, .int n] ∧ ChainAt H c L ∧ L.length ≤ 900 ∧ n ≤ 1000 ∧
  ∀ H' t c', Same H H' → H' t = some (.tup [.ref c', .int ((carry sp n L).2 : Nat)]) → ChainAt H' c' (carry sp n L).1 → Q (.ref t) H'
theorem scLawMoved : FnScope ["_law_chain", "_law_span", "_law_tally_here", "_law_made", "_law_k"] ["_law_chain", "_law_span", "_law_tally_here"] (defScope sLawMoved) := ⟨rfl, rfl, rfl, by decide +kernel, rfl, by decide +kernel, by decide +kernel⟩
theorem Tx.kLawMoved {K : PySem.W.Frag} {mg : Str → Option Value} (T : Tx K mg) : PySem.W.keepIn K (.ref (He.ga K "_law_moved")) = true := let ⟨_, F⟩ := T.fsLawMoved; F.kp
theorem r_law_moved {w : World} {K : PySem.W.Frag} {mg : Str → Option Value} {base : Heap} (T : Tx K mg) : FnR pg w K mg base (L2.CX pg w) 2 (He.ga K "_law_moved") (spMoved K) := by
  obtain ⟨fd, F⟩ := T.fsLawMoved
  refine mkR F scLawMoved (F.bindsN fun _ _ _ _ _ _ us hl => match us, hl with | [_, _, _], _ => rfl) (fun vs H Q E h => ?_) (fun cdv A outer s H vs Q E hr h => ?_)
  · obtain ⟨c, sp, n, L, rfl, hc, h900, hn, q⟩ := h
    rfl
  · obtain ⟨c, sp, n, L, rfl, hc, h900, hn, q⟩ := h
    refine ⟨_, PSs.nox (pss_cons (ps_set (i := 3) scLawMoved.nd rfl (by first | exact .inl rfl | exact .inr rfl) pe_int)
      (pss_cons (ps_for PassesOwn.never rfl (pi_range1 (by rfl) T.n_range (pa_cons (pv 2) pa_nil)) (pg_name (i := 4) scLawMoved.nd rfl (by first | exact .inl rfl | exact .inr rfl)) (pss_cons (ps_if (PW.pt (pw_or (pt_cmpR op_eq (pe_callB call_len_seq (by rfl) T.n_len PySem.boot_len (pa_cons (pv 0) pa_nil)) pe_int (nomark _)) (pw_or1 (pt_cmpR op_ge (pe_callB call_len_seq (by rfl) T.n_len PySem.boot_len (pa_cons (pv 0) pa_nil)) (pv 1) (nomark _))))) (pss_one (ps_ret (pe_tup (pa_cons (pv 0) (pa_cons (pv 3) pa_nil))))) pss_nil)
      (pss_cons (ps_set (i := 0) scLawMoved.nd rfl (by first | exact .inl rfl | exact .inr rfl) (pe_F (r_law_trimmed T) (hr.mono (by decide)) T.g_law_trimmed T.kLawTrimmed takes0 (pa_cons (pe_op op_cat (pe_slice sl_list (pv 0) (po_some pe_int) po_none) (pe_slice sl_list (pv 0) po_none (po_some pe_int))) pa_nil)))
      (pss_one (ps_set (i := 3) scLawMoved.nd rfl (by first | exact .inl rfl | exact .inr rfl) (pe_op op_add (pv 3) pe_int))))))
      (pss_one (ps_ret (pe_tup (pa_cons (pv 0) (pa_cons (pv 3) pa_nil))))))), ?_⟩
    refine ⟨_, rfl, n, rfl, by omega, by omega, ?_⟩
    rw [Int.toNat_natCast]
    refine for_range (n := n) (fun i σ' H' => ∃ (c1 : Addr) (M : Log) (y : Option V), σ' = [some (.ref c1), some (.int sp), some (.int n), some (.int i), y] ∧ Same H H' ∧ ChainAt H' c1 M ∧ M.length ≤ 900 ∧ i ≤ n ∧ carry sp n L = ((carry sp (n - i) M).1, (carry sp (n - i) M).2 + i))
      ⟨c, L, none, rfl, .refl _, hc, h900, Nat.zero_le _, rfl⟩ (fun i σ' H' hi h => ?_) (fun σ' H' h => ?_)
    · obtain ⟨c1, M, y, rfl, sm, ⟨xs, h1, hp⟩, hM, _, hcar⟩ := h
      have hl := p_len hp
      obtain ⟨m, hm⟩ : ∃ m, n - i = m + 1 := ⟨n - i - 1, by omega⟩
      rw [hm] at hcar
      have stop : (M.length = 0 ∨ sp ≤ M.length) → ∀ (t : Addr), H' t = none → Q (.ref t) (upd H' t (.tup [.ref c1, .int ((i : Nat) : Int)])) := fun h t nt => by
        have e : carry sp (m + 1) M = (M, 0) := by
          show (if _ then _ else _) = _
          rw [if_pos h]
        rw [e] at hcar
        refine q _ t c1 (Same.trans sm (same_upd nt)) ?_ ?_
        · rw [upd_same, hcar]
          show some (HO.tup [.ref c1, .int ((i : Nat) : Int)]) = some (HO.tup [.ref c1, .int ((0 + i : Nat) : Int)])
          rw [Nat.zero_add]
        · rw [hcar]
          exact ChainAt.same (same_upd nt) ⟨xs, h1, hp⟩
      refine ⟨_, rfl, c1, xs, rfl, .inl (SqL.of h1), rfl, _, rfl, ?_⟩
      by_cases h0 : M.length = 0
      · rw [decide_eq_true (show V.int ((xs.length : Nat) : Int) = V.int 0 by rw [hl, h0]; rfl)]
        refine iteT (iteT ?_)
        exact ⟨_, rfl, _, rfl, (by show 2 ≤ sizeLine; decide), fun t nt => stop (.inl h0) t nt⟩
      · rw [decide_eq_false (show ¬ V.int ((xs.length : Nat) : Int) = V.int 0 by intro z; injection z with z; omega)]
        refine iteF ?_
        refine ⟨_, rfl, c1, xs, rfl, .inl (SqL.of h1), _, rfl, _, _, rfl, rfl, _, rfl, ?_⟩
        by_cases hs : sp ≤ M.length
        · rw [decide_eq_true (show ((sp : Nat) : Int) ≤ ((xs.length : Nat) : Int) by omega)]
          refine iteT ?_
          exact ⟨_, rfl, _, rfl, (by show 2 ≤ sizeLine; decide), fun t nt => stop (.inr hs) t nt⟩
        · rw [decide_eq_false (show ¬ ((sp : Nat) : Int) ≤ ((xs.length : Nat) : Int) by omega)]
          refine iteF ?_
          have hstep : carry sp (m + 1) M = ((carry sp m (rot M)).1, (carry sp m (rot M)).2 + 1) := by
            show (if _ then _ else _) = _
            rw [if_neg (by omega)]
          refine ⟨_, rfl, 1, rfl, c1, xs, rfl, SqL.of h1, fun a na => ⟨_, rfl, 1, rfl, c1, xs, rfl, SqL.of (same_upd na _ _ h1), fun b nb => ?_⟩⟩
          have ab : a ≠ b := fun z => by rw [← z, upd_same] at nb; cases nb
          refine ⟨a, b, xs.drop 1, xs.take 1, rfl, rfl, (by rw [upd_ne ab, upd_same]; rw [show (1 : Int) = ((1 : Nat) : Int) from rfl, cut_from]), (by rw [upd_same, show (1 : Int) = ((1 : Nat) : Int) from rfl, cut_to]), ?_, fun d nd => ?_⟩
          · have : (1000 : Nat) ≤ sizeLine := by decide
            rw [List.length_drop, List.length_take]
            omega
          have s3 := fun z : HO => Same.trans (same_upd na) (Same.trans (same_upd nb) (same_upd (o := z) nd))
          refine ⟨d, M.drop 1 ++ M.take 1, rfl, ⟨xs.drop 1 ++ xs.take 1, upd_same, p_app (p_mono (fun _ _ r => r.same (s3 _)) (p_drop 1 hp)) (p_mono (fun _ _ r => r.same (s3 _)) (p_take 1 hp))⟩, ?_, fun H2 c2 s4 hc2 => ⟨_, rfl, _, _, rfl, rfl, ?_⟩⟩
          · rw [List.length_append, List.length_drop, List.length_take]
            omega
          refine ⟨c2, rot M, _, rfl, Same.trans sm (Same.trans (s3 _) s4), hc2, Nat.le_trans (rot_len M) hM, hi, ?_⟩
          rw [hcar, hstep, show n - (i + 1) = m by omega]
          exact Prod.ext rfl (by show _ + 1 + i = _ + (i + 1); omega)
    · obtain ⟨c1, M, y, rfl, sm, hcM, hM, _, hcar⟩ := h
      rw [Nat.sub_self] at hcar
      refine ⟨_, rfl, _, rfl, (by show 2 ≤ sizeLine; decide), fun t nt => ?_⟩
      refine q _ t c1 (Same.trans sm (same_upd nt)) ?_ ?_
      · rw [upd_same, hcar]
        show some (HO.tup [.ref c1, .int ((n : Nat) : Int)]) = some (HO.tup [.ref c1, .int ((0 + n : Nat) : Int)])
        rw [Nat.zero_add]
      · rw [hcar]
        exact hcM.same (same_upd nt)
end K12

set_option Elab.async false
set_option linter.all false
set_option maxRecDepth 100000
set_option maxHeartbeats 4000000
namespace K12
open PySem PySem.Spec PyProof.Rows L2
/-! ## the law's log: ahead, due, depth -/
section
variable {H : Hp} {wd c ch bk : Addr} {U : Tm} {t d : Int}
theorem wg_span (h : H wd = some (.dK (worldV U c ch bk t d))) : DGet H wd (.str "span") (some (.int U.span)) := DGet.k (k := .inr "span") h
theorem wg_cap (h : H wd = some (.dK (worldV U c ch bk t d))) : DGet H wd (.str "cap") (some (.int U.cap)) := DGet.k (k := .inr "cap") h
theorem wg_cycle (h : H wd = some (.dK (worldV U c ch bk t d))) : DGet H wd (.str "cycle") (some (.ref c)) := DGet.k (k := .inr "cycle") h
theorem wg_rear (h : H wd = some (.dK (worldV U c ch bk t d))) : DGet H wd (.str "rear") (some (.bl U.rear)) := DGet.k (k := .inr "rear") h
theorem wg_chain (h : H wd = some (.dK (worldV U c ch bk t d))) : DGet H wd (.str "chain") (some (.ref ch)) := DGet.k (k := .inr "chain") h
theorem wg_book (h : H wd = some (.dK (worldV U c ch bk t d))) : DGet H wd (.str "book") (some (.ref bk)) := DGet.k (k := .inr "book") h
theorem wg_turn (h : H wd = some (.dK (worldV U c ch bk t d))) : DGet H wd (.str "turn") (some (.int t)) := DGet.k (k := .inr "turn") h
theorem wg_done (h : H wd = some (.dK (worldV U c ch bk t d))) : DGet H wd (.str "done") (some (.int d)) := DGet.k (k := .inr "done") h
end
theorem CE.tups {H H' : Hp} (h : ∀ b xs, H b = some (.tup xs) → H' b = some (.tup xs)) {x : V} {e : Ent} (r : CE H x e) : CE H' x e := by
  obtain ⟨a, v, h1, h2, h3⟩ := r
  exact ⟨a, v, h1, h _ _ h2, h3⟩
theorem cV_some (v : Option Int) : (!decide (cV v = V.non)) = v.isSome := by
  cases v with
  | none => rfl
  | some z => rw [decide_eq_false (show ¬ cV (some z) = V.non by intro h; cases h)]; rfl
theorem kill_snoc (k : Str) (L : Log) (e : Ent) : kill k (L ++ [e]) = kill k L ++ [(e.1, if e.1 = k then none else e.2)] := kill_app k L [e]
def spAhead (K : PySem.W.Frag) : Sp := fun vs H Q _ => ∃ (wd : Addr) (k : Str) (v : Option Int) (U : Tm) (L : Log) (t : Nat) (c bk : Addr) (B : List (Str × Int)), vs = [.ref wd, .str k, cV v] ∧ WorldAt H wd U L t c bk B ∧ L.length ≤ 100 ∧ t < U.cyc.length ∧
  ∀ H' tt c', Same H H' → H' tt = some (.tup [.ref c', .int (mostC U t L k v)]) → ChainAt H' c' (ahead U L k v) → Q (.ref tt) H'
theorem scLawAhead : FnScope ["_law_world_here", "_law_name_here", "_law_worth_here", "_law_chain", "_law_entry", "_law_others"] ["_law_world_here", "_law_name_here", "_law_worth_here"] (defScope sLawAhead) := ⟨rfl, rfl, rfl, by decide +kernel, rfl, by decide +kernel, by decide +kernel⟩
theorem Tx.kLawAhead {K : PySem.W.Frag} {mg : Str → Option Value} (T : Tx K mg) : PySem.W.keepIn K (.ref (He.ga K "_law_ahead")) = true := let ⟨_, F⟩ := T.fsLawAhead; F.kp
theorem r_law_ahead {w : World} {K : PySem.W.Frag} {mg : Str → Option Value} {base : Heap} (T : Tx K mg) : FnR pg w K mg base (L2.CX pg w) 2 (He.ga K "_law_ahead") (spAhead K) := by
  obtain ⟨fd, F⟩ := T.fsLawAhead
  refine mkR F scLawAhead (F.bindsN fun _ _ _ _ _ _ us hl => match us, hl with | [_, _, _], _ => rfl) (fun vs H Q E h => ?_) (fun cdv A outer s H vs Q E hr h => ?_)
  · obtain ⟨wd, k, v, U, L, t, c, bk, B, rfl, ⟨ch, d, hw, hcy, ⟨xs, h1, hp⟩, hbk, hB⟩, h100, ht, q⟩ := h
    rfl
  · obtain ⟨wd, k, v, U, L, t, c, bk, B, rfl, ⟨ch, d, hw, hcy, ⟨xs, h1, hp⟩, hbk, hB⟩, h100, ht, q⟩ := h
    refine ⟨_, PSs.nox (Evl.pss_cut (ps_setLc (i := 3) (own := [("_law_entry", 4)]) rfl scLawAhead.nd rfl rfl (sw_true rfl rfl rfl (by decide +kernel)) (pi_list (pe_dget (hu_of hr) (pv 0) pe_str (fun _ _ => rfl))) (blkOk_by (N := [("_law_world_here" : Str), ("_law_name_here" : Str), ("_law_worth_here" : Str), ("_law_chain" : Str), ("_law_entry" : Str), ("_law_others" : Str)]) (sc := defScope sLawAhead) (by decide +kernel)) (fun _ _ _ _ _ => (pg_name (i := 4) scLawAhead.nd rfl (.inl rfl))) (fun _ _ _ _ _ => pts_nil) (fun _ _ _ _ _ => (pe_tup (pa_cons (pe_ix (ix_tupK K) (pv 4) pe_int (fun _ _ => rfl)) (pa_cons (pe_ix (ix_tupK K) (pv 4) pe_int (fun _ _ => rfl)) (pa_cons (pe_andTK K (pe_ix (ix_tupK K) (pv 4) pe_int (fun _ _ => rfl)) (pe_one (pe_cmpR op_ne (pe_ix (ix_tupK K) (pv 4) pe_int (fun _ _ => rfl)) (pv 1) (nomark _)))) pa_nil))))))
      (Evl.pss_cut (ps_if (pt_val (pe_dget (hu_of hr) (pv 0) pe_str (fun _ _ => rfl))) (pss_one (ps_set (i := 3) scLawAhead.nd rfl (by first | exact .inl rfl | exact .inr rfl) (pe_op op_cat (pv 3) (pe_lst (pa_cons (pe_tup (pa_cons (pv 1) (pa_cons (pv 2) (pa_cons (pe_cmpR op_notN (pv 2) pe_non (nomark _)) pa_nil)))) pa_nil))))) pss_nil)
      (pss_cons (ps_set (i := 3) scLawAhead.nd rfl (by first | exact .inl rfl | exact .inr rfl) (pe_F (r_law_trimmed T) (hr.mono (by decide)) T.g_law_trimmed T.kLawTrimmed takes0 (pa_cons (pv 3) pa_nil)))
      (pss_cons (ps_set (i := 5) scLawAhead.nd rfl (by first | exact .inl rfl | exact .inr rfl) (pe_op op_sub (pe_callB call_len_seq (by rfl) T.n_len PySem.boot_len (pa_cons (pe_lc (own := [("_law_entry", 4)]) rfl scLawAhead.nd (pi_list (pv 3)) (blkOk_by (N := [("_law_world_here" : Str), ("_law_name_here" : Str), ("_law_worth_here" : Str), ("_law_chain" : Str), ("_law_entry" : Str), ("_law_others" : Str)]) (sc := defScope sLawAhead) (by decide +kernel)) (fun _ _ _ _ _ => (pg_name (i := 4) scLawAhead.nd rfl (.inl rfl))) (fun _ _ _ _ _ => (pts_one (pt_val (pe_ix (ix_tupK K) (pv 4) pe_int (fun _ _ => rfl))))) (fun _ _ _ _ _ => (pv 4))) pa_nil)) (pe_callTy call_int1 (by rfl) T.n_int (by decide +kernel) (pa_cons (pe_andT (pe_dget (hu_of hr) (pv 0) pe_str (fun _ _ => rfl)) (pe_one (pe_cmpR op_notN (pv 2) pe_non (nomark _)))) pa_nil))))
      (pss_one (ps_ret (pe_tup (pa_cons (pv 3) (pa_cons (pe_callB (call_min2 rfl) (by rfl) T.n_min (by decide +kernel) (pa_cons (pe_ix ix_list (pe_dget (hu_of hr) (pv 0) pe_str (fun _ _ => rfl)) (pe_dget (hu_of hr) (pv 0) pe_str (fun _ _ => rfl)) (fun _ _ => rfl)) (pa_cons (pv 5) pa_nil))) pa_nil))))))))), ?_⟩
    have hl := p_len hp
    refine ⟨fun σ' H' => ∃ c1, σ' = [some (.ref wd), some (.str k), some (cV v), some (.ref c1), none, none] ∧ Same H H' ∧ H' c1 ≠ none ∧ H c1 = none ∧ ChainAt H' c1 (kill k L), ?_, ?_⟩
    · refine ⟨_, rfl, wd, _, rfl, wg_chain hw, ch, rfl, ⟨_, SqL.of h1⟩, fun D nD => lc_list (xs := xs)
        (fun i H' => ∃ acc, H' D = some (.lst acc) ∧ Same H H' ∧ acc.length = i ∧ Paired (CE H') acc (kill k (L.take i))) ⟨[], upd_same, same_upd nD, rfl, .nil⟩ (fun i H' _ h => ?_) (fun i x H' hx h => ?_) (fun H' h => ?_)⟩
      · obtain ⟨_, _, sm, _⟩ := h
        exact SqL.of (sm _ _ h1)
      · obtain ⟨acc, hD, sm, la, pa⟩ := h
        obtain ⟨en, hen, a, x1, rfl, k1, k2⟩ := p_get hp hx
        have k1' := sm _ _ k1
        have ent : ∀ p, H' p = none → ∃ acc' : List V, (upd H' p (.tup [.str en.1, x1, .bl (if en.1 = k then none else en.2).isSome])) D = some (.lst acc') ∧ acc'.length < sizeLine ∧
            ∃ acc2, (upd (upd H' p (.tup [.str en.1, x1, .bl (if en.1 = k then none else en.2).isSome])) D (.lst (acc' ++ [.ref p]))) D = some (.lst acc2) ∧ Same H (upd (upd H' p (.tup [.str en.1, x1, .bl (if en.1 = k then none else en.2).isSome])) D (.lst (acc' ++ [.ref p]))) ∧ acc2.length = i + 1 ∧
              Paired (CE (upd (upd H' p (.tup [.str en.1, x1, .bl (if en.1 = k then none else en.2).isSome])) D (.lst (acc' ++ [.ref p])))) acc2 (kill k (L.take (i + 1))) := fun p np => by
          have pD : D ≠ p := ne_of_none hD np
          refine ⟨acc, by rw [upd_ne pD]; exact hD, Nat.lt_of_le_of_lt (by have := get_lt hx; omega) (small1000 (Nat.le_refl 1000)), acc ++ [.ref p], upd_same, Same.step (Same.step sm (sm.free np)) nD, by rw [List.length_append, la]; rfl, ?_⟩
          rw [take_next hen, kill_snoc]
          refine p_app (p_mono (fun _ _ r => r.tups fun b ys e => ?_) pa) (.cons ⟨p, x1, rfl, by rw [upd_ne pD.symm, upd_same], fun z hz => ?_⟩ .nil)
          · have hz' : (if en.1 = k then none else en.2) = some z := hz
            by_cases hk : en.1 = k
            · rw [if_pos hk] at hz'; cases hz'
            · rw [if_neg hk] at hz'
              exact k2 z hz'
          · rw [upd_ne (kind_ne e hD (by intro z; cases z)), upd_ne (ne_of_none e np)]
            exact e
        refine ⟨rfl, _, rfl, a, _, 0, _, rfl, rfl, SqT.of k1', rfl, _, rfl, a, _, 1, _, rfl, rfl, SqT.of k1', rfl, _, rfl, a, _, 2, _, rfl, rfl, SqT.of k1', rfl, en.2.isSome, rfl, ?_⟩
        cases hb : en.2 with
        | none =>
          refine iteF ⟨(by show 3 ≤ sizeLine; decide), fun p np => ?_⟩
          have e0 : (if en.1 = k then none else en.2).isSome = false := by rw [hb]; split <;> rfl
          have z := ent p np
          rw [e0] at z
          exact z
        | some y =>
          refine iteT ?_
          refine ⟨_, rfl, a, _, 0, _, rfl, rfl, SqT.of k1', rfl, _, rfl, rfl, (by show 3 ≤ sizeLine; decide), fun p np => ?_⟩
          have e0 : (if en.1 = k then none else en.2).isSome = !decide (V.str en.1 = V.str k) := by
            rw [hb]
            by_cases hk : en.1 = k
            · rw [if_pos hk, hk, decide_eq_true rfl]; rfl
            · rw [if_neg hk, decide_eq_false (show ¬ V.str en.1 = V.str k by intro z; injection z with z; exact hk z)]; rfl
          have z := ent p np
          rw [e0] at z
          exact z
      · obtain ⟨acc, hD, sm, la, pa⟩ := h
        rw [hl, List.take_of_length_le (Nat.le_refl _)] at pa
        exact ⟨D, rfl, sm, by rw [hD]; simp, nD, acc, hD, pa⟩
    rintro σ' H2 ⟨c1, rfl, sm2, hc1, nc1, hch2⟩
    have hw2 := sm2 _ _ hw
    refine ⟨fun σ' H' => ∃ c1, σ' = [some (.ref wd), some (.str k), some (cV v), some (.ref c1), none, none] ∧ Same H H' ∧ ChainAt H' c1 (kill k L ++ own U k v), ?_, ?_⟩
    · refine ⟨_, rfl, wd, _, rfl, wg_rear hw2, _, rfl, ?_⟩
      refine ite2 (fun hr => ?_) (fun hr => ?_)
      · obtain ⟨ys, g1, gp⟩ := hch2
        have gl := p_len gp
        refine ⟨_, rfl, _, rfl, _, rfl, _, rfl, rfl, (by show 3 ≤ sizeLine; decide), fun p np => ⟨(by show 1 ≤ sizeLine; decide), fun l nl => ?_⟩⟩
        have hl2 : (upd (upd H2 p (.tup [.str k, cV v, .bl (!decide (cV v = V.non))])) l (.lst [.ref p])) c1 = some (.lst ys) := by
          rw [upd_ne (ne_of_none (same_upd np _ _ g1) nl)]
          exact same_upd np _ _ g1
        refine ⟨c1, l, ys, [.ref p], rfl, rfl, hl2, upd_same, ?_, fun e ne => ?_⟩
        · have : (1000 : Nat) ≤ sizeLine := by decide
          rw [gl, kill_len]
          show L.length + 1 ≤ sizeLine
          omega
        have s3 := fun z : HO => Same.trans (same_upd np) (Same.trans (same_upd nl) (same_upd (o := z) ne))
        refine ⟨e, rfl, Same.trans sm2 (s3 _), ys ++ [.ref p], upd_same, ?_⟩
        unfold own
        rw [if_pos hr]
        refine p_app (p_mono (fun _ _ r => r.same (s3 _)) gp) (.cons ⟨p, cV v, rfl, ?_, (fun z (hz : v = some z) => by rw [hz]; rfl)⟩ .nil)
        have hp3 : (upd (upd H2 p (.tup [.str k, cV v, .bl (!decide (cV v = V.non))])) l (.lst [.ref p])) p = some (.tup [.str k, cV v, .bl (!decide (cV v = V.non))]) := same_upd nl _ _ upd_same
        rw [upd_ne (ne_of_none hp3 ne), hp3, cV_some]
      · refine ⟨c1, rfl, sm2, ?_⟩
        unfold own
        rw [if_neg hr, List.append_nil]
        exact hch2
    rintro σ' H3 ⟨c1, rfl, sm3, hch3⟩
    refine ⟨_, rfl, c1, _, rfl, hch3, ?_, fun H4 c2 sm4 hch4 => ?_⟩
    · unfold own
      rw [List.length_append, kill_len]
      split
      · show L.length + 1 ≤ 1000
        omega
      · show L.length + 0 ≤ 1000
        omega
    have hch4' : ChainAt H4 c2 (ahead U L k v) := hch4
    obtain ⟨ys, g1, gp⟩ := id hch4'
    have gl := p_len gp
    have al := ahead_len U L k v
    have al2 : (ahead U L k v).length ≤ 900 := by split at al <;> omega
    have sm34 := Same.trans sm3 sm4
    have hw4 := sm34 _ _ hw
    refine ⟨_, rfl, c2, rfl, ⟨_, SqL.of g1⟩, fun D nD => lc_list (xs := ys)
      (fun i H' => ∃ acc, H' D = some (.lst acc) ∧ Same H4 H' ∧ acc.length = cnt ((ahead U L k v).take i) ∧ acc.length ≤ i) ⟨[], upd_same, same_upd nD, rfl, Nat.zero_le _⟩ (fun i H' _ h => ?_) (fun i x H' hx h => ?_) (fun H' h => ?_)⟩
    · obtain ⟨_, _, sm, _⟩ := h
      exact SqL.of (sm _ _ g1)
    · obtain ⟨acc, hD, sm, la, lb⟩ := h
      obtain ⟨en, hen, a, x1, rfl, k1, k2⟩ := p_get gp hx
      have ct := cnt_take hen
      refine ⟨rfl, _, rfl, a, _, 2, _, rfl, rfl, SqT.of (sm _ _ k1), rfl, _, rfl, ?_⟩
      cases hb : en.2.isSome with
      | true =>
        rw [hb] at ct
        refine ⟨_, rfl, acc, hD, Nat.lt_of_le_of_lt (show acc.length ≤ 1000 by have := get_lt hx; omega) (small1000 (Nat.le_refl _)), acc ++ [.ref a], upd_same, Same.step sm nD, ?_, ?_⟩
        · rw [List.length_append, la, ct]
          rfl
        · rw [List.length_append]
          show acc.length + 1 ≤ i + 1
          omega
      | false =>
        rw [hb] at ct
        exact ⟨acc, hD, sm, by rw [la, ct]; rfl, by omega⟩
    · obtain ⟨acc, hD, sm5, la, lb⟩ := h
      rw [gl, List.take_of_length_le (Nat.le_refl _)] at la
      have sm5' := Same.trans sm34 sm5
      have hw5 := sm5' _ _ hw
      have fin : ∀ (o : Int), o = others U L k v → tRet (tTup (tCons (tVar 3) (tCons (tCB (fun xs H Q => ∃ i j : Int, xs = [.int i, .int j] ∧ Q (.int (if j < i then j else i)) H) (tCons (tOp (rIxL K) (tDGet (tVar 0) (tC (.str "cycle"))) (tDGet (tVar 0) (tC (.str "turn")))) (tCons (tVar 5) tNil))) tNil)))
          { nx := fun _ H' => Q .non H', rt := Q } [some (.ref wd), some (.str k), some (cV v), some (.ref c2), none, some (.int o)] H' := fun o ho => by
        refine ⟨_, rfl, _, rfl, wd, _, rfl, wg_cycle hw5, _, rfl, wd, _, rfl, wg_turn hw5, c, _, t, .int (U.cyc.getD t 0), rfl, rfl, SqL.of (sm5' _ _ hcy), ?_, _, rfl, _, _, rfl, (by show 2 ≤ sizeLine; decide), fun tt nt => ?_⟩
        · refine atI_nat ?_
          rw [List.getElem?_map, List.getElem?_eq_getElem ht, List.getD_eq_getElem?_getD, List.getElem?_eq_getElem ht]
          rfl
        · refine q _ tt c2 (Same.trans sm5' (same_upd nt)) ?_ (hch4'.same (Same.trans sm5 (same_upd nt)))
          rw [upd_same, ho]
          rfl
      refine ⟨D, acc, rfl, .inl (SqL.of hD), ?_⟩
      rw [la]
      refine ⟨_, rfl, wd, _, rfl, wg_rear hw5, U.rear, rfl, ?_⟩
      by_cases hr : U.rear = true
      · rw [hr]
        refine iteT ?_
        refine ⟨_, rfl, rfl, .inr ⟨_, rfl, _, _, rfl, rfl, ?_⟩⟩
        refine fin _ ?_
        rw [cV_some]
        unfold others
        rw [hr]
        cases v <;> rfl
      · rw [eq_false_of_ne_true hr]
        refine iteF (.inr ⟨_, rfl, _, _, rfl, rfl, ?_⟩)
        refine fin _ ?_
        unfold others
        rw [eq_false_of_ne_true hr]
        rfl
end K12

set_option Elab.async false
set_option linter.all false
set_option maxRecDepth 100000
set_option maxHeartbeats 4000000
namespace K12
open PySem PySem.Spec PyProof.Rows L2
/-! ## the law's word of a deed -/
theorem inV_strs (k : Str) : ∀ ks : List Str, inV (.str k) (ks.map V.str) = decide (k ∈ ks)
  | [] => rfl
  | a :: r => by
    have ih := inV_strs k r
    show (eqV (.str a) (.str k) || inV (.str k) (r.map V.str)) = decide (k ∈ a :: r)
    rw [ih]
    show ((a == k) || decide (k ∈ r)) = _
    by_cases h : a = k
    · subst h
      simp
    · have h1 : (a == k) = false := by simpa using h
      rw [h1, Bool.false_or]
      by_cases h2 : k ∈ r
      · rw [decide_eq_true h2, decide_eq_true (List.mem_cons_of_mem _ h2)]
      · rw [decide_eq_false h2, decide_eq_false (fun z => (List.mem_cons.mp z).elim (fun q => h q.symm) h2)]
theorem nms_take {L : Log} {i : Nat} {e : Ent} (h : L[i]? = some e) : nms (L.take (i + 1)) = nms (L.take i) ++ if e.2.isSome = true then [e.1] else [] := by
  rw [take_next h, nms_app]
  congr 1
  obtain ⟨a, b⟩ := e
  cases b <;> rfl
theorem nms_le (L : Log) : (nms L).length ≤ L.length := by rw [nms_len]; exact List.length_filter_le _ _
theorem cnt_le (L : Log) : cnt L ≤ L.length := List.length_filter_le _ _
def spDue (K : PySem.W.Frag) : Sp := fun vs H Q _ => ∃ (wd : Addr) (k : Str) (v cc : Option Int) (U : Tm) (L : Log) (t : Nat) (c bk : Addr) (B : List (Str × Int)), vs = [.ref wd, .str k, cV v, cV cc] ∧ WorldAt H wd U L t c bk B ∧ U.Ok ∧ LogOk U L ∧ t < U.cyc.length ∧
  ∀ H' tt ch' (s : Str) x n, Same H H' → H' tt = some (.tup [.str s, x, .ref ch', n]) → (due U t L k v cc = none → s ≠ "done") → (∀ L', due U t L k v cc = some L' → s = "done" ∧ ChainAt H' ch' L') → Q (.ref tt) H'
theorem scLawDue : FnScope ["_law_world_here", "_law_name_here", "_law_worth_here", "_law_tally_here", "_law_chain", "_law_lived", "_law_entry", "_law_ahead_here", "_law_asked", "_law_moved_here"] ["_law_world_here", "_law_name_here", "_law_worth_here", "_law_tally_here"] (defScope sLawDue) := ⟨rfl, rfl, rfl, by decide +kernel, rfl, by decide +kernel, by decide +kernel⟩
theorem Tx.kLawDue {K : PySem.W.Frag} {mg : Str → Option Value} (T : Tx K mg) : PySem.W.keepIn K (.ref (He.ga K "_law_due")) = true := let ⟨_, F⟩ := T.fsLawDue; F.kp
theorem r_law_due {w : World} {K : PySem.W.Frag} {mg : Str → Option Value} {base : Heap} (T : Tx K mg) : FnR pg w K mg base (L2.CX pg w) 3 (He.ga K "_law_due") (spDue K) := by
  obtain ⟨fd, F⟩ := T.fsLawDue
  refine mkR F scLawDue (F.bindsN fun _ _ _ _ _ _ us hl => match us, hl with | [_, _, _, _], _ => rfl) (fun vs H Q E h => ?_) (fun cdv A outer s H vs Q E hr h => ?_)
  · obtain ⟨wd, k, v, cc, U, L, t, c, bk, B, rfl, hworld, hU, hL, ht, q⟩ := h
    rfl
  · obtain ⟨wd, k, v, cc, U, L, t, c, bk, B, rfl, hworld, hU, hL, ht, q⟩ := h
    refine ⟨_, PSs.nox (pss_cons (ps_set (i := 4) scLawDue.nd rfl (by first | exact .inl rfl | exact .inr rfl) (pe_dget (hu_of hr) (pv 0) pe_str (fun _ _ => rfl)))
      (pss_cons (ps_setLc (i := 5) (own := [("_law_entry", 6)]) rfl scLawDue.nd rfl rfl (sw_true rfl rfl rfl (by decide +kernel)) (pi_list (pv 4)) (blkOk_by (N := [("_law_world_here" : Str), ("_law_name_here" : Str), ("_law_worth_here" : Str), ("_law_tally_here" : Str), ("_law_chain" : Str), ("_law_lived" : Str), ("_law_entry" : Str), ("_law_ahead_here" : Str), ("_law_asked" : Str), ("_law_moved_here" : Str)]) (sc := defScope sLawDue) (by decide +kernel)) (fun _ _ _ _ _ => (pg_name (i := 6) scLawDue.nd rfl (.inl rfl))) (fun _ _ _ _ _ => (pts_one (pt_val (pe_ix (ix_tupK K) (pv 6) pe_int (fun _ _ => rfl))))) (fun _ _ _ _ _ => (pe_ix (ix_tupK K) (pv 6) pe_int (fun _ _ => rfl))))
      (Evl.pss_cut (ps_if (PW.pt (pw_and (pt_cmpR op_isN (pv 2) pe_non (nomark _)) (pw_and1 (pt_cmpR op_notIn_seq (pv 1) (pv 5) (by rfl))))) (pss_one (ps_ret (pe_tup (pa_cons pe_str (pa_cons (pv 1) (pa_cons (pv 4) (pa_cons pe_int pa_nil))))))) pss_nil)
      (Evl.pss_cut (ps_if (PW.pt (pw_and (pt_cmpR op_notIn_seq (pv 1) (pv 5) (by rfl)) (pw_and1 (pt_cmpR op_ge (pe_callB call_len_seq (by rfl) T.n_len PySem.boot_len (pa_cons (pv 5) pa_nil)) (pe_dget (hu_of hr) (pv 0) pe_str (fun _ _ => rfl)) (nomark _))))) (pss_one (ps_ret (pe_tup (pa_cons pe_str (pa_cons (pe_dget (hu_of hr) (pv 0) pe_str (fun _ _ => rfl)) (pa_cons (pv 4) (pa_cons pe_int pa_nil))))))) pss_nil)
      (Evl.pss_cut (ps_if (PW.pt (pw_and (pt_val (pe_dget (hu_of hr) (pv 0) pe_str (fun _ _ => rfl))) (pw_and1 (pt_cmpR op_ge (pe_callB call_len_seq (by rfl) T.n_len PySem.boot_len (pa_cons (pv 4) pa_nil)) (pe_dget (hu_of hr) (pv 0) pe_str (fun _ _ => rfl)) (nomark _))))) (pss_one (ps_ret (pe_tup (pa_cons pe_str (pa_cons (pe_dget (hu_of hr) (pv 0) pe_str (fun _ _ => rfl)) (pa_cons (pv 4) (pa_cons pe_int pa_nil))))))) pss_nil)
      (pss_cons (ps_set (i := 7) scLawDue.nd rfl (by first | exact .inl rfl | exact .inr rfl) (pe_F (r_law_ahead T) (hr.mono (by decide)) T.g_law_ahead T.kLawAhead takes0 (pa_cons (pv 0) (pa_cons (pv 1) (pa_cons (pv 2) pa_nil)))))
      (pss_cons (ps_set (i := 8) scLawDue.nd rfl (by first | exact .inl rfl | exact .inr rfl) (pe_ix ix_tup (pv 7) pe_int (fun _ _ => rfl)))
      (Evl.pss_cut (ps_if (pt_cmpR op_notN (pv 3) pe_non (nomark _)) (pss_one (ps_set (i := 8) scLawDue.nd rfl (by first | exact .inl rfl | exact .inr rfl) (pv 3))) pss_nil)
      (Evl.pss_cut (ps_if (PW.pt (pw_or (pt_cmpR op_lt (pv 8) pe_int (nomark _)) (pw_or1 (pt_cmpR op_gt (pv 8) (pe_ix ix_tup (pv 7) pe_int (fun _ _ => rfl)) (nomark _))))) (pss_one (ps_ret (pe_tup (pa_cons pe_str (pa_cons (pv 8) (pa_cons (pv 4) (pa_cons pe_int pa_nil))))))) pss_nil)
      (pss_cons (ps_set (i := 9) scLawDue.nd rfl (by first | exact .inl rfl | exact .inr rfl) (pe_F (r_law_moved T) (hr.mono (by decide)) T.g_law_moved T.kLawMoved takes0 (pa_cons (pe_ix ix_tup (pv 7) pe_int (fun _ _ => rfl)) (pa_cons (pe_dget (hu_of hr) (pv 0) pe_str (fun _ _ => rfl)) (pa_cons (pv 8) pa_nil)))))
      (Evl.pss_cut (ps_if (PW.pt (pw_and (pt_cmpR op_notN (pv 3) pe_non (nomark _)) (pw_and1 (pt_cmpR op_lt (pe_ix ix_tup (pv 9) pe_int (fun _ _ => rfl)) (pv 8) (nomark _))))) (pss_one (ps_ret (pe_tup (pa_cons pe_str (pa_cons (pv 8) (pa_cons (pv 4) (pa_cons pe_int pa_nil))))))) pss_nil)
      (Evl.pss_cut (ps_if (pt_val (pe_dget (hu_of hr) (pv 0) pe_str (fun _ _ => rfl))) (pss_one (ps_ret (pe_tup (pa_cons pe_str (pa_cons pe_non (pa_cons (pe_ix ix_tup (pv 9) pe_int (fun _ _ => rfl)) (pa_cons (pe_ix ix_tup (pv 9) pe_int (fun _ _ => rfl)) pa_nil))))))) pss_nil)
      (Evl.pss_cut (ps_if (pt_cmpR op_ge (pe_callB call_len_seq (by rfl) T.n_len PySem.boot_len (pa_cons (pe_ix ix_tup (pv 9) pe_int (fun _ _ => rfl)) pa_nil)) (pe_dget (hu_of hr) (pv 0) pe_str (fun _ _ => rfl)) (nomark _)) (pss_one (ps_ret (pe_tup (pa_cons pe_str (pa_cons (pe_dget (hu_of hr) (pv 0) pe_str (fun _ _ => rfl)) (pa_cons (pv 4) (pa_cons pe_int pa_nil))))))) pss_nil)
      (pss_one (ps_ret (pe_tup (pa_cons pe_str (pa_cons pe_non (pa_cons (pe_F (r_law_trimmed T) (hr.mono (by decide)) T.g_law_trimmed T.kLawTrimmed takes0 (pa_cons (pe_op op_cat (pe_ix ix_tup (pv 9) pe_int (fun _ _ => rfl)) (pe_lst (pa_cons (pe_tup (pa_cons (pv 1) (pa_cons (pv 2) (pa_cons (pe_cmpR op_notN (pv 2) pe_non (nomark _)) pa_nil)))) pa_nil))) pa_nil)) (pa_cons (pe_ix ix_tup (pv 9) pe_int (fun _ _ => rfl)) pa_nil)))))))))))))))))))), ?_⟩
    obtain ⟨ch, d, hw, hcy, ⟨xs, h1, hp⟩, hbk, hB⟩ := id hworld
    have hl := p_len hp
    have hL64 : L.length ≤ 64 := Nat.le_trans hL.len hU.s64
    have no : ∀ (H1 : Hp) (s : Str) (x n : V), Same H H1 → s ≠ "done" → due U t L k v cc = none → ∀ tt, H1 tt = none → Q (.ref tt) (upd H1 tt (.tup [.str s, x, .ref ch, n])) := fun H1 s x n sm hs hd tt nt =>
      q _ tt ch s x n (Same.trans sm (same_upd nt)) upd_same (fun _ => hs) fun L' h => by rw [hd] at h; cases h
    have s1 : ("UnknownKey" : Str) ≠ "done" := by decide +kernel
    have s2 : ("KeyLimit" : Str) ≠ "done" := by decide +kernel
    have s3 : ("Stalled" : Str) ≠ "done" := by decide +kernel
    have s4 : ("BadChoice" : Str) ≠ "done" := by decide +kernel
    refine ⟨_, rfl, wd, _, rfl, wg_chain hw, ?_⟩
    refine ⟨_, rfl, ch, rfl, ⟨_, SqL.of h1⟩, fun D nD => lc_list (xs := xs)
        (fun i H' => H' D = some (.lst ((nms (L.take i)).map V.str)) ∧ Same H H') ⟨upd_same, same_upd nD⟩ (fun i H' _ h => ?_) (fun i x H' hx h => ?_) (fun H' h => ?_)⟩
    · exact SqL.of (h.2 _ _ h1)
    · obtain ⟨hD, sm⟩ := h
      obtain ⟨en, hen, a, x1, rfl, k1, k2⟩ := p_get hp hx
      have nt := nms_take hen
      refine ⟨rfl, _, rfl, a, _, 2, _, rfl, rfl, SqT.of (sm _ _ k1), rfl, _, rfl, ?_⟩
      cases hb : en.2.isSome with
      | true =>
        rw [hb] at nt
        refine ⟨_, rfl, a, _, 0, _, rfl, rfl, SqT.of (sm _ _ k1), rfl, _, hD, ?_, ?_, Same.step sm nD⟩
        · rw [List.length_map]
          have h1 := nms_le (L.take i)
          have h2 := List.length_take_le i L
          exact Nat.lt_of_le_of_lt (show _ ≤ 1000 by have := get_lt hx; omega) (small1000 (Nat.le_refl _))
        · rw [upd_same, nt, List.map_append]
          rfl
      | false =>
        rw [hb] at nt
        refine ⟨?_, sm⟩
        rw [nt]
        show H' D = some (.lst ((nms (L.take i) ++ []).map V.str))
        rw [List.append_nil]
        exact hD
    obtain ⟨hD, sm⟩ := h
    rw [hl, List.take_of_length_le (Nat.le_refl _)] at hD
    have hw1 := sm _ _ hw
    have hch1 := sm _ _ h1
    have start : due U t L k v cc = if v = none ∧ k ∉ nms L then none else if k ∉ nms L ∧ U.cap ≤ (nms L).length then none else dueC U t L k v cc := due_eq ..
    -- unknown key
    refine ⟨fun σ' H1 => σ' = [some (.ref wd), some (.str k), some (cV v), some (cV cc), some (.ref ch), some (.ref D), none, none, none, none] ∧ H1 = H' ∧ ¬ (v = none ∧ k ∉ nms L), ?_, ?_⟩
    · refine ⟨_, rfl, rfl, _, rfl, ?_⟩
      cases v with
      | none =>
        refine iteT ?_
        refine ⟨_, rfl, _, rfl, D, _, rfl, .inl (SqL.of hD), rfl, flat_strs _, _, rfl, ?_⟩
        rw [inV_strs]
        by_cases hk : k ∈ nms L
        · rw [decide_eq_true hk]
          exact iteF ⟨rfl, rfl, fun h => h.2 hk⟩
        · rw [decide_eq_false hk]
          refine iteT ?_
          exact ⟨_, rfl, _, rfl, (by show 4 ≤ sizeLine; decide), fun tt nt => no H' _ _ _ sm s1 (by rw [start, if_pos ⟨rfl, hk⟩]) tt nt⟩
      | some z =>
        rw [decide_eq_false (show ¬ cV (some z) = V.non by intro h; cases h)]
        exact iteF (iteF ⟨rfl, rfl, fun h => by cases h.1⟩)
    rintro σ' H1 ⟨rfl, rfl, g1⟩
    rw [if_neg g1] at start
    -- too many keys
    refine ⟨fun σ' H2 => σ' = [some (.ref wd), some (.str k), some (cV v), some (cV cc), some (.ref ch), some (.ref D), none, none, none, none] ∧ H2 = H1 ∧ ¬ (k ∉ nms L ∧ U.cap ≤ (nms L).length), ?_, ?_⟩
    · refine ⟨_, rfl, _, rfl, D, _, rfl, .inl (SqL.of hD), rfl, flat_strs _, _, rfl, ?_⟩
      rw [inV_strs]
      by_cases hk : k ∈ nms L
      · rw [decide_eq_true hk]
        exact iteF (iteF ⟨rfl, rfl, fun h => h.1 hk⟩)
      · rw [decide_eq_false hk]
        refine iteT ?_
        refine ⟨_, rfl, D, _, rfl, .inl (SqL.of hD), _, rfl, wd, _, rfl, wg_cap hw1, _, _, rfl, rfl, _, rfl, ?_⟩
        rw [List.length_map]
        by_cases hc : U.cap ≤ (nms L).length
        · rw [decide_eq_true (show ((U.cap : Nat) : Int) ≤ (((nms L).length : Nat) : Int) by omega)]
          refine iteT ?_
          exact ⟨_, rfl, wd, _, rfl, wg_cap hw1, _, rfl, (by show 4 ≤ sizeLine; decide), fun tt nt => no H1 _ _ _ sm s2 (by rw [start, if_pos ⟨hk, hc⟩]) tt nt⟩
        · rw [decide_eq_false (show ¬ ((U.cap : Nat) : Int) ≤ (((nms L).length : Nat) : Int) by omega)]
          exact iteF ⟨rfl, rfl, fun h => hc h.2⟩
    rintro σ' H2 ⟨rfl, rfl, g2⟩
    rw [if_neg g2] at start
    -- no place, late order
    refine ⟨fun σ' H3 => σ' = [some (.ref wd), some (.str k), some (cV v), some (cV cc), some (.ref ch), some (.ref D), none, none, none, none] ∧ H3 = H2 ∧ ¬ (U.rear = true ∧ U.span ≤ L.length), ?_, ?_⟩
    · refine ⟨_, rfl, wd, _, rfl, wg_rear hw1, _, rfl, ?_⟩
      refine ite2 (fun hr => ?_) (fun hr => iteF ⟨rfl, rfl, fun h => hr h.1⟩)
      refine ⟨_, rfl, ch, _, rfl, .inl (SqL.of hch1), _, rfl, wd, _, rfl, wg_span hw1, _, _, rfl, rfl, _, rfl, ?_⟩
      by_cases hs : U.span ≤ L.length
      · rw [decide_eq_true (show ((U.span : Nat) : Int) ≤ ((xs.length : Nat) : Int) by omega)]
        refine iteT ?_
        exact ⟨_, rfl, wd, _, rfl, wg_done hw1, _, rfl, (by show 4 ≤ sizeLine; decide), fun tt nt => no H2 _ _ _ sm s3 (by rw [start]; unfold dueC; rw [if_pos ⟨hr, hs⟩]) tt nt⟩
      · rw [decide_eq_false (show ¬ ((U.span : Nat) : Int) ≤ ((xs.length : Nat) : Int) by omega)]
        exact iteF ⟨rfl, rfl, fun h => hs h.2⟩
    rintro σ' H3 ⟨rfl, rfl, g3⟩
    have st2 : due U t L k v cc = mid U L k v cc (cc.getD (mostC U t L k v)) (mostC U t L k v) := by
      rw [start]
      unfold dueC
      rw [if_neg g3]
    have wk : WorldAt H3 wd U L t c bk B := ⟨ch, d, hw1, sm _ _ hcy, ⟨xs, hch1, p_mono (fun _ _ r => r.same sm) hp⟩, sm _ _ hbk, hB⟩
    refine ⟨_, rfl, _, rfl, _, rfl, wd, k, v, U, L, t, c, bk, B, rfl, wk, by omega, ht, fun H4 ta ca sm4 hta hca => ?_⟩
    have sm34 := Same.trans sm sm4
    have hw4 := sm34 _ _ hw
    refine ⟨_, rfl, ta, _, 1, _, rfl, rfl, SqT.of hta, rfl, ?_⟩
    have mo := mostC_ok hU t L k v
    have ol := others_le U L k v
    have al := ahead_len U L k v
    have al2 : (ahead U L k v).length ≤ 65 := by split at al <;> omega
    have cl := cnt_le (ahead U L k v)
    generalize hmost : mostC U t L k v = most at st2 mo hta
    -- what is asked
    refine ⟨fun σ' H5 => σ' = [some (.ref wd), some (.str k), some (cV v), some (cV cc), some (.ref ch), some (.ref D), none, some (.ref ta), some (.int (cc.getD most)), none] ∧ H5 = H4, ?_, ?_⟩
    · refine ⟨_, rfl, rfl, _, rfl, ?_⟩
      cases cc with
      | none => exact iteF ⟨rfl, rfl⟩
      | some z =>
        rw [decide_eq_false (show ¬ cV (some z) = V.non by intro h; cases h)]
        refine iteT ?_
        exact ⟨_, rfl, rfl, rfl⟩
    rintro σ' H5 ⟨rfl, rfl⟩
    generalize hask : cc.getD most = asked at st2
    refine ⟨fun σ' H6 => σ' = [some (.ref wd), some (.str k), some (cV v), some (cV cc), some (.ref ch), some (.ref D), none, some (.ref ta), some (.int asked), none] ∧ H6 = H5 ∧ ¬ (asked < 0 ∨ most < asked), ?_, ?_⟩
    · refine ⟨_, rfl, asked, 0, rfl, rfl, _, rfl, ?_⟩
      have bad : asked < 0 ∨ most < asked → ∀ tt, H5 tt = none → Q (.ref tt) (upd H5 tt (.tup [.str "BadChoice", .int asked, .ref ch, .int 0])) := fun h => no H5 _ _ _ sm34 s4 (by
        rw [st2]
        unfold mid
        rw [if_pos h])
      by_cases h0 : asked < 0
      · rw [decide_eq_true h0]
        refine iteT (iteT ?_)
        exact ⟨_, rfl, _, rfl, (by show 4 ≤ sizeLine; decide), fun tt nt => bad (.inl h0) tt nt⟩
      · rw [decide_eq_false h0]
        refine iteF ?_
        refine ⟨_, rfl, _, rfl, ta, _, 1, _, rfl, rfl, SqT.of hta, rfl, _, _, rfl, rfl, _, rfl, ?_⟩
        by_cases hm : most < asked
        · rw [decide_eq_true hm]
          refine iteT ?_
          exact ⟨_, rfl, _, rfl, (by show 4 ≤ sizeLine; decide), fun tt nt => bad (.inr hm) tt nt⟩
        · rw [decide_eq_false hm]
          exact iteF ⟨rfl, rfl, fun h => h.elim h0 hm⟩
    rintro σ' H6 ⟨rfl, rfl, g4⟩
    obtain ⟨n, rfl⟩ : ∃ n : Nat, asked = (n : Int) := ⟨asked.toNat, by omega⟩
    have st3 : due U t L k v cc = if cc.isSome = true ∧ ((carry U.span n (ahead U L k v)).2 : Int) < (n : Int) then none else fin U k v (carry U.span n (ahead U L k v)).1 := by
      rw [st2]
      unfold mid
      rw [if_neg g4, Int.toNat_natCast]
    refine ⟨_, rfl, ta, _, 0, _, rfl, rfl, SqT.of hta, rfl, _, rfl, wd, _, rfl, wg_span hw4, _, rfl, ca, U.span, n, ahead U L k v, rfl, hca, by omega, by omega, fun H7 tm cm sm7 htm hcm => ?_⟩
    have sm37 := Same.trans sm34 sm7
    have hw7 := sm37 _ _ hw
    obtain ⟨ms, hm1, hm2⟩ := id hcm
    have ml := p_len hm2
    have cl2 := carry_len U.span n (ahead U L k v)
    generalize hM : carry U.span n (ahead U L k v) = M at st3 htm hcm hm2 ml cl2
    refine ⟨fun σ' H8 => σ' = [some (.ref wd), some (.str k), some (cV v), some (cV cc), some (.ref ch), some (.ref D), none, some (.ref ta), some (.int (n : Int)), some (.ref tm)] ∧ H8 = H7 ∧ ¬ (cc.isSome = true ∧ (M.2 : Int) < (n : Int)), ?_, ?_⟩
    · refine ⟨_, rfl, rfl, _, rfl, ?_⟩
      cases cc with
      | none => exact iteF (iteF ⟨rfl, rfl, fun h => by cases h.1⟩)
      | some z =>
        rw [decide_eq_false (show ¬ cV (some z) = V.non by intro h; cases h)]
        refine iteT ?_
        refine ⟨_, rfl, tm, _, 1, _, rfl, rfl, SqT.of htm, rfl, _, rfl, _, _, rfl, rfl, _, rfl, ?_⟩
        by_cases hlt : (M.2 : Int) < (n : Int)
        · rw [decide_eq_true hlt]
          refine iteT ?_
          exact ⟨_, rfl, _, rfl, (by show 4 ≤ sizeLine; decide), fun tt nt => no H7 _ _ _ sm37 s4 (by rw [st3, if_pos ⟨rfl, hlt⟩]) tt nt⟩
        · rw [decide_eq_false hlt]
          exact iteF ⟨rfl, rfl, fun h => hlt h.2⟩
    rintro σ' H8 ⟨rfl, rfl, g5⟩
    rw [if_neg g5] at st3
    have yes : ∀ (H9 : Hp) (x n : V) (c9 : Addr) (L' : Log), Same H H9 → due U t L k v cc = some L' → ChainAt H9 c9 L' → ∀ tt, H9 tt = none → Q (.ref tt) (upd H9 tt (.tup [.str "done", x, .ref c9, n])) := fun H9 x n c9 L' sm9 hd hc9 tt nt =>
      q _ tt c9 "done" x n (Same.trans sm9 (same_upd nt)) upd_same (fun h => by rw [hd] at h; cases h) fun L2 h => by
        rw [hd] at h
        obtain rfl := Option.some.inj h
        exact ⟨rfl, hc9.same (same_upd nt)⟩
    refine ⟨fun σ' H9 => σ' = [some (.ref wd), some (.str k), some (cV v), some (cV cc), some (.ref ch), some (.ref D), none, some (.ref ta), some (.int (n : Int)), some (.ref tm)] ∧ H9 = H8 ∧ ¬ U.rear = true, ?_, ?_⟩
    · refine ⟨_, rfl, wd, _, rfl, wg_rear hw7, _, rfl, ?_⟩
      refine ite2 (fun hr => ?_) (fun hr => ⟨rfl, rfl, hr⟩)
      refine ⟨_, rfl, tm, _, 0, _, rfl, rfl, SqT.of htm, rfl, _, rfl, tm, _, 1, _, rfl, rfl, SqT.of htm, rfl, (by show 4 ≤ sizeLine; decide), fun tt nt => yes H8 _ _ cm M.1 sm37 ?_ hcm tt nt⟩
      rw [st3]
      unfold fin
      rw [if_pos hr]
    rintro σ' H9 ⟨rfl, rfl, g6⟩
    refine ⟨fun σ' H10 => σ' = [some (.ref wd), some (.str k), some (cV v), some (cV cc), some (.ref ch), some (.ref D), none, some (.ref ta), some (.int (n : Int)), some (.ref tm)] ∧ H10 = H9 ∧ ¬ U.span ≤ M.1.length, ?_, ?_⟩
    · refine ⟨_, rfl, tm, _, 0, _, rfl, rfl, SqT.of htm, rfl, cm, ms, rfl, .inl (SqL.of hm1), _, rfl, wd, _, rfl, wg_span hw7, _, _, rfl, rfl, _, rfl, ?_⟩
      by_cases hs : U.span ≤ M.1.length
      · rw [decide_eq_true (show ((U.span : Nat) : Int) ≤ ((ms.length : Nat) : Int) by omega)]
        refine iteT ?_
        refine ⟨_, rfl, wd, _, rfl, wg_done hw7, _, rfl, (by show 4 ≤ sizeLine; decide), fun tt nt => no H9 _ _ _ sm37 s3 ?_ tt nt⟩
        rw [st3]
        unfold fin
        rw [if_neg g6, if_pos hs]
      · rw [decide_eq_false (show ¬ ((U.span : Nat) : Int) ≤ ((ms.length : Nat) : Int) by omega)]
        exact iteF ⟨rfl, rfl, hs⟩
    rintro σ' H10 ⟨rfl, rfl, g7⟩
    refine ⟨_, rfl, tm, _, 0, _, rfl, rfl, SqT.of htm, rfl, _, rfl, _, rfl, _, rfl, rfl, (by show 3 ≤ sizeLine; decide), fun pe npe => ⟨(by show 1 ≤ sizeLine; decide), fun l nl => ?_⟩⟩
    have hcm2 : (upd (upd H10 pe (.tup [.str k, cV v, .bl (!decide (cV v = V.non))])) l (.lst [.ref pe])) cm = some (.lst ms) := same_upd nl _ _ (same_upd npe _ _ hm1)
    refine ⟨cm, l, ms, [.ref pe], rfl, rfl, hcm2, upd_same, ?_, fun e ne => ?_⟩
    · have : (1000 : Nat) ≤ sizeLine := by decide
      show ms.length + 1 ≤ sizeLine
      omega
    have s3' := fun z : HO => Same.trans (same_upd npe) (Same.trans (same_upd nl) (same_upd (o := z) ne))
    have hpe : (upd (upd (upd H10 pe (.tup [.str k, cV v, .bl (!decide (cV v = V.non))])) l (.lst [.ref pe])) e (.lst (ms ++ [.ref pe]))) pe = some (.tup [.str k, cV v, .bl v.isSome]) := by
      have h3 : (upd (upd H10 pe (.tup [.str k, cV v, .bl (!decide (cV v = V.non))])) l (.lst [.ref pe])) pe = some (.tup [.str k, cV v, .bl (!decide (cV v = V.non))]) := same_upd nl _ _ upd_same
      rw [upd_ne (ne_of_none h3 ne), h3, cV_some]
    refine ⟨e, M.1 ++ [(k, v)], rfl, ⟨ms ++ [.ref pe], upd_same, p_app (p_mono (fun _ _ r => r.same (s3' _)) hm2) (.cons ⟨pe, cV v, rfl, hpe, (fun z (hz : v = some z) => by rw [hz]; rfl)⟩ .nil)⟩, ?_, fun H11 c11 sm11 hc11 => ?_⟩
    · rw [List.length_append]
      show _ + 1 ≤ 1000
      omega
    have smA := Same.trans sm37 (Same.trans (s3' _) sm11)
    have htm11 := sm11 _ _ (s3' _ _ _ htm)
    refine ⟨_, rfl, tm, _, 1, _, rfl, rfl, SqT.of htm11, rfl, (by show 4 ≤ sizeLine; decide), fun tt nt => yes H11 _ _ c11 _ smA ?_ hc11 tt nt⟩
    rw [st3]
    unfold fin
    rw [if_neg g6, if_neg g7]
def spDepth (K : PySem.W.Frag) : Sp := fun vs H Q _ => ∃ (c : Addr) (k : Str) (L : Log), vs = [.ref c, .str k] ∧ ChainAt H c L ∧ L.length ≤ 1000 ∧ (nms L).Nodup ∧ ∃ (i : Nat) (z : Int), L[i]? = some (k, some z) ∧ Q (.int ((L.length : Nat) - (i : Int))) H
theorem scLawDepth : FnScope ["_law_chain", "_law_name_here", "_law_k"] ["_law_chain", "_law_name_here"] (defScope sLawDepth) := ⟨rfl, rfl, rfl, by decide +kernel, rfl, by decide +kernel, by decide +kernel⟩
theorem Tx.kLawDepth {K : PySem.W.Frag} {mg : Str → Option Value} (T : Tx K mg) : PySem.W.keepIn K (.ref (He.ga K "_law_depth")) = true := let ⟨_, F⟩ := T.fsLawDepth; F.kp
theorem r_law_depth {w : World} {K : PySem.W.Frag} {mg : Str → Option Value} {base : Heap} (T : Tx K mg) : FnR pg w K mg base (L2.CX pg w) 1 (He.ga K "_law_depth") (spDepth K) := by
  obtain ⟨fd, F⟩ := T.fsLawDepth
  refine mkR F scLawDepth (F.bindsN fun _ _ _ _ _ _ us hl => match us, hl with | [_, _], _ => rfl) (fun vs H Q E h => ?_) (fun cdv A outer s H vs Q E hr h => ?_)
  · obtain ⟨c, k, L, rfl, ⟨xs, h1, hp⟩, h1000, hnd, i0, z0, hi0, q⟩ := h
    rfl
  · obtain ⟨c, k, L, rfl, ⟨xs, h1, hp⟩, h1000, hnd, i0, z0, hi0, q⟩ := h
    refine ⟨_, PSs.nox (pss_cons (ps_for PassesOwn.never rfl (pi_range1 (by rfl) T.n_range (pa_cons (pe_callB call_len_seq (by rfl) T.n_len PySem.boot_len (pa_cons (pv 0) pa_nil)) pa_nil)) (pg_name (i := 2) scLawDepth.nd rfl (by first | exact .inl rfl | exact .inr rfl)) (pss_one (ps_if (PW.pt (pw_and (pt_val (pe_ix ix_tup (pe_ix ix_list (pv 0) (pv 2) (fun _ _ => rfl)) pe_int (fun _ _ => rfl))) (pw_and1 (pt_cmpR op_eq (pe_ix ix_tup (pe_ix ix_list (pv 0) (pv 2) (fun _ _ => rfl)) pe_int (fun _ _ => rfl)) (pv 1) (nomark _))))) (pss_one (ps_ret (pe_op op_sub (pe_callB call_len_seq (by rfl) T.n_len PySem.boot_len (pa_cons (pv 0) pa_nil)) (pv 2)))) pss_nil)))
      (pss_one (ps_ret pe_int))), ?_⟩
    have hl := p_len hp
    refine ⟨_, rfl, c, _, rfl, .inl (SqL.of h1), (xs.length : Nat), rfl, by omega, by omega, ?_⟩
    rw [Int.toNat_natCast]
    refine for_range (n := xs.length) (fun i σ' H' => (∃ y, σ' = [some (.ref c), some (.str k), y]) ∧ H' = H ∧ i ≤ i0) ⟨⟨_, rfl⟩, rfl, Nat.zero_le _⟩ (fun i σ' H' hi h => ?_) (fun σ' H' h => ?_)
    · obtain ⟨⟨y, rfl⟩, rfl, hii⟩ := h
      obtain ⟨x, hx⟩ := get_of hi
      obtain ⟨en, hen, a, v, rfl, k1, k2⟩ := p_get hp hx
      have ei : (0 + (i : Nat) : Int) = ((i : Nat) : Int) := Int.zero_add _
      have here : atI xs (0 + (i : Nat) : Int) = some (.ref a) := by rw [ei]; exact atI_nat hx
      have stay : ¬ i = i0 → (∃ y, ([some (.ref c), some (.str k), some (.int (0 + (i : Nat)))] : L2.St) = [some (.ref c), some (.str k), y]) ∧ H' = H' ∧ i + 1 ≤ i0 := fun h => ⟨⟨_, rfl⟩, rfl, by omega⟩
      refine ⟨_, rfl, _, rfl, c, xs, _, _, rfl, rfl, SqL.of h1, here, a, _, 2, _, rfl, rfl, SqT.of k1, rfl, _, rfl, ?_⟩
      refine ite2 (fun hb => ?_) (fun hb => ?_)
      · refine ⟨_, rfl, _, rfl, c, xs, _, _, rfl, rfl, SqL.of h1, here, a, _, 0, _, rfl, rfl, SqT.of k1, rfl, _, rfl, rfl, _, rfl, ?_⟩
        refine ite2 (fun hk => ?_) (fun hk => ?_)
        · have hk2 : en.1 = k := by
            have := of_decide_eq_true hk
            injection this
          obtain ⟨y2, hy2⟩ := Option.isSome_iff_exists.mp hb
          have e0 : i = i0 := by
            have : ∀ (M : Log), (nms M).Nodup → ∀ (i j : Nat) (a b : Int), M[i]? = some (k, some a) → M[j]? = some (k, some b) → i = j := by
              intro M
              induction M with
              | nil => intro _ i j a b h; cases h
              | cons e r ih =>
                intro nd i j a b hi hj
                have ndr : (nms r).Nodup := by
                  obtain ⟨x, y⟩ := e
                  cases y with
                  | none => exact nd
                  | some y => exact (List.nodup_cons.mp nd).2
                have out : ∀ (j : Nat) (b : Int), e = (k, some a) → r[j]? = some (k, some b) → False := fun j b he hj => by
                  rw [he] at nd
                  exact (List.nodup_cons.mp (show (k :: nms r).Nodup from nd)).1 (nms_mem.mpr ⟨b, List.mem_of_getElem? hj⟩)
                have out2 : ∀ (j : Nat) (a : Int), e = (k, some b) → r[j]? = some (k, some a) → False := fun j a he hj => by
                  rw [he] at nd
                  exact (List.nodup_cons.mp (show (k :: nms r).Nodup from nd)).1 (nms_mem.mpr ⟨a, List.mem_of_getElem? hj⟩)
                cases i with
                | zero =>
                  cases j with
                  | zero => rfl
                  | succ j => exact (out j b (Option.some.inj hi) hj).elim
                | succ i =>
                  cases j with
                  | zero => exact (out2 i a (Option.some.inj hj) hi).elim
                  | succ j => exact congrArg Nat.succ (ih ndr i j a b hi hj)
            exact this L hnd i i0 y2 z0 (by rw [hen, ← hk2, ← hy2]) hi0
          refine ⟨_, rfl, c, xs, rfl, .inl (SqL.of h1), _, rfl, _, _, rfl, rfl, ?_⟩
          rw [hl, ei, e0]
          exact q
        · refine stay fun e => ?_
          subst e
          rw [hen] at hi0
          rw [Option.some.inj hi0] at hk
          exact hk (decide_eq_true rfl)
      · refine iteF (stay fun e => ?_)
        subst e
        rw [hen] at hi0
        rw [Option.some.inj hi0] at hb
        exact hb rfl
    · obtain ⟨⟨y, rfl⟩, rfl, hii⟩ := h
      have := get_lt hi0
      omega
end K12

set_option Elab.async false
set_option linter.all false
set_option maxRecDepth 100000
set_option maxHeartbeats 4000000
namespace K12
open PySem PySem.Spec PyProof.Rows L2
/-! ## frames over the purse -/
theorem fr_purse {H H' : Hp} {p : Addr} (hp : PurseAt H p) (f : Fr [p] H H') : ∀ b o, H b = some o → (∀ l m z, o ≠ .lst [.int l, .int m, .int z]) → H' b = some o := fun b o e n => by
  obtain ⟨l, m, z, hp⟩ := hp
  exact f b o (by simpa using kind_ne e hp (n l m z)) e
theorem ChainAt.purse {H H' : Hp} {p c : Addr} {L : Log} (hp : PurseAt H p) (f : Fr [p] H H') (h : ChainAt H c L) : ChainAt H' c L := by
  obtain ⟨xs, h1, h2⟩ := h
  refine ⟨xs, fr_purse hp f _ _ h1 (fun l m z e => ?_), p_mono (fun _ _ r => r.tups fun b ys e => fr_purse hp f _ _ e (by intro l m z e; cases e)) h2⟩
  injection e with e
  rw [e] at h2
  cases L with
  | nil => cases h2
  | cons a r =>
    cases h2 with
    | cons q _ =>
      obtain ⟨_, _, q1, _⟩ := q
      cases q1
theorem LogAt.purse {K : PySem.W.Frag} {H0 H H' : Hp} {p g : Addr} {L : Log} (hp : PurseAt H p) (f : Fr [p] H H') (h : LogAt K H0 H g L) : LogAt K H0 H' g L := by
  obtain ⟨n, dg, e, xs, h1, h2, h3, h4, h5⟩ := h
  refine ⟨n, dg, e, xs, fr_purse hp f _ _ h1 (by intro l m z e; cases e), fr_purse hp f _ _ h2 (fun l m z e => ?_), h3, h4, p_mono (fun x en r => ?_) h5⟩
  · injection e with e
    rw [e] at h5
    cases L with
    | nil => cases h5
    | cons a r =>
      cases h5 with
      | cons q _ =>
        obtain ⟨_, _, _, q1, _⟩ := q
        cases q1
  · obtain ⟨a, v, rd, q1, q2, q3, q4, q5⟩ := r
    exact ⟨a, v, rd, q1, q2, fr_purse hp f _ _ q3 (by intro l m z e; injection e with e; injection e with e; cases e), fr_purse hp f _ _ q4 (by intro l m z e; injection e with e; cases e), q5⟩
theorem RingAt.purse {K : PySem.W.Frag} {H H' : Hp} {p r : Addr} {U : Tm} {L : Log} {t d : Nat} (hp : PurseAt H p) (f : Fr [p] H H') (h : RingAt K H r U L t d) : RingAt K H' r U L t d := by
  obtain ⟨dx, b, g, o, ca, lw, op, h1, ⟨dxb, tb, h2, h3⟩, h4⟩ := h
  exact ⟨dx, b, g, o, ca, lw, op, fr_purse hp f _ _ h1 (by intro l m z e; cases e), ⟨dxb, tb, fr_purse hp f _ _ h2 (by intro l m z e; cases e), fr_purse hp f _ _ h3 (by intro l m z e; cases e)⟩, h4.purse hp f⟩
theorem WorldAt.purse {H H' : Hp} {p wd c bk : Addr} {U : Tm} {L : Log} {t : Nat} {B : List (Str × Int)} (hp : PurseAt H p) (f : Fr [p] H H') (hc : c ≠ p) (h : WorldAt H wd U L t c bk B) : WorldAt H' wd U L t c bk B := by
  obtain ⟨ch, d, h1, h2, h3, h4, h5⟩ := h
  exact ⟨ch, d, fr_purse hp f _ _ h1 (by intro l m z e; cases e), f _ _ (by simpa using hc) h2, h3.purse hp f, fr_purse hp f _ _ h4 (by intro l m z e; cases e), h5⟩
theorem WorldAt.same {H H' : Hp} {wd c bk : Addr} {U : Tm} {L : Log} {t : Nat} {B : List (Str × Int)} (f : Same H H') (h : WorldAt H wd U L t c bk B) : WorldAt H' wd U L t c bk B := by
  obtain ⟨ch, d, h1, h2, h3, h4, h5⟩ := h
  exact ⟨ch, d, f _ _ h1, f _ _ h2, h3.same f, f _ _ h4, h5⟩
/-! ## pick, deed, move, read, age -/
def spPick (K : PySem.W.Frag) : Sp := fun vs H Q _ => ∃ (p ch pl : Addr) (L : Log) (ks : List Str), vs = [.ref p, .ref ch, .ref pl] ∧ PurseAt H p ∧ ChainAt H ch L ∧ L.length ≤ 100 ∧ (∀ e ∈ L, GK e.1) ∧ H pl = some (.lst (ks.map V.str)) ∧ (∀ k ∈ ks, GK k) ∧ 1 ≤ ks.length ∧ ks.length ≤ 100 ∧
  ∀ (tt : Addr) (k : Str) (v : Option Int) H', GK k → (∀ z, v = some z → SmallI z) → PurseAt H' p → Fr [p] H H' → H' tt = some (.tup [.str k, cV v]) → Q (.ref tt) H'
theorem pool_ne {H : Hp} {p pl : Addr} {ks : List Str} (hp : PurseAt H p) (hpl : H pl = some (.lst (ks.map V.str))) : pl ≠ p := by
  obtain ⟨l, m, z, e⟩ := hp
  refine kind_ne hpl e fun q => ?_
  injection q with q
  cases ks with
  | nil => cases q
  | cons a r => injection q with q; cases q
theorem dpall_strs {K : PySem.W.Frag} {H : Hp} : ∀ ks : List Str, DpAll K H (ks.map V.str) (ks.map PyData.str)
  | [] => .nil
  | k :: r => .cons (.str k) (dpall_strs r)
theorem GK.ok {k : Str} (h : GK k) : PyData.strOk k = true := by
  have h1 : ∀ c ∈ k.cps.toList, c < 128 := fun c hc => of_decide_eq_true (List.all_eq_true.mp signs_small c (h.2.2 c hc))
  unfold PyData.strOk
  rw [Array.all_eq_true_iff_forall_mem]
  intro c hc
  have := h1 c (Array.mem_toList_iff.mpr hc)
  simp
  omega
theorem shaped_strs (ks : List Str) (hk : ∀ k ∈ ks, GK k) : SeqAt.shaped (.list (ks.map PyData.str)) = true := by
  have h1 : ∀ l : List Str, (∀ k ∈ l, GK k) → PyData.canLayAll0 (l.map PyData.str) = true := fun l => by
    induction l with
    | nil => intro _; rfl
    | cons a r ih =>
      intro h
      show (PyData.strOk a && PyData.canLayAll0 (r.map PyData.str)) = true
      rw [(h a List.mem_cons_self).ok, ih fun k hk => h k (List.mem_cons_of_mem _ hk)]
      rfl
  have h2 : ∀ l : List Str, PyData.depthAll (l.map PyData.str) = 0 := fun l => by
    induction l with
    | nil => rfl
    | cons a r ih => simp [PyData.depthAll, PyData.depth, ih]
  unfold SeqAt.shaped
  show (PyData.canLayAll0 _ && decide (PyData.depthAll _ + 1 ≤ 64)) = true
  rw [h1 ks hk, h2]
  rfl
theorem atI_neg1 {α : Type} {xs : List α} (h : xs ≠ []) : ∃ v, v ∈ xs ∧ atI xs (-1) = some v := by
  refine ⟨xs.getLast h, List.getLast_mem h, ?_⟩
  have := atI_last xs.dropLast (xs.getLast h)
  rw [List.dropLast_concat_getLast h] at this
  exact this
theorem scLawPick : FnScope ["_law_purse_here", "_law_chain", "_law_pool_here", "_law_way", "_law_name_here", "_law_lived", "_law_entry"] ["_law_purse_here", "_law_chain", "_law_pool_here"] (defScope sLawPick) := ⟨rfl, rfl, rfl, by decide +kernel, rfl, by decide +kernel, by decide +kernel⟩
theorem Tx.kLawPick {K : PySem.W.Frag} {mg : Str → Option Value} (T : Tx K mg) : PySem.W.keepIn K (.ref (He.ga K "_law_pick")) = true := let ⟨_, F⟩ := T.fsLawPick; F.kp
theorem r_law_pick {w : World} {K : PySem.W.Frag} {mg : Str → Option Value} {base : Heap} (T : Tx K mg) : FnR pg w K mg base (L2.CX pg w) 4 (He.ga K "_law_pick") (spPick K) := by
  obtain ⟨fd, F⟩ := T.fsLawPick
  refine mkR F scLawPick (F.bindsN fun _ _ _ _ _ _ us hl => match us, hl with | [_, _, _], _ => rfl) (fun vs H Q E h => ?_) (fun cdv A outer s H vs Q E hr h => ?_)
  · obtain ⟨p, ch, pl, L, ks, rfl, hp, hch, h100, hLk, hpl, hks, k1, k100, q⟩ := h
    rfl
  · obtain ⟨p, ch, pl, L, ks, rfl, hp, hch, h100, hLk, hpl, hks, k1, k100, q⟩ := h
    refine ⟨_, PSs.nox (pss_cons (ps_set (i := 3) scLawPick.nd rfl (by first | exact .inl rfl | exact .inr rfl) (pe_F (r_law_take T) (hr.mono (by decide)) T.g_law_take T.kLawTake takes0 (pa_cons (pv 0) (pa_cons pe_int pa_nil))))
      (pss_cons (ps_set (i := 4) scLawPick.nd rfl (by first | exact .inl rfl | exact .inr rfl) (pe_ix ix_list (pv 2) (pe_F (r_law_take T) (hr.mono (by decide)) T.g_law_take T.kLawTake takes0 (pa_cons (pv 0) (pa_cons (pe_callB call_len_seq (by rfl) T.n_len PySem.boot_len (pa_cons (pv 2) pa_nil)) pa_nil))) (fun _ _ => rfl)))
      (pss_cons (ps_setLc (i := 5) (own := [("_law_entry", 6)]) rfl scLawPick.nd rfl rfl (sw_true rfl rfl rfl (by decide +kernel)) (pi_list (pv 1)) (blkOk_by (N := [("_law_purse_here" : Str), ("_law_chain" : Str), ("_law_pool_here" : Str), ("_law_way" : Str), ("_law_name_here" : Str), ("_law_lived" : Str), ("_law_entry" : Str)]) (sc := defScope sLawPick) (by decide +kernel)) (fun _ _ _ _ _ => (pg_name (i := 6) scLawPick.nd rfl (.inl rfl))) (fun _ _ _ _ _ => (pts_one (pt_val (pe_ix (ix_tupK K) (pv 6) pe_int (fun _ _ => rfl))))) (fun _ _ _ _ _ => (pe_ix (ix_tupK K) (pv 6) pe_int (fun _ _ => rfl))))
      (Evl.pss_cut (ps_if (PW.pt (pw_and (pt_cmpR (op_neD hr.units) (pv 5) (pe_lst pa_nil) (nomark _)) (pw_and1 (pt_cmpR op_in_seq (pv 3) (pe_tup (pa_cons pe_int (pa_cons pe_int (pa_cons pe_int pa_nil)))) (by rfl))))) (pss_one (ps_set (i := 4) scLawPick.nd rfl (by first | exact .inl rfl | exact .inr rfl) (pe_ix ix_list (pv 5) (pe_un un_neg pe_int) (fun _ _ => rfl)))) pss_nil)
      (Evl.pss_cut (ps_if (PW.pt (pw_and (pt_cmpR (op_neD hr.units) (pv 5) (pe_lst pa_nil) (nomark _)) (pw_and1 (pt_cmpR op_eq (pv 3) pe_int (nomark _))))) (pss_one (ps_set (i := 4) scLawPick.nd rfl (by first | exact .inl rfl | exact .inr rfl) (pe_ix ix_list (pv 5) pe_int (fun _ _ => rfl)))) pss_nil)
      (Evl.pss_cut (ps_if (PW.pt (pw_and (pt_cmpR (op_neD hr.units) (pv 5) (pe_lst pa_nil) (nomark _)) (pw_and1 (pt_cmpR op_eq (pv 3) pe_int (nomark _))))) (pss_one (ps_set (i := 4) scLawPick.nd rfl (by first | exact .inl rfl | exact .inr rfl) (pe_ix ix_list (pv 5) (pe_F (r_law_take T) (hr.mono (by decide)) T.g_law_take T.kLawTake takes0 (pa_cons (pv 0) (pa_cons (pe_callB call_len_seq (by rfl) T.n_len PySem.boot_len (pa_cons (pv 5) pa_nil)) pa_nil))) (fun _ _ => rfl)))) pss_nil)
      (Evl.pss_cut (ps_if (pt_cmpR op_gt (pv 3) pe_int (nomark _)) (pss_one (ps_ret (pe_tup (pa_cons (pv 4) (pa_cons pe_non pa_nil))))) pss_nil)
      (pss_one (ps_ret (pe_tup (pa_cons (pv 4) (pa_cons (pe_F (r_law_worth T) (hr.mono (by decide)) T.g_law_worth T.kLawWorth takes0 (pa_cons (pv 0) pa_nil)) pa_nil)))))))))))), ?_⟩
    have plp := pool_ne hp hpl
    refine ⟨_, rfl, p, 10, rfl, hp, pos_small (by decide) (by decide), fun way H1 w0 w1 a1 f1 => ?_⟩
    have pl1 := f1 pl _ (by simpa using plp) hpl
    refine ⟨_, rfl, _, rfl, _, rfl, pl, _, rfl, .inl (SqL.of pl1), p, _, rfl, a1, pos_small (by rw [List.length_map]; omega) (by rw [List.length_map]; omega), fun d2 H2 d20 d21 a2 f2 => ?_⟩
    rw [List.length_map] at d21
    obtain ⟨k0, hk0⟩ := get_of (xs := ks) (i := d2.toNat) (by omega)
    have gk0 := hks k0 (List.mem_of_getElem? hk0)
    have pl2 := f2 pl _ (by simpa using plp) pl1
    have F2 := Fr.trans f1 f2
    obtain ⟨xs, h1, hx⟩ := hch.purse hp F2
    have hl := p_len hx
    refine ⟨pl, _, d2, .str k0, rfl, rfl, SqL.of pl2, ?_, ?_⟩
    · have := atI_nat (xs := ks.map V.str) (j := d2.toNat) (v := .str k0) (by rw [List.getElem?_map, hk0]; rfl)
      rw [Int.toNat_of_nonneg d20] at this
      exact this
    refine ⟨_, rfl, ch, rfl, ⟨_, SqL.of h1⟩, fun D nD => lc_list (xs := xs)
        (fun i H' => H' D = some (.lst ((nms (L.take i)).map V.str)) ∧ Same H2 H') ⟨upd_same, same_upd nD⟩ (fun i H' _ h => ?_) (fun i x H' hxx h => ?_) (fun H3 h => ?_)⟩
    · exact SqL.of (h.2 _ _ h1)
    · obtain ⟨hD, sm⟩ := h
      obtain ⟨en, hen, a, x1, rfl, k1, k2⟩ := p_get hx hxx
      have nt := nms_take hen
      refine ⟨rfl, _, rfl, a, _, 2, _, rfl, rfl, SqT.of (sm _ _ k1), rfl, _, rfl, ?_⟩
      cases hb : en.2.isSome with
      | true =>
        rw [hb] at nt
        refine ⟨_, rfl, a, _, 0, _, rfl, rfl, SqT.of (sm _ _ k1), rfl, _, hD, ?_, ?_, Same.step sm nD⟩
        · rw [List.length_map]
          have h1 := nms_le (L.take i)
          have h2 := List.length_take_le i L
          exact Nat.lt_of_le_of_lt (show _ ≤ 1000 by have := get_lt hxx; omega) (small1000 (Nat.le_refl _))
        · rw [upd_same, nt, List.map_append]
          rfl
      | false =>
        rw [hb] at nt
        refine ⟨?_, sm⟩
        rw [nt]
        show H' D = some (.lst ((nms (L.take i) ++ []).map V.str))
        rw [List.append_nil]
        exact hD
    obtain ⟨hD, sm3⟩ := h
    rw [hl, List.take_of_length_le (Nat.le_refl _)] at hD
    have a3 := a2.same sm3
    have F3 : Fr [p] H H3 := Fr.trans F2 (.of_same sm3)
    have hnk : ∀ k ∈ nms L, GK k := fun k hk => by
      obtain ⟨z, hz⟩ := nms_mem.mp hk
      exact hLk _ hz
    have nl := nms_le L
    have dn : D ≠ p := by
      obtain ⟨l, m, z, e⟩ := a2
      exact (ne_of_none e nD).symm
    -- what the three ifs keep
    have ne_eq : ∀ e : PyData, PyData.eqv (.list ((nms L).map PyData.str)) (.list []) = decide (nms L = []) := fun _ => by
      cases nms L <;> rfl
    have St : ∀ (σ' : L2.St) (H' : Hp), Prop := fun _ _ => True
    have test : ∀ (H' : Hp) (l : Addr), Same H3 H' → H' l = none → (upd H' l (.lst [])) D = some (.lst ((nms L).map V.str)) := fun H' l s n => same_upd n _ _ (s _ _ hD)
    refine ⟨fun σ' H4 => (∃ k, σ' = [some (.ref p), some (.ref ch), some (.ref pl), some (.int way), some (.str k), some (.ref D), none] ∧ GK k) ∧ Same H3 H4, ?_, ?_⟩
    · refine ⟨_, rfl, Nat.zero_le _, fun l nl2 => ⟨_, _, .lst (SqL.of (test H3 l (.refl _) nl2)) (dpall_strs _), .lst (SqL.of upd_same) .nil, shaped_strs _ hnk, rfl, _, rfl, ?_⟩⟩
      have s1 : Same H3 (upd H3 l (.lst [])) := same_upd nl2
      rw [ne_eq .none]
      refine ite2 (fun hn => ?_) (fun _ => iteF ⟨⟨_, rfl, gk0⟩, s1⟩)
      have hn2 : nms L ≠ [] := by simpa using hn
      refine ⟨_, rfl, (by show 3 ≤ sizeLine; decide), fun tt nt => ⟨tt, _, rfl, .inr (SqT.of upd_same), rfl, rfl, _, rfl, ?_⟩⟩
      have s2 := Same.trans s1 (same_upd (o := .tup [.int 0, .int 1, .int 9]) nt)
      refine ite2 (fun _ => ?_) (fun _ => ⟨⟨_, rfl, gk0⟩, s2⟩)
      obtain ⟨v, hv1, hv2⟩ := atI_neg1 (xs := (nms L).map V.str) (by simpa using hn2)
      obtain ⟨k, hk, rfl⟩ := List.mem_map.mp hv1
      exact ⟨_, rfl, 1, rfl, D, _, -1, .str k, rfl, rfl, SqL.of (s2 _ _ hD), hv2, ⟨_, rfl, hnk k hk⟩, s2⟩
    rintro σ' H4 ⟨⟨k4, rfl, gk4⟩, s4⟩
    refine ⟨fun σ' H5 => (∃ k, σ' = [some (.ref p), some (.ref ch), some (.ref pl), some (.int way), some (.str k), some (.ref D), none] ∧ GK k) ∧ Same H3 H5, ?_, ?_⟩
    · refine ⟨_, rfl, Nat.zero_le _, fun l nl2 => ⟨_, _, .lst (SqL.of (test H4 l s4 nl2)) (dpall_strs _), .lst (SqL.of upd_same) .nil, shaped_strs _ hnk, rfl, _, rfl, ?_⟩⟩
      have s1 : Same H3 (upd H4 l (.lst [])) := Same.trans s4 (same_upd nl2)
      rw [ne_eq .none]
      refine ite2 (fun hn => ?_) (fun _ => iteF ⟨⟨_, rfl, gk4⟩, s1⟩)
      have hn2 : nms L ≠ [] := by simpa using hn
      refine ⟨_, rfl, rfl, _, rfl, ?_⟩
      refine ite2 (fun _ => ?_) (fun _ => ⟨⟨_, rfl, gk4⟩, s1⟩)
      obtain ⟨k, hk⟩ := get_of (xs := nms L) (i := 0) (List.length_pos_iff.mpr hn2)
      exact ⟨_, rfl, D, _, 0, .str k, rfl, rfl, SqL.of (s1 _ _ hD), atI_nat (j := 0) (by rw [List.getElem?_map, hk]; rfl), ⟨_, rfl, hnk k (List.mem_of_getElem? hk)⟩, s1⟩
    rintro σ' H5 ⟨⟨k5, rfl, gk5⟩, s5⟩
    refine ⟨fun σ' H6 => (∃ k, σ' = [some (.ref p), some (.ref ch), some (.ref pl), some (.int way), some (.str k), some (.ref D), none] ∧ GK k) ∧ PurseAt H6 p ∧ Fr [p] H H6, ?_, ?_⟩
    · refine ⟨_, rfl, Nat.zero_le _, fun l nl2 => ⟨_, _, .lst (SqL.of (test H5 l s5 nl2)) (dpall_strs _), .lst (SqL.of upd_same) .nil, shaped_strs _ hnk, rfl, _, rfl, ?_⟩⟩
      have s1 : Same H3 (upd H5 l (.lst [])) := Same.trans s5 (same_upd nl2)
      rw [ne_eq .none]
      refine ite2 (fun hn => ?_) (fun _ => iteF ⟨⟨_, rfl, gk5⟩, a3.same s1, Fr.trans F3 (.of_same s1)⟩)
      have hn2 : nms L ≠ [] := by simpa using hn
      refine ⟨_, rfl, rfl, _, rfl, ?_⟩
      refine ite2 (fun _ => ?_) (fun _ => ⟨⟨_, rfl, gk5⟩, a3.same s1, Fr.trans F3 (.of_same s1)⟩)
      have pos := List.length_pos_iff.mpr hn2
      refine ⟨_, rfl, _, rfl, _, rfl, D, _, rfl, .inl (SqL.of (s1 _ _ hD)), p, _, rfl, a3.same s1, pos_small (by rw [List.length_map]; omega) (by rw [List.length_map]; omega), fun d6 H6 d60 d61 a6 f6 => ?_⟩
      rw [List.length_map] at d61
      obtain ⟨k, hk⟩ := get_of (xs := nms L) (i := d6.toNat) (by omega)
      have hD6 := f6 D _ (by simpa using dn) (s1 _ _ hD)
      refine ⟨D, _, d6, .str k, rfl, rfl, SqL.of hD6, ?_, ⟨_, rfl, hnk k (List.mem_of_getElem? hk)⟩, a6, Fr.trans F3 (Fr.trans (.of_same s1) f6)⟩
      have := atI_nat (xs := (nms L).map V.str) (j := d6.toNat) (v := .str k) (by rw [List.getElem?_map, hk]; rfl)
      rw [Int.toNat_of_nonneg d60] at this
      exact this
    rintro σ' H6 ⟨⟨k6, rfl, gk6⟩, a6, f6⟩
    refine ⟨fun σ' H7 => σ' = [some (.ref p), some (.ref ch), some (.ref pl), some (.int way), some (.str k6), some (.ref D), none] ∧ H7 = H6, ?_, ?_⟩
    · refine ⟨_, rfl, way, 6, rfl, rfl, _, rfl, ?_⟩
      refine ite2 (fun _ => ?_) (fun _ => ⟨rfl, rfl⟩)
      exact ⟨_, rfl, (by show 2 ≤ sizeLine; decide), fun tt nt => q tt k6 none _ gk6 (fun z h => by cases h) (a6.same (same_upd nt)) (Fr.trans f6 (.of_same (same_upd nt))) upd_same⟩
    rintro σ' H7 ⟨rfl, rfl⟩
    exact ⟨_, rfl, _, rfl, p, rfl, a6, fun z H8 hz a8 f8 => ⟨(by show 2 ≤ sizeLine; decide), fun tt nt => q tt k6 (some z) _ gk6 (fun y h => by cases h; exact hz) (a8.same (same_upd nt)) (Fr.trans f6 (Fr.trans f8 (.of_same (same_upd nt)))) upd_same⟩⟩
theorem exm_all {K : PySem.W.Frag} {mg : Str → Option Value} (T : Tx K mg) {x : Str} (h : x ∈ errs) : PySem.W.exmOne K (.ref (He.ga K x)) (.ref (He.ga K "StoreError")) = some true := by
  have h : x = "KeyLimit" ∨ x = "UnknownKey" ∨ x = "BadChoice" ∨ x = "Stalled" := by
    unfold errs at h
    simpa using h
  rcases h with rfl | rfl | rfl | rfl
  · exact T.x_KeyLimit_StoreError
  · exact T.x_UnknownKey_StoreError
  · exact T.x_BadChoice_StoreError
  · exact T.x_Stalled_StoreError
def spLDeed (K : PySem.W.Frag) : Sp := fun vs H Q _ => ∃ (r : Addr) (k : Str) (v cc : Option Int) (U : Tm) (L : Log) (t d : Nat), vs = [.ref r, .str k, cV v, cV cc] ∧ RingAt K H r U L t d ∧ U.Ok ∧ t < U.cyc.length ∧ LogOk U L ∧ GK k ∧ Small29 d ∧
  (due U t L k v cc = none → ∀ H', Same H H' → Q (.int 0) H') ∧ (∀ L', due U t L k v cc = some L' → ∀ H', Fr [r] H H' → RingAt K H' r U L' ((t + 1) % U.cyc.length) (d + 1) → Q (.int 1) H')
theorem scLawDeed : FnScope ["_law_ring_here", "_law_name_here", "_law_worth_here", "_law_tally_here", "_law_told"] ["_law_ring_here", "_law_name_here", "_law_worth_here", "_law_tally_here"] (defScope sLawDeed) := ⟨rfl, rfl, rfl, by decide +kernel, rfl, by decide +kernel, by decide +kernel⟩
theorem Tx.kLawDeed {K : PySem.W.Frag} {mg : Str → Option Value} (T : Tx K mg) : PySem.W.keepIn K (.ref (He.ga K "_law_deed")) = true := let ⟨_, F⟩ := T.fsLawDeed; F.kp
theorem r_law_deed {w : World} {K : PySem.W.Frag} {mg : Str → Option Value} {base : Heap} (T : Tx K mg) : FnR pg w K mg base (L2.CX pg w) 7 (He.ga K "_law_deed") (spLDeed K) := by
  obtain ⟨fd, F⟩ := T.fsLawDeed
  refine mkR F scLawDeed (F.bindsN fun _ _ _ _ _ _ us hl => match us, hl with | [_, _, _, _], _ => rfl) (fun vs H Q E h => ?_) (fun cdv A outer s H vs Q E hr h => ?_)
  · obtain ⟨r, k, v, cc, U, L, t, d, rfl, hring, hU, ht, hL, hk, hd, q1, q2⟩ := h
    rfl
  · obtain ⟨r, k, v, cc, U, L, t, d, rfl, hring, hU, ht, hL, hk, hd, q1, q2⟩ := h
    refine ⟨_, PSs.nox (pss_cons (ps_set (i := 4) scLawDeed.nd rfl (by first | exact .inl rfl | exact .inr rfl) pe_non)
      (Evl.pss_cut (ps_try_only rfl rfl ⟨rfl, by decide, .inl T.g_StoreError⟩ takes0 (fun W pn xe tk _ => (pss_one (ps_if (PW.pt (pw_and (pt_cmpR op_isN (pv 2) pe_non (nomark _)) (pw_and1 (pt_cmpR op_isN (pv 3) pe_non (nomark _))))) (pss_one (ps_set (i := 4) scLawDeed.nd rfl (by first | exact .inl rfl | exact .inr rfl) (pe_M (pv 0) T.c_Ring T.m_Ring_delete (r_Ring_delete0 T) (hr.mono (by decide)) tk (pa_cons (pv 1) pa_nil)))) (pss_one (ps_if (pt_cmpR op_isN (pv 2) pe_non (nomark _)) (pss_one (ps_set (i := 4) scLawDeed.nd rfl (by first | exact .inl rfl | exact .inr rfl) (pe_M (pv 0) T.c_Ring T.m_Ring_delete (r_Ring_delete T) (hr.mono (by decide)) tk (pa_cons (pv 1) (pa_cons (pv 3) pa_nil))))) (pss_one (ps_if (pt_cmpR op_isN (pv 3) pe_non (nomark _)) (pss_one (ps_set (i := 4) scLawDeed.nd rfl (by first | exact .inl rfl | exact .inr rfl) (pe_M (pv 0) T.c_Ring T.m_Ring_put (r_Ring_put0 T) (hr.mono (by decide)) tk (pa_cons (pv 1) (pa_cons (pv 2) pa_nil))))) (pss_one (ps_set (i := 4) scLawDeed.nd rfl (by first | exact .inl rfl | exact .inr rfl) (pe_M (pv 0) T.c_Ring T.m_Ring_put (r_Ring_put T) (hr.mono (by decide)) tk (pa_cons (pv 1) (pa_cons (pv 2) (pa_cons (pv 3) pa_nil))))))))))))) (fun a oe cls d pn _ _ => (pss_one (ps_ret pe_int))))
      (pss_cons (ps_if (pt_cmpR op_isN (pv 4) pe_non (nomark _)) (pss_one (ps_ret pe_int)) pss_nil)
      (pss_one (ps_ret pe_int))))), ?_⟩
    obtain ⟨dx, b, g0, o, ca, lw, op, hr0, hb, hl0⟩ := id hring
    refine ⟨fun σ' H' => σ' = [some (.ref r), some (.str k), some (cV v), some (cV cc), some .non] ∧ ∃ L', due U t L k v cc = some L' ∧ Fr [r] H H' ∧ RingAt K H' r U L' ((t + 1) % U.cyc.length) (d + 1), ?_, ?_⟩
    · have out : ∀ (ts : Addr → Value → Option Addr → TS) (Wout : WX) (D : Ends) (σ : L2.St), (∀ a cls d' H', Same H H' → due U t L k v cc = none → ts a cls d' D σ H') → due U t L k v cc = none → OutSE K H (fun cls d' H' => wOnly K (.ref (He.ga K "StoreError")) ts Wout D cls d' σ H') := fun ts Wout D σ h hn x d' H' hx s =>
        ⟨true, exm_all T hx, fun _ a _ => h a _ _ _ s hn, fun z => by cases z⟩
      refine ⟨_, rfl, rfl, _, rfl, ?_⟩
      cases v with
      | none =>
        refine iteT ?_
        refine ⟨_, rfl, rfl, _, rfl, ?_⟩
        cases cc with
        | none =>
          refine iteT ?_
          refine ⟨_, rfl, r, dx, _, rfl, hr0, rfl, _, rfl, r, k, none, rfl, U, L, t, d, hring, hU, ht, hL, hk, hd, out _ _ _ _ (fun a cls d' H' s hn => q1 hn H' s), fun L' h H' f2 r2 => ⟨rfl, L', h, f2, r2⟩⟩
        | some c =>
          rw [decide_eq_false (show ¬ cV (some c) = V.non by intro h; cases h)]
          refine iteF ?_
          refine ⟨_, rfl, rfl, _, rfl, ?_⟩
          refine iteT ?_
          refine ⟨_, rfl, r, dx, _, rfl, hr0, rfl, _, rfl, _, rfl, r, k, some c, rfl, U, L, t, d, hring, hU, ht, hL, hk, hd, out _ _ _ _ (fun a cls d' H' s hn => q1 hn H' s), fun L' h H' f2 r2 => ⟨rfl, L', h, f2, r2⟩⟩
      | some z =>
        rw [decide_eq_false (show ¬ cV (some z) = V.non by intro h; cases h)]
        refine iteF (iteF ?_)
        refine ⟨_, rfl, rfl, _, rfl, ?_⟩
        rw [decide_eq_false (show ¬ cV (some z) = V.non by intro h; cases h)]
        refine iteF ?_
        refine ⟨_, rfl, rfl, _, rfl, ?_⟩
        cases cc with
        | none =>
          refine iteT ?_
          refine ⟨_, rfl, r, dx, _, rfl, hr0, rfl, _, rfl, _, rfl, r, k, z, none, rfl, U, L, t, d, hring, hU, ht, hL, hk, hd, out _ _ _ _ (fun a cls d' H' s hn => q1 hn H' s), fun L' h H' f2 r2 => ⟨rfl, L', h, f2, r2⟩⟩
        | some c =>
          rw [decide_eq_false (show ¬ cV (some c) = V.non by intro h; cases h)]
          refine iteF ?_
          refine ⟨_, rfl, r, dx, _, rfl, hr0, rfl, _, rfl, _, rfl, _, rfl, r, k, z, some c, rfl, U, L, t, d, hring, hU, ht, hL, hk, hd, out _ _ _ _ (fun a cls d' H' s hn => q1 hn H' s), fun L' h H' f2 r2 => ⟨rfl, L', h, f2, r2⟩⟩
    rintro σ' H' ⟨rfl, L', h, f2, r2⟩
    refine ⟨_, rfl, rfl, _, rfl, ?_⟩
    exact iteT (q2 L' h H' f2 r2)
def spLRead (K : PySem.W.Frag) : Sp := fun vs H Q _ => ∃ (r : Addr) (k : Str) (U : Tm) (L : Log) (t d : Nat), vs = [.ref r, .str k] ∧ RingAt K H r U L t d ∧ GK k ∧
  (∀ (i : Nat) z H' tt, L[i]? = some (k, some z) → Same H H' → H' tt = some (.tup [.str "value", .int z]) → Q (.ref tt) H') ∧ (k ∉ nms L → ∀ H' tt, Same H H' → H' tt = some (.tup [.str "unknown", .str k]) → Q (.ref tt) H')
theorem scLawRead : FnScope ["_law_ring_here", "_law_name_here", "raised"] ["_law_ring_here", "_law_name_here"] (defScope sLawRead) := ⟨rfl, rfl, rfl, by decide +kernel, rfl, by decide +kernel, by decide +kernel⟩
theorem Tx.kLawRead {K : PySem.W.Frag} {mg : Str → Option Value} (T : Tx K mg) : PySem.W.keepIn K (.ref (He.ga K "_law_read")) = true := let ⟨_, F⟩ := T.fsLawRead; F.kp
theorem r_law_read {w : World} {K : PySem.W.Frag} {mg : Str → Option Value} {base : Heap} (T : Tx K mg) : FnR pg w K mg base (L2.CX pg w) 4 (He.ga K "_law_read") (spLRead K) := by
  obtain ⟨fd, F⟩ := T.fsLawRead
  refine mkR F scLawRead (F.bindsN fun _ _ _ _ _ _ us hl => match us, hl with | [_, _], _ => rfl) (fun vs H Q E h => ?_) (fun cdv A outer s H vs Q E hr h => ?_)
  · obtain ⟨r, k, U, L, t, d, rfl, hring, hk, q1, q2⟩ := h
    rfl
  · obtain ⟨r, k, U, L, t, d, rfl, hring, hk, q1, q2⟩ := h
    refine ⟨_, PSs.nox (pss_one (ps_try_as (i := 2) rfl rfl scLawRead.nd rfl rfl ⟨rfl, by decide, .inl T.g_UnknownKey⟩ takes0 (fun W pn xe tk _ => (pss_one (ps_ret (pe_tup (pa_cons pe_str (pa_cons (pe_M (pv 0) T.c_Ring T.m_Ring_read (r_Ring_read T) (hr.mono (by decide)) tk (pa_cons (pv 1) pa_nil)) pa_nil)))))) (fun a oe cls d pn hz hf => (pss_one (ps_ret (pe_tup (pa_cons pe_str (pa_cons (pe_xf T.ex.2.2.1 T.eUK.noF hz hf (pv 2)) pa_nil)))))))), ?_⟩
    obtain ⟨dx, b, g0, o, ca, lw, op, hr0, hb, hl0⟩ := id hring
    refine ⟨_, rfl, r, dx, _, rfl, hr0, rfl, _, rfl, r, k, U, L, t, d, rfl, hring, repr_gk hk, fun i z H' hi sm => ⟨(by show 2 ≤ sizeLine; decide), fun tt nt => q1 i z _ tt hi (Same.trans sm (same_upd nt)) upd_same⟩, fun hn d' H' sm hd => ?_⟩
    refine ⟨true, T.x_UnknownKey_UnknownKey, fun _ a _ => ?_, fun z => by cases z⟩
    exact ⟨_, rfl, rfl, rfl, d', _, _, rfl, hd, rfl, (by show 2 ≤ sizeLine; decide), fun tt nt => q2 hn _ tt (Same.trans sm (same_upd nt)) upd_same⟩
def spLAge (K : PySem.W.Frag) : Sp := fun vs H Q _ => ∃ (r : Addr) (k : Str) (U : Tm) (L : Log) (t d : Nat), vs = [.ref r, .str k] ∧ RingAt K H r U L t d ∧ GK k ∧
  (∀ (i : Nat) z H' tt, L[i]? = some (k, some z) → Same H H' → H' tt = some (.tup [.str "depth", .int ((L.length : Nat) - (i : Int))]) → Q (.ref tt) H') ∧ (k ∉ nms L → ∀ H' tt, Same H H' → H' tt = some (.tup [.str "unknown", .str k]) → Q (.ref tt) H')
theorem scLawAge : FnScope ["_law_ring_here", "_law_name_here", "raised"] ["_law_ring_here", "_law_name_here"] (defScope sLawAge) := ⟨rfl, rfl, rfl, by decide +kernel, rfl, by decide +kernel, by decide +kernel⟩
theorem Tx.kLawAge {K : PySem.W.Frag} {mg : Str → Option Value} (T : Tx K mg) : PySem.W.keepIn K (.ref (He.ga K "_law_age")) = true := let ⟨_, F⟩ := T.fsLawAge; F.kp
theorem r_law_age {w : World} {K : PySem.W.Frag} {mg : Str → Option Value} {base : Heap} (T : Tx K mg) : FnR pg w K mg base (L2.CX pg w) 4 (He.ga K "_law_age") (spLAge K) := by
  obtain ⟨fd, F⟩ := T.fsLawAge
  refine mkR F scLawAge (F.bindsN fun _ _ _ _ _ _ us hl => match us, hl with | [_, _], _ => rfl) (fun vs H Q E h => ?_) (fun cdv A outer s H vs Q E hr h => ?_)
  · obtain ⟨r, k, U, L, t, d, rfl, hring, hk, q1, q2⟩ := h
    rfl
  · obtain ⟨r, k, U, L, t, d, rfl, hring, hk, q1, q2⟩ := h
    refine ⟨_, PSs.nox (pss_one (ps_try_as (i := 2) rfl rfl scLawAge.nd rfl rfl ⟨rfl, by decide, .inl T.g_UnknownKey⟩ takes0 (fun W pn xe tk _ => (pss_one (ps_ret (pe_tup (pa_cons pe_str (pa_cons (pe_M (pv 0) T.c_Ring T.m_Ring_age (r_Ring_age T) (hr.mono (by decide)) tk (pa_cons (pv 1) pa_nil)) pa_nil)))))) (fun a oe cls d pn hz hf => (pss_one (ps_ret (pe_tup (pa_cons pe_str (pa_cons (pe_xf T.ex.2.2.1 T.eUK.noF hz hf (pv 2)) pa_nil)))))))), ?_⟩
    obtain ⟨dx, b, g0, o, ca, lw, op, hr0, hb, hl0⟩ := id hring
    refine ⟨_, rfl, r, dx, _, rfl, hr0, rfl, _, rfl, r, k, U, L, t, d, rfl, hring, repr_gk hk, fun i z H' hi sm => ⟨(by show 2 ≤ sizeLine; decide), fun tt nt => q1 i z _ tt hi (Same.trans sm (same_upd nt)) upd_same⟩, fun hn d' H' sm hd => ?_⟩
    refine ⟨true, T.x_UnknownKey_UnknownKey, fun _ a _ => ?_, fun z => by cases z⟩
    exact ⟨_, rfl, rfl, rfl, d', _, _, rfl, hd, rfl, (by show 2 ≤ sizeLine; decide), fun tt nt => q2 hn _ tt (Same.trans sm (same_upd nt)) upd_same⟩
end K12

set_option Elab.async false
set_option linter.all false
set_option maxRecDepth 100000
set_option maxHeartbeats 4000000
namespace K12
open PySem PySem.Spec PyProof.Rows L2
/-! ## move: ring and world together -/
theorem book_mem {B : List (Str × Int)} {L : Log} (h : BookOf B L) {k : Str} : k ∈ B.map (·.1) ↔ k ∈ nms L := by
  rw [nms_mem, List.mem_map]
  constructor
  · rintro ⟨⟨a, z⟩, h1, rfl⟩
    exact ⟨z, (h.mem _ _).mp h1⟩
  · rintro ⟨z, hz⟩
    exact ⟨(k, z), (h.mem _ _).mpr hz, rfl⟩
theorem nodup_le {α : Type} [DecidableEq α] : ∀ {xs ys : List α}, xs.Nodup → (∀ a ∈ xs, a ∈ ys) → xs.length ≤ ys.length
  | [], ys, _, _ => Nat.zero_le _
  | x :: xs, ys, nd, h => by
    have h1 := List.nodup_cons.mp nd
    have hx := h x List.mem_cons_self
    have ih := nodup_le (xs := xs) (ys := ys.erase x) h1.2 fun a ha => (List.mem_erase_of_ne (fun e => h1.1 (by rw [← e]; exact ha))).mpr (h a (List.mem_cons_of_mem _ ha))
    rw [List.length_erase_of_mem hx] at ih
    have : 0 < ys.length := List.length_pos_of_mem hx
    show xs.length + 1 ≤ ys.length
    omega
theorem book_len {B : List (Str × Int)} {L : Log} (h : BookOf B L) (nd : (nms L).Nodup) : B.length = cnt L := by
  have h1 : (B.map (·.1)).length ≤ (nms L).length := nodup_le h.nd fun a ha => (book_mem h).mp ha
  have h2 : (nms L).length ≤ (B.map (·.1)).length := nodup_le nd fun a ha => (book_mem h).mpr ha
  rw [List.length_map] at h1 h2
  rw [← nms_len]
  omega
theorem drop_book (B : List (Str × Int)) (k : Str) : dropK (bookV B) (.inr k : Key) = bookV (B.filter fun p => decide (p.1 ≠ k)) := by
  unfold dropK bookV
  rw [List.filter_map]
  congr 1
  refine List.filter_congr fun p _ => ?_
  show decide ((Sum.inr p.1 : Key) ≠ .inr k) = decide (p.1 ≠ k)
  by_cases h : p.1 = k <;> simp [h]
def putB (B : List (Str × Int)) (k : Str) (z : Int) : List (Str × Int) := if k ∈ B.map (·.1) then B.map fun p => if p.1 = k then (p.1, z) else p else B ++ [(k, z)]
theorem put_book (B : List (Str × Int)) (k : Str) (z : Int) : putK (bookV B) (.inr k : Key) (.int z) = bookV (putB B k z) := by
  unfold putB
  by_cases h : k ∈ B.map (·.1)
  · rw [if_pos h]
    unfold putK
    have e : ((bookV B).any fun kv => decide (kv.1 = (.inr k : Key))) = true := by
      obtain ⟨p, hp, e⟩ := List.mem_map.mp h
      exact List.any_eq_true.mpr ⟨_, List.mem_map.mpr ⟨p, hp, rfl⟩, decide_eq_true (by show (Sum.inr p.1 : Key) = .inr k; rw [e])⟩
    rw [if_pos e]
    unfold bookV
    rw [List.map_map, List.map_map]
    refine List.map_congr_left fun p _ => ?_
    show (if (Sum.inr p.1 : Key) = .inr k then ((Sum.inr p.1 : Key), V.int z) else (.inr p.1, V.int p.2)) = ((.inr (if p.1 = k then (p.1, z) else p).1 : Key), V.int (if p.1 = k then (p.1, z) else p).2)
    by_cases hk : p.1 = k
    · rw [if_pos hk, if_pos (by rw [hk])]
    · rw [if_neg hk, if_neg (fun e => hk (by injection e))]
  · rw [if_neg h, putK_new _ (valV_book_none h)]
    unfold bookV
    rw [List.map_append]
    rfl
theorem drop_bookOf {B : List (Str × Int)} {L L' : Log} {k : Str} (h : BookOf B L) (hm : ∀ k' z, (k', some z) ∈ L' ↔ (k' ≠ k ∧ (k', some z) ∈ L) ∨ (k' = k ∧ (none : Option Int) = some z)) : BookOf (B.filter fun p => decide (p.1 ≠ k)) L' := by
  refine ⟨?_, fun k' z => ?_⟩
  · exact h.nd.sublist (List.Sublist.map _ List.filter_sublist)
  · rw [List.mem_filter, hm, h.mem]
    constructor
    · rintro ⟨h1, h2⟩
      exact .inl ⟨of_decide_eq_true h2, h1⟩
    · rintro (⟨h1, h2⟩ | ⟨_, h2⟩)
      · exact ⟨h2, decide_eq_true h1⟩
      · cases h2
theorem put_bookOf {B : List (Str × Int)} {L L' : Log} {k : Str} {z0 : Int} (h : BookOf B L) (hm : ∀ k' z, (k', some z) ∈ L' ↔ (k' ≠ k ∧ (k', some z) ∈ L) ∨ (k' = k ∧ some z0 = some z)) : BookOf (putB B k z0) L' := by
  unfold putB
  split
  · rename_i hk
    refine ⟨?_, fun k' z => ?_⟩
    · have e : (B.map fun p => if p.1 = k then (p.1, z0) else p).map (·.1) = B.map (·.1) := by
        rw [List.map_map]
        refine List.map_congr_left fun p _ => ?_
        show (if p.1 = k then (p.1, z0) else p).1 = p.1
        split <;> rfl
      rw [e]
      exact h.nd
    · rw [hm, List.mem_map]
      constructor
      · rintro ⟨p, h1, h2⟩
        by_cases hp : p.1 = k
        · rw [if_pos hp] at h2
          injection h2 with e1 e2
          exact .inr ⟨by rw [← e1, hp], by rw [e2]⟩
        · rw [if_neg hp] at h2
          subst h2
          exact .inl ⟨hp, (h.mem _ _).mp h1⟩
      · rintro (⟨h1, h2⟩ | ⟨h1, h2⟩)
        · exact ⟨(k', z), (h.mem _ _).mpr h2, by rw [if_neg h1]⟩
        · obtain ⟨p, hp, e⟩ := List.mem_map.mp hk
          have e2 : p.1 = k := e
          refine ⟨p, hp, ?_⟩
          rw [if_pos e2, h1, ← Option.some.inj h2, e2]
  · rename_i hk
    refine ⟨?_, fun k' z => ?_⟩
    · rw [List.map_append]
      refine List.nodup_append.mpr ⟨h.nd, List.nodup_cons.mpr ⟨by simp, List.nodup_nil⟩, fun a ha b hb e => ?_⟩
      obtain rfl : b = k := by simpa using hb
      exact hk (e ▸ ha)
    · rw [hm, List.mem_append, h.mem, List.mem_singleton, Prod.mk.injEq]
      constructor
      · rintro (h1 | ⟨h1, h2⟩)
        · exact .inl ⟨fun e => hk ((book_mem h).mpr (nms_mem.mpr ⟨z, by rw [← e]; exact h1⟩)), h1⟩
        · exact .inr ⟨h1, by rw [h2]⟩
      · rintro (⟨_, h2⟩ | ⟨h1, h2⟩)
        · exact .inl h2
        · exact .inr ⟨h1, (Option.some.inj h2).symm⟩
def spMove (K : PySem.W.Frag) : Sp := fun vs H Q _ => ∃ (r wd : Addr) (k : Str) (v cc : Option Int) (U : Tm) (L : Log) (t d : Nat) (c bk : Addr) (B : List (Str × Int)), vs = [.ref r, .ref wd, .str k, cV v, cV cc] ∧ RingAt K H r U L t d ∧ WorldAt H wd U L t c bk B ∧ wd ≠ bk ∧ U.Ok ∧ LogOk U L ∧ t < U.cyc.length ∧ GK k ∧ (∀ z, v = some z → SmallI z) ∧ Small29 d ∧
  ∀ H' L' t' d' B', RingAt K H' r U L' t' d' → WorldAt H' wd U L' t' c bk B' → LogOk U L' → t' < U.cyc.length → d' ≤ d + 1 → Fr [r, wd, bk] H H' → Q (.bl true) H'
theorem scLawMove : FnScope ["_law_ring_here", "_law_world_here", "_law_name_here", "_law_worth_here", "_law_tally_here", "_law_due_here", "_law_book"] ["_law_ring_here", "_law_world_here", "_law_name_here", "_law_worth_here", "_law_tally_here"] (defScope sLawMove) := ⟨rfl, rfl, rfl, by decide +kernel, rfl, by decide +kernel, by decide +kernel⟩
theorem Tx.kLawMove {K : PySem.W.Frag} {mg : Str → Option Value} (T : Tx K mg) : PySem.W.keepIn K (.ref (He.ga K "_law_move")) = true := let ⟨_, F⟩ := T.fsLawMove; F.kp
theorem r_law_move {w : World} {K : PySem.W.Frag} {mg : Str → Option Value} {base : Heap} (T : Tx K mg) : FnR pg w K mg base (L2.CX pg w) 8 (He.ga K "_law_move") (spMove K) := by
  obtain ⟨fd, F⟩ := T.fsLawMove
  refine mkR F scLawMove (F.bindsN fun _ _ _ _ _ _ us hl => match us, hl with | [_, _, _, _, _], _ => rfl) (fun vs H Q E h => ?_) (fun cdv A outer s H vs Q E hr h => ?_)
  · obtain ⟨r, wd, k, v, cc, U, L, t, d, c, bk, B, rfl, hring, hworld, hwb, hU, hL, ht, hk, hv, hd, q⟩ := h
    rfl
  · obtain ⟨r, wd, k, v, cc, U, L, t, d, c, bk, B, rfl, hring, hworld, hwb, hU, hL, ht, hk, hv, hd, q⟩ := h
    refine ⟨_, PSs.nox (pss_cons (ps_set (i := 5) scLawMove.nd rfl (by first | exact .inl rfl | exact .inr rfl) (pe_F (r_law_due T) (hr.mono (by decide)) T.g_law_due T.kLawDue takes0 (pa_cons (pv 1) (pa_cons (pv 2) (pa_cons (pv 3) (pa_cons (pv 4) pa_nil))))))
      (pss_cons (ps_if (pt_cmpR op_ne (pe_F (r_law_deed T) (hr.mono (by decide)) T.g_law_deed T.kLawDeed takes0 (pa_cons (pv 0) (pa_cons (pv 2) (pa_cons (pv 3) (pa_cons (pv 4) pa_nil))))) (pe_callTy call_int1 (by rfl) T.n_int (by decide +kernel) (pa_cons (pe_cmpR op_eq (pe_ix ix_tup (pv 5) pe_int (fun _ _ => rfl)) pe_str (nomark _)) pa_nil)) (nomark _)) (pss_one (ps_ret pe_bl)) pss_nil)
      (pss_cons (ps_if (pt_cmpR op_ne (pe_ix ix_tup (pv 5) pe_int (fun _ _ => rfl)) pe_str (nomark _)) (pss_one (ps_ret pe_bl)) pss_nil)
      (pss_cons (ps_set (i := 6) scLawMove.nd rfl (by first | exact .inl rfl | exact .inr rfl) (pe_dget (hu_of hr) (pv 1) pe_str (fun _ _ => rfl)))
      (Evl.pss_cut (ps_if (pt_cmpR op_isN (pv 3) pe_non (nomark _)) (pss_one (ps_expr (pe_dpop1 (pv 6) (pv 2) ⟨rfl, rfl, rfl, rfl⟩))) (pss_one (ps_dput (hu_of hr) (pv 6) (pv 2) (pv 3) rfl)))
      (pss_cons (ps_dput (hu_of hr) (pv 1) pe_str (pe_ix ix_tup (pv 5) pe_int (fun _ _ => rfl)) rfl)
      (pss_cons (ps_dput (hu_of hr) (pv 1) pe_str (pe_op op_add (pe_dget (hu_of hr) (pv 1) pe_str (fun _ _ => rfl)) pe_int) rfl)
      (pss_cons (ps_dput (hu_of hr) (pv 1) pe_str (pe_op op_mod (pe_callTy call_int1 (by rfl) T.n_int (by decide +kernel) (pa_cons (pe_op op_add (pe_dget (hu_of hr) (pv 1) pe_str (fun _ _ => rfl)) pe_int) pa_nil)) (pe_callB call_len_seq (by rfl) T.n_len PySem.boot_len (pa_cons (pe_dget (hu_of hr) (pv 1) pe_str (fun _ _ => rfl)) pa_nil))) rfl)
      (pss_one (ps_ret pe_bl)))))))))), ?_⟩
    refine ⟨_, rfl, _, rfl, _, rfl, _, rfl, wd, k, v, cc, U, L, t, c, bk, B, rfl, hworld, hU, hL, ht, fun H1 tt ch1 s x n sm1 htt hno hyes => ?_⟩
    have ring1 := hring.same sm1
    have world1 := hworld.same sm1
    refine ⟨_, rfl, _, rfl, _, rfl, _, rfl, r, k, v, cc, U, L, t, d, rfl, ring1, hU, ht, hL, hk, hd, fun hn H2 sm2 => ?_, fun L' hd' H2 f2 r2 => ?_⟩
    · have htt2 := sm2 _ _ htt
      refine ⟨_, rfl, tt, _, 0, _, rfl, rfl, SqT.of htt2, rfl, rfl, .inr ⟨_, rfl, ?_⟩⟩
      have hs : ¬ V.str s = V.str "done" := fun e => by injection e with e; exact hno hn e
      rw [decide_eq_false hs]
      refine ⟨rfl, _, rfl, ?_⟩
      refine iteF ?_
      refine ⟨_, rfl, tt, _, 0, _, rfl, rfl, SqT.of htt2, rfl, rfl, _, rfl, ?_⟩
      rw [decide_eq_false hs]
      refine iteT ?_
      exact q H2 L t d B (ring1.same sm2) (world1.same sm2) hL ht (Nat.le_succ d) (.of_same (Same.trans sm1 sm2))
    · obtain ⟨hs, hch1⟩ := hyes L' hd'
      subst hs
      obtain ⟨okL, memL⟩ := due_ok hU hL hk hv hd'
      obtain ⟨ch, dw, w1, w2, w3, w4, w5⟩ := id world1
      obtain ⟨dx, b, g, o, ca, lw, op, hr1, _, _⟩ := id ring1
      have wr : wd ≠ r := kind_ne w1 hr1 (by intro z; cases z)
      have br : bk ≠ r := kind_ne w4 hr1 (by intro z; cases z)
      have kp12 : Kept H1 H2 := Fr.kept (S := [r]) (fun b' hb' => by
        obtain rfl : b' = r := by simpa using hb'
        exact .inr ⟨_, _, _, hr1, by show 2 ≤ 12; decide⟩) f2
      have htt2 := kp12.2.1 _ _ htt
      have w1' := f2 _ _ (by simpa using wr) w1
      have w4' := f2 _ _ (by simpa using br) w4
      have w2' := kp12.1 _ _ w2
      have hch2 := hch1.kept kp12
      refine ⟨_, rfl, tt, _, 0, _, rfl, rfl, SqT.of htt2, rfl, rfl, .inr ⟨_, rfl, ?_⟩⟩
      rw [decide_eq_true (show V.str "done" = V.str "done" from rfl)]
      refine ⟨rfl, _, rfl, ?_⟩
      refine iteF ?_
      refine ⟨_, rfl, tt, _, 0, _, rfl, rfl, SqT.of htt2, rfl, rfl, _, rfl, ?_⟩
      rw [decide_eq_true (show V.str "done" = V.str "done" from rfl)]
      refine iteF ?_
      refine ⟨_, rfl, wd, _, rfl, wg_book w1', ?_⟩
      -- the book
      refine ⟨fun σ' H3 => σ' = [some (.ref r), some (.ref wd), some (.str k), some (cV v), some (cV cc), some (.ref tt), some (.ref bk)] ∧ ∃ B', H3 = upd H2 bk (.dK (bookV B')) ∧ BookOf B' L', ?_, ?_⟩
      · refine ⟨_, rfl, rfl, _, rfl, ?_⟩
        cases v with
        | none =>
          refine iteT ?_
          have hin : k ∈ nms L := by
            by_cases h : k ∈ nms L
            · exact h
            · rw [due_eq, if_pos ⟨rfl, h⟩] at hd'
              cases hd'
          obtain ⟨z, hz⟩ := nms_mem.mp hin
          refine ⟨_, rfl, bk, rfl, ?_, _, rfl, bookV B, .inr k, .int z, w4', rfl, valV_book_some w5.nd ((w5.mem _ _).mpr hz), rfl, _, ?_, drop_bookOf w5 memL⟩
          · exact .inl ⟨_, .inl w4'⟩
          · rw [drop_book]
        | some z =>
          rw [decide_eq_false (show ¬ cV (some z) = V.non by intro h; cases h)]
          refine iteF ?_
          have blen : (bookV B).length ≤ 1000 := by
            rw [List.length_map]
            have h1 : (B.map (·.1)).length ≤ (nms L).length := nodup_le w5.nd fun a ha => (book_mem w5).mp ha
            rw [List.length_map] at h1
            have h2 := nms_le L
            have h3 := hL.len
            have h4 := hU.s64
            omega
          refine ⟨_, rfl, _, rfl, _, rfl, bk, _, rfl, DPut.k (k := .inr k) w4' (small1000 blen), rfl, _, ?_, put_bookOf w5 memL⟩
          show upd H2 bk (.dK (putK (bookV B) (.inr k) (.int z))) = _
          rw [put_book]
      rintro σ' H3 ⟨rfl, B', rfl, hB'⟩
      have w1'' : (upd H2 bk (.dK (bookV B'))) wd = some (.dK (worldV U c ch bk t dw)) := by rw [upd_ne hwb]; exact w1'
      have htt3 : (upd H2 bk (.dK (bookV B'))) tt = some (.tup [.str "done", x, .ref ch1, n]) := by rw [upd_ne (kind_ne htt2 w4' (by intro z; cases z))]; exact htt2
      refine ⟨_, rfl, tt, _, 2, _, rfl, rfl, SqT.of htt3, rfl, _, rfl, wd, _, rfl, DPut.k (k := .inr "chain") w1'' (by show 8 < sizeLine; decide), ?_⟩
      have p1 : putK (worldV U c ch bk t dw) (.inr "chain" : Key) (.ref ch1) = worldV U c ch1 bk t dw := rfl
      rw [p1]
      refine ⟨_, rfl, wd, _, rfl, wg_done upd_same, _, 1, rfl, rfl, _, rfl, wd, _, rfl, DPut.k (k := .inr "done") upd_same (by show 8 < sizeLine; decide), ?_⟩
      have p2 : putK (worldV U c ch1 bk t dw) (.inr "done" : Key) (.int (dw + 1)) = worldV U c ch1 bk t (dw + 1) := rfl
      rw [p2]
      have hc4 : (upd (upd (upd H2 bk (.dK (bookV B'))) wd (.dK (worldV U c ch1 bk t dw))) wd (.dK (worldV U c ch1 bk t (dw + 1)))) c = some (.lst (U.cyc.map V.int)) := by
        rw [upd_ne (kind_ne w2' w1' (by intro z; cases z)), upd_ne (kind_ne w2' w1' (by intro z; cases z)), upd_ne (kind_ne w2' w4' (by intro z; cases z))]
        exact w2'
      refine ⟨_, rfl, wd, _, rfl, wg_turn upd_same, _, 1, rfl, rfl, .inl ⟨_, rfl, _, rfl, wd, _, rfl, wg_cycle upd_same, c, _, rfl, .inl (SqL.of hc4), _, _, rfl, rfl, ?_, _, rfl, wd, _, rfl, DPut.k (k := .inr "turn") upd_same (by show 8 < sizeLine; decide), ?_⟩⟩
      · show (0 : Int) < ((U.cyc.map V.int).length : Int)
        rw [List.length_map]
        have := hU.c1
        omega
      have p3 : ∀ x : V, putK (worldV U c ch1 bk t (dw + 1)) (.inr "turn" : Key) x = [(.inr "span", .int U.span), (.inr "cap", .int U.cap), (.inr "cycle", .ref c), (.inr "rear", .bl U.rear), (.inr "chain", .ref ch1), (.inr "book", .ref bk), (.inr "turn", x), (.inr "done", .int (dw + 1))] := fun _ => rfl
      rw [p3, List.length_map]
      have fr : ∀ x1 x2 x3 x4 : HO, Fr [r, wd, bk] H (upd (upd (upd (upd H2 bk x1) wd x2) wd x3) wd x4) := fun _ _ _ _ =>
        Fr.trans (.of_same sm1) (Fr.trans (f2.mono (by simp)) (Fr.trans (.put (by simp)) (Fr.trans (.put (by simp)) (Fr.trans (.put (by simp)) (.put (by simp))))))
      have kp : ∀ x1 x2 x3 x4 : HO, Kept H2 (upd (upd (upd (upd H2 bk x1) wd x2) wd x3) wd x4) := fun x1 x2 x3 x4 => Fr.kept (S := [wd, bk]) (fun b' hb' => by
        rcases List.mem_cons.mp hb' with rfl | hb'
        · exact .inl ⟨_, w1'⟩
        · obtain rfl : b' = bk := by simpa using hb'
          exact .inl ⟨_, w4'⟩) (Fr.trans (.put (by simp)) (Fr.trans (.put (by simp)) (Fr.trans (.put (by simp)) (.put (by simp)))))
      refine q _ L' ((t + 1) % U.cyc.length) (d + 1) B' (r2.kept (kp _ _ _ _) fun o ho => ?_) ⟨ch1, dw + 1, ?_, ?_, hch2.kept (kp _ _ _ _), ?_, hB'⟩ okL (Nat.mod_lt _ (by have := hU.c1; omega)) (Nat.le_refl _) (fr _ _ _ _)
      · rw [upd_ne wr.symm, upd_ne wr.symm, upd_ne wr.symm, upd_ne br.symm]
        exact ho
      · rw [upd_same]
        rfl
      · exact (kp _ _ _ _).1 _ _ w2'
      · rw [upd_ne hwb.symm, upd_ne hwb.symm, upd_ne hwb.symm, upd_same]
end K12

set_option Elab.async false
set_option linter.all false
set_option maxRecDepth 100000
set_option maxHeartbeats 4000000
namespace K12
open PySem PySem.Spec PyProof.Rows L2 GenW
/-! ## scan: a generator -/
theorem rising_pw : ∀ (r : List Str) (p : Str), risingS p r = true → (∀ x ∈ r, p.cps.toList ≤ x.cps.toList) ∧ r.Pairwise fun a b => a.cps.toList ≤ b.cps.toList
  | [], _, _ => ⟨fun x h => (by cases h), .nil⟩
  | x :: r, p, h => by
    have h0 : (!ltCps x.cps.toList p.cps.toList && risingS x r) = true := h
    obtain ⟨h1, h2⟩ := ba h0
    obtain ⟨i1, i2⟩ := rising_pw r x h2
    rw [ltCps_eq] at h1
    have h3 : p.cps.toList ≤ x.cps.toList := by
      have : ¬ x.cps.toList < p.cps.toList := by simpa using h1
      exact this
    refine ⟨fun y hy => ?_, .cons i1 i2⟩
    rcases List.mem_cons.mp hy with rfl | hy
    · exact h3
    · exact List.le_trans h3 (i1 y hy)
theorem sorted_pw {ys : List Str} (h : sortedS ys = true) : ys.Pairwise fun a b => a.cps.toList ≤ b.cps.toList := by
  cases ys with
  | nil => exact .nil
  | cons x r =>
    obtain ⟨i1, i2⟩ := rising_pw r x h
    exact .cons i1 i2
theorem sorted_eq {xs ys : List Str} (hx : sortedS xs = true) (hy : sortedS ys = true) (hp : xs.Perm ys) : xs = ys := by
  refine List.Perm.eq_of_pairwise (le := fun a b => a.cps.toList ≤ b.cps.toList) (fun a b _ _ h1 h2 => ?_) (sorted_pw hx) (sorted_pw hy) hp
  have h := List.le_antisymm h1 h2
  obtain ⟨⟨a⟩⟩ := a
  obtain ⟨⟨b⟩⟩ := b
  have h' : a = b := h
  rw [h']
/-- a pair (text, int) at a -/
def PT (H : Hp) (a : Addr) (p : Str × Int) : Prop := H a = some (.tup [.str p.1, .int p.2])
def spScan (K : PySem.W.Frag) : SpG := fun vs H Q _ => ∃ (r : Addr) (U : Tm) (L : Log) (t d : Nat), vs = [.ref r] ∧ RingAt K H r U L t d ∧ L.length ≤ 1000 ∧ (nms L).Nodup ∧
  ∀ (as : List Addr) (ps : List (Str × Int)) H', Same H H' → Paired (PT H') as ps → (ps.map (·.1)).Perm (nms L) → sortedS (ps.map (·.1)) = true → (∀ p ∈ ps, p ∈ lvs L) → Q (as.map V.ref) H'
theorem gsc : GScope ["self", "found", "key"] ["self"] (defScope sRingScan) := ⟨rfl, rfl, rfl, by decide +kernel, rfl, by decide +kernel, by decide +kernel⟩
theorem g_scan {w : World} {K : PySem.W.Frag} {mg : Str → Option Value} {base : Heap} (T : Tx K mg) : ∃ fd, GFn pg w K mg base 2 (He.ma K (He.ga K "Ring") "scan") fd ["self"] (spScan K) ∧ Binds K fd ["self"] [] := by
  obtain ⟨fd, F⟩ := T.fsRingScan
  have b := F.bindsN (ps := ["self"]) fun _ _ _ _ _ _ us hl => match us, hl with | [_], _ => rfl
  obtain ⟨oc, od, dV, kv0, doc, pm, an, cdv, ct, osl, rfl, lk, hcd, hD, hK⟩ := F.ex
  refine ⟨_, gfn_of (k := 1) (sp := spScan K) lk hcd gsc (fun vs H Q E h => ?_) (fun A outer s H vs Q E pn hr h => ?_), b⟩
  · obtain ⟨r, U, L, t, d, rfl, _⟩ := h
    rfl
  obtain ⟨r, U, L, t, d, rfl, hring, h1000, hnd, q⟩ := h
  obtain ⟨dx, b, g0, o, ca, lw, op, hr0, hb, hl0⟩ := id hring
  refine ⟨_, gss_cons (gs_ps (ps_set (i := 1) gsc.nd rfl (.inl rfl) (pe_M0 (pv 0) T.c_Ring T.m_Ring_table (r_Ring_table T) (hr.mono (by decide)) takes_gcx)))
    (gss_cons (gs_for owns_gcx rfl (pi_list (pe_callB cr_sortedA (by rfl) T.n_sorted (by decide +kernel) (pa_cons (pe_callTy (call_list_dK rfl) (by rfl) T.n_list (by decide +kernel) (pa_cons (pv 1) pa_nil)) pa_nil)))
      (pg_name (i := 2) gsc.nd rfl (.inl rfl)) (gss_cons (gs_yield (pe_tup (pa_cons (pv 2) (pa_cons (pe_dget (hu_of hr) (pv 1) (pv 2) (fun _ _ => rfl)) pa_nil)))) gss_nil)) gss_nil), ?_⟩
  refine ⟨_, rfl, r, dx, _, rfl, hr0, rfl, r, U, L, t, d, rfl, hring, h1000, hnd, fun H1 D sm1 nD hD => ?_⟩
  refine ⟨_, rfl, D, bookV (lvs L), rfl, hD, fun l nl => ?_⟩
  have hl : (upd H1 l (.lst ((bookV (lvs L)).map fun kv => kV kv.1))) l = some (.lst ((nms L).map V.str)) := by
    rw [upd_same, ← lvs_keys, List.map_map, List.map_map]
    rfl
  refine ⟨l, nms L, rfl, SqL.of hl, fun ys p hperm hsort np => ⟨p, rfl, ⟨_, SqL.of upd_same⟩, ?_⟩⟩
  have sm2 := Same.trans sm1 (Same.trans (same_upd nl) (same_upd (o := .lst (ys.map V.str)) np))
  have hD2 : (upd (upd H1 l (.lst ((bookV (lvs L)).map fun kv => kV kv.1))) p (.lst (ys.map V.str))) D = some (.dK (bookV (lvs L))) := same_upd np _ _ (same_upd nl _ _ hD)
  have ylen : ys.length = cnt L := by rw [hperm.length_eq, nms_len]
  have cl := cnt_le L
  have nk : ((lvs L).map (·.1)).Nodup := by rw [lvs_keys]; exact hnd
  refine gfor_list (xs := ys.map V.str) (fun i out σ' H' => (∃ y, σ' = [some (.ref r), some (.ref D), y]) ∧ H' p = some (.lst (ys.map V.str)) ∧ H' D = some (.dK (bookV (lvs L))) ∧ Same H H' ∧ ∃ (as : List Addr) (ps : List (Str × Int)), out = as.map V.ref ∧ Paired (PT H') as ps ∧ ps.map (·.1) = ys.take i ∧ (∀ p ∈ ps, p ∈ lvs L))
    ⟨⟨none, rfl⟩, upd_same, hD2, sm2, [], [], rfl, .nil, rfl, fun p hp => by cases hp⟩ (fun i out σ' H' _ h => SqL.of h.2.1) (fun i x out σ' H' hx h => ?_) (fun out σ' H' h => ?_)
  · obtain ⟨⟨y, rfl⟩, hp, hD', sm', as, ps, rfl, pp, pk, pm⟩ := h
    rw [List.getElem?_map] at hx
    obtain ⟨k, hk, rfl⟩ := Option.map_eq_some_iff.mp hx
    have hkm : k ∈ nms L := hperm.mem_iff.mp (List.mem_of_getElem? hk)
    obtain ⟨z, hz⟩ := nms_mem.mp hkm
    have hzl := lvs_mem.mpr hz
    have hv := valV_book_some nk hzl
    refine ⟨?_, _, rfl, _, rfl, _, rfl, D, .int z, rfl, (by rw [← hv]; exact DGet.k (k := .inr k) hD'), (by show 2 ≤ sizeLine; decide), fun tt nt => ?_⟩
    · have e1 : (as.map V.ref).length = (ys.take i).length := by rw [List.length_map, p_len pp, ← pk, List.length_map]
      rw [e1, List.length_take]
      have := get_lt hk
      exact Nat.lt_of_le_of_lt (show min i ys.length ≤ 1000 by omega) (small1000 (Nat.le_refl _))
    · have st := same_upd (o := .tup [.str k, .int z]) nt
      refine ⟨⟨_, rfl⟩, st _ _ hp, st _ _ hD', Same.trans sm' st, as ++ [tt], ps ++ [(k, z)], (by rw [List.map_append]; rfl), p_app (p_mono (fun a p h => st _ _ h) pp) (.cons upd_same .nil), ?_, fun p hp => ?_⟩
      · rw [List.map_append, pk, take_next hk]
        rfl
      · rcases List.mem_append.mp hp with hp | hp
        · exact pm p hp
        · rw [List.mem_singleton.mp hp]
          exact hzl
  · obtain ⟨⟨y, rfl⟩, hp, hD', sm', as, ps, rfl, pp, pk, pm⟩ := h
    rw [List.length_map, List.take_of_length_le (Nat.le_refl _)] at pk
    exact q as ps H' sm' pp (by rw [pk]; exact hperm) (by rw [pk]; exact hsort) pm
end K12

set_option Elab.async false
set_option linter.all false
set_option maxRecDepth 100000
set_option maxHeartbeats 4000000
namespace K12
open PySem PySem.Spec PyProof.Rows L2
/-! ## kept: everything that is read agrees -/
theorem okP_of {U : Tm} {L : Log} (h : LogOk U L) : ∀ p ∈ lvs L, OkP p := fun p hp => by
  have hm := lvs_mem.mp (show (p.1, p.2) ∈ lvs L from hp)
  have gk := h.key _ hm
  exact ⟨gk.2.1, gk.small, (h.val _ hm p.2 rfl).lt⟩
theorem okS_of {k : Str} (h : GK k) : OkS k := ⟨h.2.1, h.small⟩
theorem okS_value : OkS "value" := ⟨by decide +kernel, fun c hc => of_decide_eq_true (List.all_eq_true.mp (show (("value" : Str).cps.toList.all fun c => decide (c < 16 ^ 8)) = true by decide +kernel) c hc)⟩
theorem okS_depth : OkS "depth" := ⟨by decide +kernel, fun c hc => of_decide_eq_true (List.all_eq_true.mp (show (("depth" : Str).cps.toList.all fun c => decide (c < 16 ^ 8)) = true by decide +kernel) c hc)⟩
theorem okS_unknown : OkS "unknown" := ⟨by decide +kernel, fun c hc => of_decide_eq_true (List.all_eq_true.mp (show (("unknown" : Str).cps.toList.all fun c => decide (c < 16 ^ 8)) = true by decide +kernel) c hc)⟩
theorem idx_unique {k : Str} : ∀ (M : Log), (nms M).Nodup → ∀ (i j : Nat) (a b : Int), M[i]? = some (k, some a) → M[j]? = some (k, some b) → i = j := by
  intro M
  induction M with
  | nil => intro _ i j a b h; cases h
  | cons e r ih =>
    intro nd i j a b hi hj
    have ndr : (nms r).Nodup := by
      obtain ⟨x, y⟩ := e
      cases y with
      | none => exact nd
      | some y => exact (List.nodup_cons.mp nd).2
    have out : ∀ (j : Nat) (a b : Int), e = (k, some a) → r[j]? = some (k, some b) → False := fun j a b he hj => by
      rw [he] at nd
      exact (List.nodup_cons.mp (show (k :: nms r).Nodup from nd)).1 (nms_mem.mpr ⟨b, List.mem_of_getElem? hj⟩)
    cases i with
    | zero =>
      cases j with
      | zero => rfl
      | succ j => exact (out j a b (Option.some.inj hi) hj).elim
    | succ i =>
      cases j with
      | zero => exact (out i b a (Option.some.inj hj) hi).elim
      | succ j => exact congrArg Nat.succ (ih ndr i j a b hi hj)
theorem pt_sq {K : PySem.W.Frag} {H : Hp} {as : List Addr} {ps : List (Str × Int)} (h : Paired (PT H) as ps) : Paired (fun a (p : Str × Int) => SqT K H a [.str p.1, .int p.2]) as ps := p_mono (fun _ _ q => SqT.of q) h
theorem pt_same {H H' : Hp} (s : Same H H') {as : List Addr} {ps : List (Str × Int)} (h : Paired (PT H) as ps) : Paired (PT H') as ps := p_mono (fun _ _ q => s _ _ q) h
/-- two sorted lists of pairs with the same keys and values out of one log -/
theorem pairs_eq {L : Log} (nd : (nms L).Nodup) {ps qs : List (Str × Int)} (hp : (ps.map (·.1)) = qs.map (·.1)) (h1 : ∀ p ∈ ps, p ∈ lvs L) (h2 : ∀ p ∈ qs, p ∈ lvs L) : ps = qs := by
  have nk : ((lvs L).map (·.1)).Nodup := by rw [lvs_keys]; exact nd
  induction ps generalizing qs with
  | nil =>
    cases qs with
    | nil => rfl
    | cons q r => cases hp
  | cons p ps ih =>
    cases qs with
    | nil => cases hp
    | cons q r =>
      injection hp with e1 e2
      have e1' : p.1 = q.1 := e1
      have a1 := valV_book_some nk (show (p.1, p.2) ∈ lvs L from h1 p List.mem_cons_self)
      have a2 := valV_book_some nk (show (q.1, q.2) ∈ lvs L from h2 q List.mem_cons_self)
      rw [e1', a2] at a1
      have e3 : q.2 = p.2 := by
        have := Option.some.inj a1
        injection this
      have e4 : p = q := Prod.ext e1' e3.symm
      rw [e4, ih e2 (fun x hx => h1 x (List.mem_cons_of_mem _ hx)) (fun x hx => h2 x (List.mem_cons_of_mem _ hx))]
def spKept (K : PySem.W.Frag) : Sp := fun vs H Q _ => ∃ (r wd nl : Addr) (U : Tm) (L : Log) (t d : Nat) (c bk : Addr) (B : List (Str × Int)) (ks : List Str), vs = [.ref r, .ref wd, .ref nl] ∧ RingAt K H r U L t d ∧ WorldAt H wd U L t c bk B ∧ U.Ok ∧ LogOk U L ∧ H nl = some (.lst (ks.map V.str)) ∧ (∀ k ∈ ks, GK k) ∧
  ∀ H', Same H H' → Q (.bl true) H'
theorem scLawKept : FnScope ["_law_ring_here", "_law_world_here", "_law_names", "_law_book", "_law_due_here", "_law_entry", "_law_told", "_law_rows", "_law_name_here", "_law_value", "_law_depth_here"] ["_law_ring_here", "_law_world_here", "_law_names"] (defScope sLawKept) := ⟨rfl, rfl, rfl, by decide +kernel, rfl, by decide +kernel, by decide +kernel⟩
theorem Tx.kLawKept {K : PySem.W.Frag} {mg : Str → Option Value} (T : Tx K mg) : PySem.W.keepIn K (.ref (He.ga K "_law_kept")) = true := let ⟨_, F⟩ := T.fsLawKept; F.kp
theorem r_law_kept {w : World} {K : PySem.W.Frag} {mg : Str → Option Value} {base : Heap} (T : Tx K mg) : FnG pg w K mg base 6 (He.ga K "_law_kept") (spKept K) := by
  obtain ⟨fd, F⟩ := T.fsLawKept
  obtain ⟨fdsc, Fsc, bsc⟩ := g_scan (w := w) (base := base) T
  refine fn_g F scLawKept (F.bindsN fun _ _ _ _ _ _ us hl => match us, hl with | [_, _, _], _ => rfl) (fun vs H Q E h => ?_) (fun cdv A outer s H vs Q E hgd hr h => ?_)
  · obtain ⟨r, wd, nl, U, L, t, d, c, bk, B, ks, rfl, hring, hworld, hU, hL, hnl, hks, q⟩ := h
    rfl
  · obtain ⟨r, wd, nl, U, L, t, d, c, bk, B, ks, rfl, hring, hworld, hU, hL, hnl, hks, q⟩ := h
    refine ⟨_, PSs.nox (pss_cons (ps_set (i := 3) scLawKept.nd rfl (by first | exact .inl rfl | exact .inr rfl) (pe_dget (hu_of hr) (pv 1) pe_str (fun _ _ => rfl)))
      (pss_cons (ps_set (i := 4) scLawKept.nd rfl (by first | exact .inl rfl | exact .inr rfl) (pe_callB (call_repr hgd (rm64 hr)) (by rfl) T.n_repr (by decide +kernel) (pa_cons (pe_lc (own := [("_law_entry", 5)]) rfl scLawKept.nd (pi_list (pe_dget (hu_of hr) (pv 1) pe_str (fun _ _ => rfl))) (blkOk_by (N := [("_law_ring_here" : Str), ("_law_world_here" : Str), ("_law_names" : Str), ("_law_book" : Str), ("_law_due_here" : Str), ("_law_entry" : Str), ("_law_told" : Str), ("_law_rows" : Str), ("_law_name_here" : Str), ("_law_value" : Str), ("_law_depth_here" : Str)]) (sc := defScope sLawKept) (by decide +kernel)) (fun _ _ _ _ _ => (pg_name (i := 5) scLawKept.nd rfl (.inl rfl))) (fun _ _ _ _ _ => (pts_one (pt_val (pe_ix (ix_tupK K) (pv 5) pe_int (fun _ _ => rfl))))) (fun _ _ _ _ _ => (pe_tup (pa_cons (pe_ix (ix_tupK K) (pv 5) pe_int (fun _ _ => rfl)) (pa_cons (pe_dget (hu_of hr) (pv 3) (pe_ix (ix_tupK K) (pv 5) pe_int (fun _ _ => rfl)) (fun _ _ => rfl)) pa_nil))))) pa_nil)))
      (pss_cons (ps_set (i := 6) scLawKept.nd rfl (by first | exact .inl rfl | exact .inr rfl) (pe_M0 (pv 0) T.c_Ring T.m_Ring_table (r_Ring_table T) (hr.mono (by decide)) takes0))
      (Evl.pss_cut (ps_if (PW.pt (pw_or (pt_not (pt_val (pe_callB call_isi (by rfl) T.n_isinstance (by decide +kernel) (pa_cons (pv 6) (pa_cons (pe_bltn (v := .ty "dict") (by rfl) T.n_dict (by decide +kernel) rfl) pa_nil))))) (pw_or1 (pt_cmpR op_ne (pe_callB (call_repr hgd (rm64 hr)) (by rfl) T.n_repr (by decide +kernel) (pa_cons (LiI.pe_listItems rfl (pv 6) (by rfl) T.n_list (by decide +kernel)) pa_nil)) (pv 4) (nomark _))))) (pss_one (ps_ret pe_bl)) pss_nil)
      (pss_cons (ps_expr (pe_dclear (pv 6)))
      (Evl.pss_cut (ps_if (PW.pt (pw_or (pt_cmpR op_ne (pe_callB (call_lenOwn (spec_of T.ex.2.2.2.2.1.1).2 (spec_of T.ex.2.2.2.2.1.1).1 (r_Ring_len T) (hr.mono (by decide)) passL) (by rfl) T.n_len PySem.boot_len (pa_cons (pv 0) pa_nil)) (pe_callB call_lenD (by rfl) T.n_len PySem.boot_len (pa_cons (pv 3) pa_nil)) (nomark _)) (pw_or1 (pt_cmpR op_ne (pe_callB call_lenD (by rfl) T.n_len PySem.boot_len (pa_cons (pe_M0 (pv 0) T.c_Ring T.m_Ring_table (r_Ring_table T) (hr.mono (by decide)) takes0) pa_nil)) (pe_callB call_lenD (by rfl) T.n_len PySem.boot_len (pa_cons (pv 3) pa_nil)) (nomark _))))) (pss_one (ps_ret pe_bl)) pss_nil)
      (pss_cons (ps_set (i := 7) scLawKept.nd rfl (by first | exact .inl rfl | exact .inr rfl) (pe_listG (E := fun _ _ _ => False) (pgen_meth0 (pv 0) T.c_Ring T.m_Ring_scan Fsc (hr.mono (by decide)) bsc .nil) passL (fun _ _ _ h => h.elim) (hr.mono (by decide)) (by rfl) T.n_list (by decide +kernel)))
      (Evl.pss_cut (ps_if (pt_cmpR op_ne (pe_callB (call_repr hgd (rm64 hr)) (by rfl) T.n_repr (by decide +kernel) (pa_cons (pv 7) pa_nil)) (pe_callB (call_repr hgd (rm64 hr)) (by rfl) T.n_repr (by decide +kernel) (pa_cons (pe_lc (own := [("_law_name_here", 8)]) rfl scLawKept.nd (pi_list (pe_callB cr_sortedA (by rfl) T.n_sorted (by decide +kernel) (pa_cons (pe_callTy (call_list_dK rfl) (by rfl) T.n_list (by decide +kernel) (pa_cons (pv 3) pa_nil)) pa_nil))) (blkOk_by (N := [("_law_ring_here" : Str), ("_law_world_here" : Str), ("_law_names" : Str), ("_law_book" : Str), ("_law_due_here" : Str), ("_law_entry" : Str), ("_law_told" : Str), ("_law_rows" : Str), ("_law_name_here" : Str), ("_law_value" : Str), ("_law_depth_here" : Str)]) (sc := defScope sLawKept) (by decide +kernel)) (fun _ _ _ _ _ => (pg_name (i := 8) scLawKept.nd rfl (.inl rfl))) (fun _ _ _ _ _ => pts_nil) (fun _ _ _ _ _ => (pe_tup (pa_cons (pv 8) (pa_cons (pe_dget (hu_of hr) (pv 3) (pv 8) (fun _ _ => rfl)) pa_nil))))) pa_nil)) (nomark _)) (pss_one (ps_ret pe_bl)) pss_nil)
      (Evl.pss_cut (ps_for PassesOwn.never rfl (pi_list (pv 2)) (pg_name (i := 8) scLawKept.nd rfl (by first | exact .inl rfl | exact .inr rfl)) (pss_cons (ps_set (i := 9) scLawKept.nd rfl (by first | exact .inl rfl | exact .inr rfl) (pe_tup (pa_cons pe_str (pa_cons (pv 8) pa_nil))))
      (pss_cons (ps_set (i := 10) scLawKept.nd rfl (by first | exact .inl rfl | exact .inr rfl) (pe_tup (pa_cons pe_str (pa_cons (pv 8) pa_nil))))
      (Evl.pss_cut (ps_if (pt_cmp (pc_din (hu_of hr) (pv 8) (pv 3))) (pss_cons (ps_set (i := 9) scLawKept.nd rfl (by first | exact .inl rfl | exact .inr rfl) (pe_tup (pa_cons pe_str (pa_cons (pe_dget (hu_of hr) (pv 3) (pv 8) (fun _ _ => rfl)) pa_nil))))
      (pss_one (ps_set (i := 10) scLawKept.nd rfl (by first | exact .inl rfl | exact .inr rfl) (pe_tup (pa_cons pe_str (pa_cons (pe_F (r_law_depth T) (hr.mono (by decide)) T.g_law_depth T.kLawDepth takes0 (pa_cons (pe_dget (hu_of hr) (pv 1) pe_str (fun _ _ => rfl)) (pa_cons (pv 8) pa_nil))) pa_nil)))))) pss_nil)
      (Evl.pss_cut (ps_if (PW.pt (pw_or (pt_cmpR op_ne (pe_cmpR (op_inOwn (spec_of T.ex.2.2.2.2.1.2.1).2 (spec_of T.ex.2.2.2.2.1.2.1).1 (r_Ring_contains T) (hr.mono (by decide)) passL) (pv 8) (pv 0) (by rfl)) (pe_cmp (pc_din (hu_of hr) (pv 8) (pv 3))) (nomark _)) (pw_or1 (pt_cmpR op_ne (pe_callB (call_repr hgd (rm64 hr)) (by rfl) T.n_repr (by decide +kernel) (pa_cons (pe_F (r_law_read T) (hr.mono (by decide)) T.g_law_read T.kLawRead takes0 (pa_cons (pv 0) (pa_cons (pv 8) pa_nil))) pa_nil)) (pe_callB (call_repr hgd (rm64 hr)) (by rfl) T.n_repr (by decide +kernel) (pa_cons (pv 9) pa_nil)) (nomark _))))) (pss_one (ps_ret pe_bl)) pss_nil)
      (pss_one (ps_if (pt_cmpR op_ne (pe_callB (call_repr hgd (rm64 hr)) (by rfl) T.n_repr (by decide +kernel) (pa_cons (pe_F (r_law_age T) (hr.mono (by decide)) T.g_law_age T.kLawAge takes0 (pa_cons (pv 0) (pa_cons (pv 8) pa_nil))) pa_nil)) (pe_callB (call_repr hgd (rm64 hr)) (by rfl) T.n_repr (by decide +kernel) (pa_cons (pv 10) pa_nil)) (nomark _)) (pss_one (ps_ret pe_bl)) pss_nil)))))))
      (pss_one (ps_ret pe_bl))))))))))), ?_⟩
    obtain ⟨ch, dw, w1, w2, ⟨xs, h1, hp⟩, w4, w5⟩ := id hworld
    obtain ⟨dx, b, g0, o, ca, lw, op, hr0, hb, hl0⟩ := id hring
    have hl := p_len hp
    have L64 : L.length ≤ 64 := Nat.le_trans hL.len hU.s64
    have okP := okP_of hL
    have lvl := lvs_le L
    have cl := cnt_le L
    have nk : ((lvs L).map (·.1)).Nodup := by rw [lvs_keys]; exact hL.nd
    have blen := book_len w5 hL.nd
    refine ⟨_, rfl, wd, _, rfl, wg_book w1, ?_⟩
    -- the table that is due
    refine ⟨_, rfl, wd, _, rfl, wg_chain w1, ch, rfl, ⟨_, SqL.of h1⟩, fun D nD => lc_list (xs := xs)
      (fun i H' => ∃ as : List Addr, H' D = some (.lst (as.map V.ref)) ∧ Same H H' ∧ as.length ≤ i ∧ Paired (PT H') as (lvs (L.take i))) ⟨[], upd_same, same_upd nD, Nat.zero_le _, .nil⟩ (fun i H' _ h => ?_) (fun i x H' hx h => ?_) (fun H1 h => ?_)⟩
    · obtain ⟨_, _, sm, _⟩ := h
      exact SqL.of (sm _ _ h1)
    · obtain ⟨as, hD, sm, la, pa⟩ := h
      obtain ⟨en, hen, a, v, rfl, k1, k2⟩ := p_get hp hx
      have k1' := sm _ _ k1
      refine ⟨rfl, _, rfl, a, _, 2, _, rfl, rfl, SqT.of k1', rfl, _, rfl, ?_⟩
      rw [take_next hen]
      cases hb : en.2 with
      | none =>
        refine ⟨as, hD, sm, by omega, ?_⟩
        rw [lvs_app, show lvs [en] = [] by rw [show en = (en.1, none) from Prod.ext rfl hb]; rfl, List.append_nil]
        exact pa
      | some z =>
        have hzl : (en.1, z) ∈ B := (w5.mem _ _).mpr (by rw [← hb]; exact List.mem_of_getElem? hen)
        have hv := valV_book_some w5.nd hzl
        refine ⟨_, rfl, a, _, 0, _, rfl, rfl, SqT.of k1', rfl, _, rfl, _, rfl, a, _, 0, _, rfl, rfl, SqT.of k1', rfl, bk, .int z, rfl, (by rw [← hv]; exact DGet.k (k := .inr en.1) (sm _ _ w4)), (by show 2 ≤ sizeLine; decide), fun p np => ?_⟩
        have pD : D ≠ p := ne_of_none hD np
        refine ⟨as.map V.ref, (by rw [upd_ne pD]; exact hD), ?_, as ++ [p], (by rw [upd_same, List.map_append]; rfl), Same.step (Same.step sm (sm.free np)) nD, ?_, ?_⟩
        · rw [List.length_map]
          exact Nat.lt_of_le_of_lt (show as.length ≤ 1000 by have := get_lt hx; omega) (small1000 (Nat.le_refl _))
        · rw [List.length_append]
          show as.length + 1 ≤ i + 1
          omega
        · rw [lvs_app, show lvs [en] = [(en.1, z)] by rw [show en = (en.1, some z) from Prod.ext rfl hb]; rfl]
          refine p_app (p_mono (fun a' p' q' => ?_) pa) (.cons (by show (upd _ D _) p = _; rw [upd_ne pD.symm, upd_same]) .nil)
          show (upd (upd H' p _) D _) a' = _
          rw [upd_ne (kind_ne q' hD (by intro z; cases z)), upd_ne (ne_of_none q' np)]
          exact q'
    obtain ⟨as, hD, sm1, _, pa⟩ := h
    rw [hl, List.take_of_length_le (Nat.le_refl _)] at pa
    refine ⟨D, _, rfl, shows_list (SqL.of hD) (pt_sq pa) okP (by omega), ?_⟩
    -- told
    refine ⟨_, rfl, r, dx, _, rfl, sm1 _ _ hr0, rfl, r, U, L, t, d, rfl, hring.same sm1, by omega, hL.nd, fun H2 TD sm2 nTD hTD => ?_⟩
    have sm12 := Same.trans sm1 sm2
    have nTH : H TD = none := sm1.free nTD
    refine ⟨fun σ' H3 => σ' = [some (.ref r), some (.ref wd), some (.ref nl), some (.ref bk), some (.str (dPL (lvs L)).shown), none, some (.ref TD), none, none, none, none] ∧ Same H2 H3, ?_, ?_⟩
    · refine ⟨_, rfl, _, _, _, _, _, rfl, .ty _, .base (.dK hTD), kit_ty (r := true) (by decide +kernel), _, rfl, ?_⟩
      refine iteF ?_
      refine ⟨_, rfl, TD, _, rfl, hTD, fun H3 p ts s3 np nts npts hp3 pts => ?_⟩
      have s3' : Same H2 H3 := s3
      have pa3 : Paired (PT H3) ts (lvs L) := by
        have : ∀ (ts : List Addr) (B : List (Str × Int)), Paired (fun (t : Addr) (q : Key × V) => H3 t = some (.tup [kV q.1, q.2])) ts (bookV B) → Paired (PT H3) ts B := by
          intro ts B
          induction B generalizing ts with
          | nil => intro h; cases h; exact .nil
          | cons p r ih =>
            intro h
            cases h with
            | cons f h => exact .cons f (ih _ h)
        exact this ts (lvs L) pts
      refine ⟨p, _, rfl, shows_list (SqL.of hp3) (pt_sq pa3) okP (by omega), _, rfl, rfl, _, rfl, ?_⟩
      rw [decide_eq_true rfl]
      exact iteF ⟨rfl, s3'⟩
    rintro σ' H3 ⟨rfl, sm3⟩
    have sm13 := Same.trans sm12 sm3
    have hTD3 := sm3 _ _ hTD
    refine ⟨_, rfl, .inr (.inr (.inl ⟨rfl, .inl ⟨_, hTD3⟩⟩)), TD, _, rfl, rfl, hTD3, ?_⟩
    have sm4 : Same H (upd H3 TD (.dK [])) := Same.step sm13 nTH
    generalize (upd H3 TD (.dK [])) = H4 at sm4
    -- the lengths
    refine ⟨fun σ' H5 => σ' = [some (.ref r), some (.ref wd), some (.ref nl), some (.ref bk), some (.str (dPL (lvs L)).shown), none, some (.ref TD), none, none, none, none] ∧ Same H H5, ?_, ?_⟩
    · refine ⟨_, rfl, r, dx, _, rfl, sm4 _ _ hr0, r, U, L, t, d, rfl, hring.same sm4, by omega, fun H5 sm5 => ?_⟩
      have sm45 := Same.trans sm4 sm5
      refine ⟨_, rfl, Int.natCast_nonneg _, ?_, _, rfl, bk, _, rfl, sm45 _ _ w4, rfl, _, rfl, ?_⟩
      · show ((cnt L : Nat) : Int) < 2 ^ 63
        omega
      rw [List.length_map, blen, decide_eq_true rfl]
      refine iteF ?_
      refine ⟨_, rfl, r, dx, _, rfl, sm45 _ _ hr0, rfl, r, U, L, t, d, rfl, hring.same sm45, by omega, hL.nd, fun H6 TD2 sm6 nTD2 hTD2 => ?_⟩
      have sm46 := Same.trans sm45 sm6
      refine ⟨TD2, _, rfl, hTD2, _, rfl, bk, _, rfl, sm46 _ _ w4, rfl, _, rfl, ?_⟩
      have e : (bookV (lvs L)).length = (bookV B).length := by
        rw [List.length_map, List.length_map, blen, ← nms_len, ← lvs_keys, List.length_map]
      rw [e, decide_eq_true rfl]
      exact iteF ⟨rfl, sm46⟩
    rintro σ' H5 ⟨rfl, sm5⟩
    -- the rows of scan
    refine ⟨_, rfl, r, dx, _, rfl, sm5 _ _ hr0, rfl, r, U, L, t, d, rfl, hring.same sm5, by omega, hL.nd, fun ra rp H6 sm6 rpa rperm rsort rmem => fun rw_ nrw => ?_⟩
    have sm56 := Same.trans sm5 sm6
    have sm57 : Same H (upd H6 rw_ (.lst (ra.map V.ref))) := Same.trans sm56 (same_upd nrw)
    have rpa7 : Paired (PT (upd H6 rw_ (.lst (ra.map V.ref)))) ra rp := pt_same (same_upd nrw) rpa
    have hrw : (upd H6 rw_ (.lst (ra.map V.ref))) rw_ = some (.lst (ra.map V.ref)) := upd_same
    generalize (upd H6 rw_ (.lst (ra.map V.ref))) = H7 at sm57 rpa7 hrw
    have rlen : rp.length ≤ 100 := by
      have := rperm.length_eq
      rw [List.length_map, nms_len] at this
      omega
    refine ⟨fun σ' H8 => σ' = [some (.ref r), some (.ref wd), some (.ref nl), some (.ref bk), some (.str (dPL (lvs L)).shown), none, some (.ref TD), some (.ref rw_), none, none, none] ∧ Same H H8, ?_, ?_⟩
    · refine ⟨_, rfl, rw_, _, rfl, shows_list (SqL.of hrw) (pt_sq rpa7) (fun p hp => okP p (rmem p hp)) rlen, ?_⟩
      refine ⟨_, rfl, bk, bookV B, rfl, sm57 _ _ w4, fun l nl2 => ?_⟩
      have hl2 : (upd H7 l (.lst ((bookV B).map fun kv => kV kv.1))) l = some (.lst ((B.map (·.1)).map V.str)) := by
        rw [upd_same, List.map_map, List.map_map]
        rfl
      refine ⟨l, B.map (·.1), rfl, SqL.of hl2, fun ys so hperm hsort nso => ⟨so, rfl, ⟨_, SqL.of upd_same⟩, ?_⟩⟩
      have sm8 := Same.trans sm57 (Same.trans (same_upd nl2) (same_upd (o := .lst (ys.map V.str)) nso))
      have hso : (upd (upd H7 l (.lst ((bookV B).map fun kv => kV kv.1))) so (.lst (ys.map V.str))) so = some (.lst (ys.map V.str)) := upd_same
      generalize (upd (upd H7 l (.lst ((bookV B).map fun kv => kV kv.1))) so (.lst (ys.map V.str))) = H8 at sm8 hso
      have bperm : (B.map (·.1)).Perm (nms L) := (List.perm_ext_iff_of_nodup w5.nd hL.nd).mpr fun k => book_mem w5
      have yperm := hperm.trans bperm
      have ylen : ys.length ≤ 100 := by
        have := yperm.length_eq
        rw [nms_len] at this
        omega
      refine fun D2 nD2 => lc_list (xs := ys.map V.str)
        (fun i H' => ∃ (as : List Addr) (ps : List (Str × Int)), H' D2 = some (.lst (as.map V.ref)) ∧ Same H8 H' ∧ Paired (PT H') as ps ∧ ps.map (·.1) = ys.take i ∧ ∀ p ∈ ps, p ∈ lvs L) ⟨[], [], upd_same, same_upd nD2, .nil, rfl, fun p hp => by cases hp⟩ (fun i H' _ h => ?_) (fun i x H' hx h => ?_) (fun H9 h => ?_)
      · obtain ⟨_, _, _, sm, _⟩ := h
        exact SqL.of (sm _ _ hso)
      · obtain ⟨as2, ps, hD2, sm, pp, pk, pm⟩ := h
        rw [List.getElem?_map] at hx
        obtain ⟨k, hk, rfl⟩ := Option.map_eq_some_iff.mp hx
        have hkm : k ∈ nms L := yperm.mem_iff.mp (List.mem_of_getElem? hk)
        obtain ⟨z, hz⟩ := nms_mem.mp hkm
        have hv := valV_book_some w5.nd ((w5.mem _ _).mpr hz)
        refine ⟨rfl, _, rfl, _, rfl, _, rfl, bk, .int z, rfl, (by rw [← hv]; exact DGet.k (k := .inr k) (sm _ _ (sm8 _ _ w4))), (by show 2 ≤ sizeLine; decide), fun p np => ?_⟩
        have pD : D2 ≠ p := ne_of_none hD2 np
        refine ⟨as2.map V.ref, (by rw [upd_ne pD]; exact hD2), ?_, as2 ++ [p], ps ++ [(k, z)], (by rw [upd_same, List.map_append]; rfl), Same.step (Same.step sm (sm.free np)) nD2, ?_, ?_, ?_⟩
        · have e1 : (as2.map V.ref).length = (ys.take i).length := by rw [List.length_map, p_len pp, ← pk, List.length_map]
          rw [e1, List.length_take]
          exact Nat.lt_of_le_of_lt (show min i ys.length ≤ 1000 by omega) (small1000 (Nat.le_refl _))
        · refine p_app (p_mono (fun a' p' q' => ?_) pp) (.cons (by show (upd _ D2 _) p = _; rw [upd_ne pD.symm, upd_same]) .nil)
          show (upd (upd H' p _) D2 _) a' = _
          rw [upd_ne (kind_ne q' hD2 (by intro z; cases z)), upd_ne (ne_of_none q' np)]
          exact q'
        · rw [List.map_append, pk, take_next hk]
          rfl
        · intro p' hp'
          rcases List.mem_append.mp hp' with hp' | hp'
          · exact pm p' hp'
          · rw [List.mem_singleton.mp hp']
            exact lvs_mem.mpr hz
      · obtain ⟨as2, ps, hD2, sm, pp, pk, pm⟩ := h
        rw [List.length_map, List.take_of_length_le (Nat.le_refl _)] at pk
        have plen : ps.length ≤ 100 := by
          have : (ps.map (·.1)).length = ys.length := by rw [pk]
          rw [List.length_map] at this
          omega
        refine ⟨D2, _, rfl, shows_list (SqL.of hD2) (pt_sq pp) (fun p hp => okP p (pm p hp)) plen, rfl, _, rfl, ?_⟩
        have e : rp = ps := pairs_eq hL.nd (by
          rw [pk]
          exact sorted_eq rsort hsort (rperm.trans yperm.symm)) rmem pm
        rw [e, decide_eq_true rfl]
        exact iteF ⟨rfl, Same.trans sm8 sm⟩
    rintro σ' H8 ⟨rfl, sm8⟩
    -- the names
    refine ⟨fun σ' H9 => (∃ y8 y9 y10, σ' = [some (.ref r), some (.ref wd), some (.ref nl), some (.ref bk), some (.str (dPL (lvs L)).shown), none, some (.ref TD), some (.ref rw_), y8, y9, y10]) ∧ Same H H9, ?_, ?_⟩
    · refine ⟨_, rfl, nl, rfl, ⟨_, SqL.of (sm8 _ _ hnl)⟩, for_list (xs := ks.map V.str) (fun i σ' H9 => (∃ y8 y9 y10, σ' = [some (.ref r), some (.ref wd), some (.ref nl), some (.ref bk), some (.str (dPL (lvs L)).shown), none, some (.ref TD), some (.ref rw_), y8, y9, y10]) ∧ Same H H9) ⟨⟨_, _, _, rfl⟩, sm8⟩ (fun i σ' H9 _ h => SqL.of (h.2 _ _ hnl)) (fun i x σ' H9 hx h => ?_) (fun σ' H9 h => h)⟩
      obtain ⟨⟨y8, y9, y10, rfl⟩, sm9⟩ := h
      rw [List.getElem?_map] at hx
      obtain ⟨k, hk, rfl⟩ := Option.map_eq_some_iff.mp hx
      have gk := hks k (List.mem_of_getElem? hk)
      refine ⟨_, rfl, (by show 2 ≤ sizeLine; decide), fun t1 n1 => ⟨_, rfl, (by show 2 ≤ sizeLine; decide), fun t2 n2 => ?_⟩⟩
      have ht1 : (upd (upd H9 t1 (.tup [.str "unknown", .str k])) t2 (.tup [.str "unknown", .str k])) t1 = some (.tup [.str "unknown", .str k]) := same_upd n2 _ _ upd_same
      have ht2 : (upd (upd H9 t1 (.tup [.str "unknown", .str k])) t2 (.tup [.str "unknown", .str k])) t2 = some (.tup [.str "unknown", .str k]) := upd_same
      have sm10 : Same H (upd (upd H9 t1 (.tup [.str "unknown", .str k])) t2 (.tup [.str "unknown", .str k])) := Same.trans sm9 (Same.trans (same_upd n1) (same_upd n2))
      generalize (upd (upd H9 t1 (.tup [.str "unknown", .str k])) t2 (.tup [.str "unknown", .str k])) = H10 at ht1 ht2 sm10
      refine ⟨fun σ' H11 => Same H H11 ∧ ∃ v9 v10 : Addr, σ' = [some (.ref r), some (.ref wd), some (.ref nl), some (.ref bk), some (.str (dPL (lvs L)).shown), none, some (.ref TD), some (.ref rw_), some (.str k), some (.ref v9), some (.ref v10)] ∧
        ((k ∉ nms L ∧ H11 v9 = some (.tup [.str "unknown", .str k]) ∧ H11 v10 = some (.tup [.str "unknown", .str k])) ∨ ∃ (i0 : Nat) (z : Int), L[i0]? = some (k, some z) ∧ H11 v9 = some (.tup [.str "value", .int z]) ∧ H11 v10 = some (.tup [.str "depth", .int ((L.length : Nat) - (i0 : Int))])), ?_, ?_⟩
      · refine ⟨_, rfl, _, rfl, bk, _, rfl, DGet.k (k := .inr k) (sm10 _ _ w4), _, rfl, ?_⟩
        by_cases hin : k ∈ nms L
        · obtain ⟨z, hz⟩ := nms_mem.mp hin
          have hv := valV_book_some w5.nd ((w5.mem _ _).mpr hz)
          obtain ⟨i0, hi0, e0⟩ := List.getElem_of_mem hz
          have hi0' : L[i0]? = some (k, some z) := by rw [List.getElem?_eq_getElem hi0, e0]
          rw [hv]
          refine iteT ?_
          refine ⟨_, rfl, _, rfl, bk, .int z, rfl, (by rw [← hv]; exact DGet.k (k := .inr k) (sm10 _ _ w4)), (by show 2 ≤ sizeLine; decide), fun t3 n3 => ?_⟩
          have sm11 := Same.trans sm10 (same_upd (o := .tup [.str "value", .int z]) n3)
          refine ⟨_, rfl, wd, _, rfl, wg_chain (sm11 _ _ w1), _, rfl, ch, k, L, rfl, ⟨xs, sm11 _ _ h1, p_mono (fun _ _ r => r.same sm11) hp⟩, by omega, hL.nd, i0, z, hi0', (by show 2 ≤ sizeLine; decide), fun t4 n4 => ⟨Same.trans sm11 (same_upd n4), t3, t4, rfl, .inr ⟨i0, z, hi0', ?_, upd_same⟩⟩⟩
          exact same_upd n4 _ _ upd_same
        · rw [valV_book_none (fun h => hin ((book_mem w5).mp h))]
          exact iteF ⟨sm10, t1, t2, rfl, .inl ⟨hin, ht1, ht2⟩⟩
      rintro σ' H11 ⟨sm11, v9, v10, rfl, hv⟩
      -- in, read
      refine ⟨fun σ' H12 => Same H11 H12 ∧ σ' = [some (.ref r), some (.ref wd), some (.ref nl), some (.ref bk), some (.str (dPL (lvs L)).shown), none, some (.ref TD), some (.ref rw_), some (.str k), some (.ref v9), some (.ref v10)], ?_, ?_⟩
      · refine ⟨_, rfl, _, rfl, r, dx, _, rfl, sm11 _ _ hr0, r, k, U, L, t, d, rfl, hring.same sm11, fun H12 sm12 => ⟨_, rfl, ?_⟩⟩
        have sm12' := Same.trans sm11 sm12
        refine ⟨_, rfl, _, rfl, bk, _, rfl, DGet.k (k := .inr k) (sm12' _ _ w4), rfl, _, rfl, ?_⟩
        have em : (decide (k ∈ nms L) ^^ false) = (valV (bookV B) (.inr k : Key)).isSome := by
          by_cases hin : k ∈ nms L
          · obtain ⟨z, hz⟩ := nms_mem.mp hin
            rw [valV_book_some w5.nd ((w5.mem _ _).mpr hz), decide_eq_true hin]
            rfl
          · rw [valV_book_none (fun h => hin ((book_mem w5).mp h)), decide_eq_false hin]
            rfl
        rw [em, decide_eq_true rfl]
        refine iteF ?_
        refine ⟨_, rfl, _, rfl, r, k, U, L, t, d, rfl, hring.same sm12', gk, fun i z' H13 tt hi sm13 htt => ?_, fun hn H13 tt sm13 htt => ?_⟩
        · rcases hv with ⟨hn, _, _⟩ | ⟨i0, z, hi0, e9, e10⟩
          · exact absurd (nms_mem.mpr ⟨z', List.mem_of_getElem? hi⟩) hn
          · have ei := idx_unique L hL.nd i i0 z' z hi hi0
            rw [ei, hi0] at hi
            have ez : z' = z := by
              have := Option.some.inj hi
              injection this with _ this
              exact (Option.some.inj this).symm
            have zs := (hL.val _ (List.mem_of_getElem? hi0) z rfl).lt
            refine ⟨tt, _, rfl, shows_ti (SqT.of htt) okS_value (by rw [ez]; exact zs), _, rfl, v9, _, rfl, shows_ti (SqT.of (sm13 _ _ (sm12 _ _ e9))) okS_value zs, rfl, _, rfl, ?_⟩
            rw [ez, decide_eq_true rfl]
            exact iteF ⟨Same.trans sm12 sm13, rfl⟩
        · rcases hv with ⟨_, e9, e10⟩ | ⟨i0, z, hi0, _⟩
          · refine ⟨tt, _, rfl, shows_ts (SqT.of htt) okS_unknown (okS_of gk), _, rfl, v9, _, rfl, shows_ts (SqT.of (sm13 _ _ (sm12 _ _ e9))) okS_unknown (okS_of gk), rfl, _, rfl, ?_⟩
            rw [decide_eq_true rfl]
            exact iteF ⟨Same.trans sm12 sm13, rfl⟩
          · exact absurd (nms_mem.mpr ⟨z, List.mem_of_getElem? hi0⟩) hn
      rintro σ' H12 ⟨sm12, rfl⟩
      have sm12' := Same.trans sm11 sm12
      refine ⟨_, rfl, _, rfl, r, k, U, L, t, d, rfl, hring.same sm12', gk, fun i z' H13 tt hi sm13 htt => ?_, fun hn H13 tt sm13 htt => ?_⟩
      · rcases hv with ⟨hn, _, _⟩ | ⟨i0, z, hi0, e9, e10⟩
        · exact absurd (nms_mem.mpr ⟨z', List.mem_of_getElem? hi⟩) hn
        · have ei := idx_unique L hL.nd i i0 z' z hi hi0
          have dsm : (((L.length : Nat) : Int) - (i0 : Int)).natAbs < 10 ^ 30 := by
            have : (((L.length : Nat) : Int) - (i0 : Int)).natAbs < 1000 := by have := get_lt hi0; omega
            exact Nat.lt_trans this (by decide)
          refine ⟨tt, _, rfl, shows_ti (SqT.of htt) okS_depth (by rw [ei]; exact dsm), _, rfl, v10, _, rfl, shows_ti (SqT.of (sm13 _ _ (sm12 _ _ e10))) okS_depth dsm, rfl, _, rfl, ?_⟩
          rw [ei, decide_eq_true rfl]
          exact iteF ⟨⟨_, _, _, rfl⟩, Same.trans sm12' sm13⟩
      · rcases hv with ⟨_, e9, e10⟩ | ⟨i0, z, hi0, _⟩
        · refine ⟨tt, _, rfl, shows_ts (SqT.of htt) okS_unknown (okS_of gk), _, rfl, v10, _, rfl, shows_ts (SqT.of (sm13 _ _ (sm12 _ _ e10))) okS_unknown (okS_of gk), rfl, _, rfl, ?_⟩
          rw [decide_eq_true rfl]
          exact iteF ⟨⟨_, _, _, rfl⟩, Same.trans sm12' sm13⟩
        · exact absurd (nms_mem.mpr ⟨z, List.mem_of_getElem? hi0⟩) hn
    rintro σ' H9 ⟨⟨y8, y9, y10, rfl⟩, sm9⟩
    exact q H9 sm9
end K12

set_option Elab.async false
set_option linter.all false
set_option maxRecDepth 100000
set_option maxHeartbeats 4000000
namespace K12
open PySem PySem.Spec PyProof.Rows L2
/-! ## two rings, two worlds -/
def One (K : PySem.W.Frag) (H : Hp) (U : Tm) (c r w bk : Addr) (D : Nat) : Prop := ∃ (L : Log) (t d : Nat) (B : List (Str × Int)), RingAt K H r U L t d ∧ WorldAt H w U L t c bk B ∧ LogOk U L ∧ t < U.cyc.length ∧ d ≤ D
theorem One.same {K : PySem.W.Frag} {H H' : Hp} {U : Tm} {c r w bk : Addr} {D : Nat} (s : Same H H') (h : One K H U c r w bk D) : One K H' U c r w bk D := by
  obtain ⟨L, t, d, B, h1, h2, h3⟩ := h
  exact ⟨L, t, d, B, h1.same s, h2.same s, h3⟩
theorem One.mono {K : PySem.W.Frag} {H : Hp} {U : Tm} {c r w bk : Addr} {D D' : Nat} (l : D ≤ D') (h : One K H U c r w bk D) : One K H U c r w bk D' := by
  obtain ⟨L, t, d, B, h1, h2, h3, h4, h5⟩ := h
  exact ⟨L, t, d, B, h1, h2, h3, h4, Nat.le_trans h5 l⟩
theorem One.purse {K : PySem.W.Frag} {H H' : Hp} {U : Tm} {p c r w bk : Addr} {D : Nat} (hp : PurseAt H p) (f : Fr [p] H H') (hc : c ≠ p) (h : One K H U c r w bk D) : One K H' U c r w bk D := by
  obtain ⟨L, t, d, B, h1, h2, h3⟩ := h
  exact ⟨L, t, d, B, h1.purse hp f, h2.purse hp f hc, h3⟩
theorem One.wide {K : PySem.W.Frag} {H : Hp} {U : Tm} {c r w bk : Addr} {D : Nat} (h : One K H U c r w bk D) : Wide H [r, w, bk] := by
  obtain ⟨L, t, d, B, ⟨dx, b, g, o, ca, lw, op, h1, _⟩, ⟨ch, dw, w1, _, _, w4, _⟩, _⟩ := h
  intro x hx
  simp only [List.mem_cons, List.not_mem_nil, or_false] at hx
  rcases hx with rfl | rfl | rfl
  · exact .inr ⟨_, _, _, h1, by show 2 ≤ 12; decide⟩
  · exact .inl ⟨_, w1⟩
  · exact .inl ⟨_, w4⟩
/-- the other ring and world stand -/
theorem One.other {K : PySem.W.Frag} {H H' : Hp} {U : Tm} {c r w bk r' w' bk' : Addr} {D D' : Nat} (h' : One K H U c r' w' bk' D') (f : Fr [r', w', bk'] H H') (nr : r ≠ r') (nw : w ≠ w' ∧ w ≠ bk') (nb : bk ≠ w' ∧ bk ≠ bk') (h : One K H U c r w bk D) : One K H' U c r w bk D := by
  have kp := Fr.kept h'.wide f
  obtain ⟨L', t', d', B', ⟨dx', b', g', o', ca', lw', op', h1', _⟩, ⟨ch', dw', w1', _, _, w4', _⟩, _⟩ := h'
  obtain ⟨L, t, d, B, hr, hw, h3⟩ := h
  obtain ⟨dx, b, g, o, ca, lw, op, h1, h2, h4⟩ := id hr
  obtain ⟨ch, dw, w1, w2, w3, w4, w5⟩ := id hw
  have n1 : r ≠ w' := kind_ne h1 w1' (by intro z; cases z)
  have n2 : r ≠ bk' := kind_ne h1 w4' (by intro z; cases z)
  have n3 : w ≠ r' := kind_ne w1 h1' (by intro z; cases z)
  have n4 : bk ≠ r' := kind_ne w4 h1' (by intro z; cases z)
  refine ⟨L, t, d, B, hr.kept kp fun o ho => f _ _ (by simp [nr, n1, n2]) ho, ⟨ch, dw, f _ _ (by simp [n3, nw.1, nw.2]) w1, kp.1 _ _ w2, w3.kept kp, f _ _ (by simp [n4, nb.1, nb.2]) w4, w5⟩, h3⟩
/-- what no purse, ring, world or book is -/
def Prot (o : HO) : Prop := (∃ ob u, o = .frz ob u) ∨ ∃ xs, o = .lst xs ∧ ∀ l m z, xs ≠ [.int l, .int m, .int z]
theorem prot_purse {H H' : Hp} {p : Addr} (hp : PurseAt H p) (f : Fr [p] H H') {b : Addr} {o : HO} (h : Prot o) (e : H b = some o) : H' b = some o := by
  refine fr_purse hp f b o e fun l m z q => ?_
  rcases h with ⟨ob, u, rfl⟩ | ⟨xs, rfl, hx⟩
  · cases q
  · injection q with q
    exact hx l m z q
theorem prot_one {K : PySem.W.Frag} {H H' : Hp} {U : Tm} {c r w bk : Addr} {D : Nat} (h1 : One K H U c r w bk D) (f : Fr [r, w, bk] H H') {b : Addr} {o : HO} (h : Prot o) (e : H b = some o) : H' b = some o := by
  refine f b o (fun hb => ?_) e
  rcases h1.wide b hb with ⟨kvs, q⟩ | ⟨C, dx, fs, q, _⟩
  · rw [e] at q
    have q := Option.some.inj q
    rcases h with ⟨ob, u, rfl⟩ | ⟨xs, rfl, _⟩ <;> cases q
  · rw [e] at q
    have q := Option.some.inj q
    rcases h with ⟨ob, u, rfl⟩ | ⟨xs, rfl, _⟩ <;> cases q
theorem purse_one {K : PySem.W.Frag} {H H' : Hp} {U : Tm} {p c r w bk : Addr} {D : Nat} (hp : PurseAt H p) (h1 : One K H U c r w bk D) (f : Fr [r, w, bk] H H') : PurseAt H' p := by
  obtain ⟨l, m, z, e⟩ := hp
  exact ⟨l, m, z, (Fr.kept h1.wide f).1 _ _ e⟩
theorem prot_refs (a b : Addr) : Prot (.lst [.ref a, .ref b]) := .inr ⟨_, rfl, fun l m z h => by injection h with h; cases h⟩
theorem prot_strs (ks : List Str) : Prot (.lst (ks.map V.str)) := .inr ⟨_, rfl, fun l m z h => by
  cases ks with
  | nil => cases h
  | cons a r => injection h with h; cases h⟩
structure Ds (r0 r1 w0 w1 b0 b1 : Addr) : Prop where
  r : r0 ≠ r1
  w : w0 ≠ w1
  b : b0 ≠ b1
  wb0 : w0 ≠ b0
  wb1 : w1 ≠ b1
  w0b1 : w0 ≠ b1
  w1b0 : w1 ≠ b0
/-- both stand at H -/
def Two (K : PySem.W.Frag) (H : Hp) (U : Tm) (c r0 r1 w0 w1 b0 b1 : Addr) (D : Nat) : Prop := One K H U c r0 w0 b0 D ∧ One K H U c r1 w1 b1 D
theorem move_of {K : PySem.W.Frag} {H : Hp} {U : Tm} {c r w bk : Addr} {D : Nat} {k : Str} {v cc : Option Int} {Q : VK} {E : XK} (hU : U.Ok) (hwb : w ≠ bk) (h : One K H U c r w bk D) (hD : Small29 D) (hk : GK k) (hv : ∀ z, v = some z → SmallI z)
    (q : ∀ H', One K H' U c r w bk (D + 1) → Fr [r, w, bk] H H' → Q (.bl true) H') : spMove K [.ref r, .ref w, .str k, cV v, cV cc] H Q E := by
  obtain ⟨L, t, d, B, h1, h2, h3, h4, h5⟩ := h
  exact ⟨r, w, k, v, cc, U, L, t, d, c, bk, B, rfl, h1, h2, hwb, hU, h3, h4, hk, hv, Nat.lt_of_le_of_lt h5 hD, fun H' L' t' d' B' k1 k2 k3 k4 k5 k6 => q H' ⟨L', t', d', B', k1, k2, k3, k4, Nat.le_trans k5 (Nat.succ_le_succ h5)⟩ k6⟩
theorem kept_of {K : PySem.W.Frag} {H : Hp} {U : Tm} {c r w bk nl : Addr} {D : Nat} {ks : List Str} {Q : VK} {E : XK} (hU : U.Ok) (h : One K H U c r w bk D) (hnl : H nl = some (.lst (ks.map V.str))) (hks : ∀ k ∈ ks, GK k)
    (q : ∀ H', Same H H' → Q (.bl true) H') : spKept K [.ref r, .ref w, .ref nl] H Q E := by
  obtain ⟨L, t, d, B, h1, h2, h3, h4, h5⟩ := h
  exact ⟨r, w, nl, U, L, t, d, c, bk, B, ks, rfl, h1, h2, hU, h3, hnl, hks, q⟩
def spTurn (K : PySem.W.Frag) : Sp := fun vs H Q _ => ∃ (p rs ws pl : Addr) (U : Tm) (c r0 r1 w0 w1 b0 b1 : Addr) (D : Nat) (ks : List Str), vs = [.ref p, .ref rs, .ref ws, .ref pl] ∧ PurseAt H p ∧ c ≠ p ∧ H rs = some (.lst [.ref r0, .ref r1]) ∧ H ws = some (.lst [.ref w0, .ref w1]) ∧ U.Ok ∧ Ds r0 r1 w0 w1 b0 b1 ∧
  Two K H U c r0 r1 w0 w1 b0 b1 D ∧ Small29 (D + 2) ∧ H pl = some (.lst (ks.map V.str)) ∧ (∀ k ∈ ks, GK k) ∧ 1 ≤ ks.length ∧ ks.length ≤ 100 ∧
  ∀ H', Two K H' U c r0 r1 w0 w1 b0 b1 (D + 2) → PurseAt H' p → (∀ b o, Prot o → H b = some o → H' b = some o) → Q (.bl true) H'
theorem scLawTurn : FnScope ["_law_purse_here", "_law_rings", "_law_worlds", "_law_pool_here", "_law_pick_here", "_law_tallies", "_law_held", "_law_shown", "_law_k", "_law_names"] ["_law_purse_here", "_law_rings", "_law_worlds", "_law_pool_here"] (defScope sLawTurn) := ⟨rfl, rfl, rfl, by decide +kernel, rfl, by decide +kernel, by decide +kernel⟩
theorem Tx.kLawTurn {K : PySem.W.Frag} {mg : Str → Option Value} (T : Tx K mg) : PySem.W.keepIn K (.ref (He.ga K "_law_turn")) = true := let ⟨_, F⟩ := T.fsLawTurn; F.kp
theorem r_law_turn {w : World} {K : PySem.W.Frag} {mg : Str → Option Value} {base : Heap} (T : Tx K mg) : FnG pg w K mg base 9 (He.ga K "_law_turn") (spTurn K) := by
  obtain ⟨fd, F⟩ := T.fsLawTurn
  refine fn_g F scLawTurn (F.bindsN fun _ _ _ _ _ _ us hl => match us, hl with | [_, _, _, _], _ => rfl) (fun vs H Q E h => ?_) (fun cdv A outer s H vs Q E hgd hr h => ?_)
  · obtain ⟨p, rs, ws, pl, U, c, r0, r1, w0, w1, b0, b1, D, ks, rfl, hp, hcp, hrs, hws, hU, hd, ⟨one0, one1⟩, hD, hpl, hks, k1, k100, q⟩ := h
    rfl
  · obtain ⟨p, rs, ws, pl, U, c, r0, r1, w0, w1, b0, b1, D, ks, rfl, hp, hcp, hrs, hws, hU, hd, ⟨one0, one1⟩, hD, hpl, hks, k1, k100, q⟩ := h
    refine ⟨_, PSs.nox (pss_cons (ps_set (i := 4) scLawTurn.nd rfl (by first | exact .inl rfl | exact .inr rfl) (pe_F (r_law_pick T) (hr.mono (by decide)) T.g_law_pick T.kLawPick takes0 (pa_cons (pv 0) (pa_cons (pe_dget (hu_of hr) (pe_ix ix_list (pv 2) pe_int (fun _ _ => rfl)) pe_str (fun _ _ => rfl)) (pa_cons (pv 3) pa_nil)))))
      (pss_cons (ps_set (i := 5) scLawTurn.nd rfl (by first | exact .inl rfl | exact .inr rfl) (pe_lst (pa_cons pe_non (pa_cons (pe_F (r_law_tally T) (hr.mono (by decide)) T.g_law_tally T.kLawTally takes0 (pa_cons (pv 0) pa_nil)) pa_nil))))
      (pss_cons (ps_set (i := 6) scLawTurn.nd rfl (by first | exact .inl rfl | exact .inr rfl) (pe_M0 (pe_ix ix_list (pv 1) pe_int (fun _ _ => rfl)) T.c_Ring T.m_Ring_table (r_Ring_table T) (hr.mono (by decide)) takes0))
      (pss_cons (ps_set (i := 7) scLawTurn.nd rfl (by first | exact .inl rfl | exact .inr rfl) (pe_callB (call_repr hgd (rm64 hr)) (by rfl) T.n_repr (by decide +kernel) (pa_cons (pv 6) pa_nil)))
      (Evl.pss_cut (ps_for PassesOwn.never rfl (pi_range1 (by rfl) T.n_range (pa_cons pe_int pa_nil)) (pg_name (i := 8) scLawTurn.nd rfl (by first | exact .inl rfl | exact .inr rfl)) (pss_one (ps_if (pt_not (pt_val (pe_F (r_law_move T) (hr.mono (by decide)) T.g_law_move T.kLawMove takes0 (pa_cons (pe_ix ix_list (pv 1) (pv 8) (fun _ _ => rfl)) (pa_cons (pe_ix ix_list (pv 2) (pv 8) (fun _ _ => rfl)) (pa_cons (pe_ix ix_tup (pv 4) pe_int (fun _ _ => rfl)) (pa_cons (pe_ix ix_tup (pv 4) pe_int (fun _ _ => rfl)) (pa_cons (pe_ix ix_list (pv 5) (pv 8) (fun _ _ => rfl)) pa_nil)))))))) (pss_one (ps_ret pe_bl)) pss_nil)))
      (Evl.pss_cut (ps_if (pt_cmpR op_ne (pe_callB (call_repr hgd (rm64 hr)) (by rfl) T.n_repr (by decide +kernel) (pa_cons (pv 6) pa_nil)) (pv 7) (nomark _)) (pss_one (ps_ret pe_bl)) pss_nil)
      (Evl.pss_cut (ps_if (pt_cmpR op_eq (pe_F (r_law_take T) (hr.mono (by decide)) T.g_law_take T.kLawTake takes0 (pa_cons (pv 0) (pa_cons pe_int pa_nil))) pe_int (nomark _)) (pss_one (ps_ret pe_bl)) pss_nil)
      (pss_cons (ps_set (i := 9) scLawTurn.nd rfl (by first | exact .inl rfl | exact .inr rfl) (pe_lst (pa_cons (pe_ix ix_tup (pv 4) pe_int (fun _ _ => rfl)) (pa_cons (pe_ix ix_list (pv 3) (pe_F (r_law_take T) (hr.mono (by decide)) T.g_law_take T.kLawTake takes0 (pa_cons (pv 0) (pa_cons (pe_callB call_len_seq (by rfl) T.n_len PySem.boot_len (pa_cons (pv 3) pa_nil)) pa_nil))) (fun _ _ => rfl)) (pa_cons (pe_ix ix_list (pv 3) (pe_un un_neg pe_int) (fun _ _ => rfl)) pa_nil)))))
      (pss_one (ps_ret (pe_andT (pe_G (r_law_kept T) hgd (hr.mono (by decide)) T.g_law_kept T.kLawKept takes0 (pa_cons (pe_ix ix_list (pv 1) pe_int (fun _ _ => rfl)) (pa_cons (pe_ix ix_list (pv 2) pe_int (fun _ _ => rfl)) (pa_cons (pv 9) pa_nil)))) (pe_one (pe_G (r_law_kept T) hgd (hr.mono (by decide)) T.g_law_kept T.kLawKept takes0 (pa_cons (pe_ix ix_list (pv 1) pe_int (fun _ _ => rfl)) (pa_cons (pe_ix ix_list (pv 2) pe_int (fun _ _ => rfl)) (pa_cons (pv 9) pa_nil)))))))))))))))), ?_⟩
    obtain ⟨L, t, d, B, hring, hworld, hL, ht, hdD⟩ := id one0
    obtain ⟨ch, dw, ww1, ww2, ww3, ww4, ww5⟩ := id hworld
    have L64 : L.length ≤ 64 := Nat.le_trans hL.len hU.s64
    refine ⟨_, rfl, _, rfl, ws, _, 0, _, rfl, rfl, SqL.of hws, rfl, w0, _, rfl, wg_chain ww1, _, rfl, p, ch, pl, L, ks, rfl, hp, ww3, by omega, hL.key, hpl, hks, k1, k100, fun tt k v H1 gk hv a1 f1 htt => ?_⟩
    have P1 : ∀ b o, Prot o → H b = some o → H1 b = some o := fun b o h e => prot_purse hp f1 h e
    refine ⟨_, rfl, p, rfl, a1, fun cc H2 a2 f2 => ⟨(by show 2 ≤ sizeLine; decide), fun tl ntl => ?_⟩⟩
    have f12 := Fr.trans f1 f2
    have P2 : ∀ b o, Prot o → H b = some o → H2 b = some o := fun b o h e => prot_purse hp f12 h e
    have htt2 := fr_purse a1 f2 _ _ htt (by intro l m z e; cases e)
    have s3 : Same H2 (upd H2 tl (.lst [.non, cV cc])) := same_upd ntl
    have htl : (upd H2 tl (.lst [.non, cV cc])) tl = some (.lst [.non, cV cc]) := upd_same
    have one0' := (one0.purse hp f12 hcp).same s3
    have one1' := (one1.purse hp f12 hcp).same s3
    have a3 := a2.same s3
    have P3 : ∀ b o, Prot o → H b = some o → (upd H2 tl (.lst [.non, cV cc])) b = some o := fun b o h e => s3 _ _ (P2 b o h e)
    have htt3 := s3 _ _ htt2
    generalize (upd H2 tl (.lst [.non, cV cc])) = H3 at htl one0' one1' a3 P3 htt3
    obtain ⟨L, t, d, B, hring, hworld, hL, ht, hdD⟩ := id one0'
    have L64 : L.length ≤ 64 := Nat.le_trans hL.len hU.s64
    have lvl := lvs_le L
    obtain ⟨dx, bb, g, o, ca, lw, op, hr0, _, _⟩ := id hring
    refine ⟨_, rfl, rs, _, 0, _, rfl, rfl, SqL.of (P3 _ _ (prot_refs r0 r1) hrs), rfl, r0, dx, _, rfl, hr0, rfl, r0, U, L, t, d, rfl, hring, by omega, hL.nd, fun H4 TD sm4 nTD hTD => ?_⟩
    refine ⟨_, rfl, TD, _, rfl, shows_dict hTD (okP_of hL) (by omega), ?_⟩
    have P4 : ∀ b o, Prot o → H b = some o → H4 b = some o := fun b o h e => sm4 _ _ (P3 b o h e)
    have one04 := one0'.same sm4
    have one14 := one1'.same sm4
    have nT : ∀ b, H3 b ≠ none → TD ≠ b := fun b hb e => hb (by rw [← e]; exact nTD)
    have off0 : TD ∉ [r0, w0, b0] := fun h => by
      rcases one0'.wide TD h with ⟨_, e⟩ | ⟨_, _, _, e, _⟩ <;> (rw [nTD] at e; cases e)
    have off1 : TD ∉ [r1, w1, b1] := fun h => by
      rcases one1'.wide TD h with ⟨_, e⟩ | ⟨_, _, _, e, _⟩ <;> (rw [nTD] at e; cases e)
    -- the two moves
    refine ⟨fun σ' H5 => (∃ y8 y9, σ' = [some (.ref p), some (.ref rs), some (.ref ws), some (.ref pl), some (.ref tt), some (.ref tl), some (.ref TD), some (.str (dPD (lvs L)).shown), y8, y9]) ∧ Two K H5 U c r0 r1 w0 w1 b0 b1 (D + 2) ∧ PurseAt H5 p ∧ (∀ b o, Prot o → H b = some o → H5 b = some o) ∧ H5 TD = some (.dK (bookV (lvs L))) ∧ H5 tt = some (.tup [.str k, cV v]), ?_, ?_⟩
    · refine ⟨2, rfl, by decide, by decide, for_range (n := 2) (fun i σ' H5 => (∃ y8 y9, σ' = [some (.ref p), some (.ref rs), some (.ref ws), some (.ref pl), some (.ref tt), some (.ref tl), some (.ref TD), some (.str (dPD (lvs L)).shown), y8, y9]) ∧ Two K H5 U c r0 r1 w0 w1 b0 b1 (D + i) ∧ PurseAt H5 p ∧ (∀ b o, Prot o → H b = some o → H5 b = some o) ∧ H5 TD = some (.dK (bookV (lvs L))) ∧ H5 tt = some (.tup [.str k, cV v]) ∧ H5 tl = some (.lst [.non, cV cc]))
        ⟨⟨_, _, rfl⟩, ⟨one04, one14⟩, a3.same sm4, P4, hTD, sm4 _ _ htt3, sm4 _ _ htl⟩ (fun i σ' H5 hi h => ?_) (fun σ' H5 h => ?_)⟩
      · obtain ⟨⟨y8, y9, rfl⟩, ⟨o0, o1⟩, a5, P5, hT5, ht5, hl5⟩ := h
        have small : Small29 (D + i) := Nat.lt_of_le_of_lt (by omega) hD
        have keep : ∀ (r w bk : Addr) (H6 : Hp) (D' : Nat), One K H5 U c r w bk D' → TD ∉ [r, w, bk] → Fr [r, w, bk] H5 H6 → PurseAt H6 p ∧ (∀ b o, Prot o → H b = some o → H6 b = some o) ∧ H6 TD = some (.dK (bookV (lvs L))) ∧ H6 tt = some (.tup [.str k, cV v]) ∧ H6 tl = some (.lst [.non, cV cc]) := fun r w bk H6 D' h1 off f6 =>
          ⟨purse_one a5 h1 f6, fun b o h e => prot_one h1 f6 h (P5 b o h e), f6 _ _ off hT5, (Fr.kept h1.wide f6).2.1 _ _ ht5, (Fr.kept h1.wide f6).1 _ _ hl5⟩
        have cases01 : i = 0 ∨ i = 1 := by omega
        rcases cases01 with rfl | rfl
        · refine ⟨_, rfl, _, rfl, rs, _, 0, .ref r0, rfl, rfl, SqL.of (P5 _ _ (prot_refs r0 r1) hrs), rfl, _, rfl, _, rfl, ws, _, 0, .ref w0, rfl, rfl, SqL.of (P5 _ _ (prot_refs w0 w1) hws), rfl, _, rfl, tt, _, 0, _, rfl, rfl, SqT.of ht5, rfl, _, rfl, tt, _, 1, _, rfl, rfl, SqT.of ht5, rfl, _, rfl, _, rfl, tl, _, 0, .non, rfl, rfl, SqL.of hl5, rfl, ?_⟩
          obtain ⟨Lm, tm, dm, Bm, m1, m2, m3, m4, m5⟩ := id o0
          refine ⟨r0, w0, k, v, none, U, Lm, tm, dm, c, b0, Bm, rfl, m1, m2, hd.wb0, hU, m3, m4, gk, hv, Nat.lt_of_le_of_lt m5 small, fun H6 L' t' d' B' n1 n2 n3 n4 n5 f6 => ?_⟩
          have o06 : One K H6 U c r0 w0 b0 (D + 0 + 1) := ⟨L', t', d', B', n1, n2, n3, n4, Nat.le_trans n5 (Nat.succ_le_succ m5)⟩
          obtain ⟨q1, q2, q3, q4, q5⟩ := keep r0 w0 b0 H6 _ o0 off0 f6
          have o16 := o0.other f6 hd.r.symm ⟨hd.w.symm, hd.w1b0⟩ ⟨hd.w0b1.symm, hd.b.symm⟩ o1
          refine ⟨_, rfl, ?_⟩
          exact iteF ⟨⟨_, _, rfl⟩, ⟨o06, o16.mono (Nat.le_succ _)⟩, q1, q2, q3, q4, q5⟩
        · refine ⟨_, rfl, _, rfl, rs, _, 1, .ref r1, rfl, rfl, SqL.of (P5 _ _ (prot_refs r0 r1) hrs), rfl, _, rfl, _, rfl, ws, _, 1, .ref w1, rfl, rfl, SqL.of (P5 _ _ (prot_refs w0 w1) hws), rfl, _, rfl, tt, _, 0, _, rfl, rfl, SqT.of ht5, rfl, _, rfl, tt, _, 1, _, rfl, rfl, SqT.of ht5, rfl, _, rfl, _, rfl, tl, _, 1, cV cc, rfl, rfl, SqL.of hl5, rfl, ?_⟩
          obtain ⟨Lm, tm, dm, Bm, m1, m2, m3, m4, m5⟩ := id o1
          refine ⟨r1, w1, k, v, cc, U, Lm, tm, dm, c, b1, Bm, rfl, m1, m2, hd.wb1, hU, m3, m4, gk, hv, Nat.lt_of_le_of_lt m5 small, fun H6 L' t' d' B' n1 n2 n3 n4 n5 f6 => ?_⟩
          have o16 : One K H6 U c r1 w1 b1 (D + 1 + 1) := ⟨L', t', d', B', n1, n2, n3, n4, Nat.le_trans n5 (Nat.succ_le_succ m5)⟩
          obtain ⟨q1, q2, q3, q4, q5⟩ := keep r1 w1 b1 H6 _ o1 off1 f6
          have o06 := o1.other f6 hd.r ⟨hd.w, hd.w0b1⟩ ⟨hd.w1b0.symm, hd.b⟩ o0
          refine ⟨_, rfl, ?_⟩
          exact iteF ⟨⟨_, _, rfl⟩, ⟨o06.mono (Nat.le_succ _), o16⟩, q1, q2, q3, q4, q5⟩
      · obtain ⟨h1, h2, h3, h4, h5, h6, _⟩ := h
        exact ⟨h1, h2, h3, h4, h5, h6⟩
    rintro σ' H5 ⟨⟨y8, y9, rfl⟩, two5, a5, P5, hT5, ht5⟩
    refine ⟨fun σ' H6 => σ' = [some (.ref p), some (.ref rs), some (.ref ws), some (.ref pl), some (.ref tt), some (.ref tl), some (.ref TD), some (.str (dPD (lvs L)).shown), y8, y9] ∧ H6 = H5, ?_, ?_⟩
    · refine ⟨_, rfl, TD, _, rfl, shows_dict hT5 (okP_of hL) (by omega), _, rfl, rfl, _, rfl, ?_⟩
      rw [decide_eq_true rfl]
      exact iteF ⟨rfl, rfl⟩
    rintro σ' H6 ⟨rfl, rfl⟩
    refine ⟨fun σ' H7 => σ' = [some (.ref p), some (.ref rs), some (.ref ws), some (.ref pl), some (.ref tt), some (.ref tl), some (.ref TD), some (.str (dPD (lvs L)).shown), y8, y9] ∧ Two K H7 U c r0 r1 w0 w1 b0 b1 (D + 2) ∧ PurseAt H7 p ∧ (∀ b o, Prot o → H b = some o → H7 b = some o) ∧ H7 tt = some (.tup [.str k, cV v]), ?_, ?_⟩
    · refine ⟨_, rfl, p, 3, rfl, a5, pos_small (by decide) (by decide), fun d7 H7 _ _ a7 f7 => ⟨rfl, _, rfl, ?_⟩⟩
      have two7 : Two K H7 U c r0 r1 w0 w1 b0 b1 (D + 2) := ⟨two5.1.purse a5 f7 hcp, two5.2.purse a5 f7 hcp⟩
      have P7 : ∀ b o, Prot o → H b = some o → H7 b = some o := fun b o h e => prot_purse a5 f7 h (P5 b o h e)
      refine ite2 (fun _ => ?_) (fun _ => ?_)
      · exact q H7 two7 a7 P7
      · exact ⟨rfl, two7, a7, P7, fr_purse a5 f7 _ _ ht5 (by intro l m z e; cases e)⟩
    rintro σ' H7 ⟨rfl, two7, a7, P7, ht7⟩
    have hpl7 := P7 _ _ (prot_strs ks) hpl
    refine ⟨_, rfl, tt, _, 0, _, rfl, rfl, SqT.of ht7, rfl, _, rfl, _, rfl, _, rfl, pl, _, rfl, .inl (SqL.of hpl7), p, _, rfl, a7, pos_small (by rw [List.length_map]; omega) (by rw [List.length_map]; omega), fun d8 H8 d80 d81 a8 f8 => ?_⟩
    rw [List.length_map] at d81
    have two8 : Two K H8 U c r0 r1 w0 w1 b0 b1 (D + 2) := ⟨two7.1.purse a7 f8 hcp, two7.2.purse a7 f8 hcp⟩
    have P8 : ∀ b o, Prot o → H b = some o → H8 b = some o := fun b o h e => prot_purse a7 f8 h (P7 b o h e)
    have hpl8 := P8 _ _ (prot_strs ks) hpl
    obtain ⟨k2, hk2⟩ := get_of (xs := ks) (i := d8.toNat) (by omega)
    have gk2 := hks k2 (List.mem_of_getElem? hk2)
    have at2 : atI (ks.map V.str) d8 = some (.str k2) := by
      have := atI_nat (xs := ks.map V.str) (j := d8.toNat) (v := .str k2) (by rw [List.getElem?_map, hk2]; rfl)
      rw [Int.toNat_of_nonneg d80] at this
      exact this
    have kne : ks.map V.str ≠ [] := fun e => by
      have : (ks.map V.str).length = 0 := by rw [e]; rfl
      rw [List.length_map] at this
      omega
    obtain ⟨v3, hv3, at3⟩ := atI_neg1 kne
    obtain ⟨k3, hk3, rfl⟩ := List.mem_map.mp hv3
    refine ⟨pl, _, d8, .str k2, rfl, rfl, SqL.of hpl8, at2, _, rfl, 1, rfl, pl, _, -1, .str k3, rfl, rfl, SqL.of hpl8, at3, (by show 3 ≤ sizeLine; decide), fun nl nnl => ?_⟩
    have hnl : (upd H8 nl (.lst [.str k, .str k2, .str k3])) nl = some (.lst (([k, k2, k3] : List Str).map V.str)) := upd_same
    have s9 : Same H8 (upd H8 nl (.lst [.str k, .str k2, .str k3])) := same_upd nnl
    generalize (upd H8 nl (.lst [.str k, .str k2, .str k3])) = H9 at hnl s9
    have gks : ∀ x ∈ ([k, k2, k3] : List Str), GK x := fun x hx => by
      simp only [List.mem_cons, List.not_mem_nil, or_false] at hx
      rcases hx with rfl | rfl | rfl
      · exact gk
      · exact gk2
      · exact hks _ hk3
    have P9 : ∀ b o, Prot o → H b = some o → H9 b = some o := fun b o h e => s9 _ _ (P8 b o h e)
    refine ⟨_, rfl, rs, _, 0, .ref r0, rfl, rfl, SqL.of (P9 _ _ (prot_refs r0 r1) hrs), rfl, _, rfl, ws, _, 0, .ref w0, rfl, rfl, SqL.of (P9 _ _ (prot_refs w0 w1) hws), rfl, _, rfl, ?_⟩
    obtain ⟨La, ta, da, Ba, e1, e2, e3, e4, e5⟩ := two8.1.same s9
    refine ⟨r0, w0, nl, U, La, ta, da, c, b0, Ba, _, rfl, e1, e2, hU, e3, hnl, gks, fun H10 s10 => ?_⟩
    have P10 : ∀ b o, Prot o → H b = some o → H10 b = some o := fun b o h e => s10 _ _ (P9 b o h e)
    refine ⟨true, rfl, ?_⟩
    refine iteT ?_
    refine ⟨_, rfl, rs, _, 1, .ref r1, rfl, rfl, SqL.of (P10 _ _ (prot_refs r0 r1) hrs), rfl, _, rfl, ws, _, 1, .ref w1, rfl, rfl, SqL.of (P10 _ _ (prot_refs w0 w1) hws), rfl, _, rfl, ?_⟩
    have s910 := Same.trans s9 s10
    obtain ⟨Lb, tb, db, Bb, e1', e2', e3', e4', e5'⟩ := two8.2.same s910
    refine ⟨r1, w1, nl, U, Lb, tb, db, c, b1, Bb, _, rfl, e1', e2', hU, e3', s10 _ _ hnl, gks, fun H11 s11 => ?_⟩
    exact q H11 ⟨two8.1.same (Same.trans s910 s11), two8.2.same (Same.trans s910 s11)⟩ (a8.same (Same.trans s910 s11)) fun b o h e => s11 _ _ (P10 b o h e)
end K12

set_option Elab.async false
set_option linter.all false
set_option maxRecDepth 100000
set_option maxHeartbeats 4000000
namespace K12
open PySem PySem.Spec PyProof.Rows L2
/-! ## the law -/
/-- the script: locked, or a thing of the written part -/
def ScriptAt (K : PySem.W.Frag) (H : Hp) (a : Addr) (ns : List Int) : Prop := (∃ o, H a = some (.frz o (.lst (ns.map V.int)))) ∨ ∀ H', SqL K H' a (ns.map V.int)
theorem ScriptAt.sq {K : PySem.W.Frag} {H : Hp} {a : Addr} {ns : List Int} (h : ScriptAt K H a ns) : SqL K H a (ns.map V.int) := by
  rcases h with ⟨o, h⟩ | h
  · exact .inl (.inr ⟨o, h⟩)
  · exact h H
theorem ScriptAt.of {K : PySem.W.Frag} {H H' : Hp} {a : Addr} {ns : List Int} (f : ∀ b o, Prot o → H b = some o → H' b = some o) (h : ScriptAt K H a ns) : ScriptAt K H' a ns := by
  rcases h with ⟨o, h⟩ | h
  · exact .inl ⟨o, f _ _ (.inl ⟨_, _, rfl⟩) h⟩
  · exact .inr h
theorem ScriptAt.same {K : PySem.W.Frag} {H H' : Hp} {a : Addr} {ns : List Int} (f : Same H H') (h : ScriptAt K H a ns) : ScriptAt K H' a ns := h.of fun b o _ e => f b o e
def spLaw (K : PySem.W.Frag) : Sp := fun vs H Q _ => ∃ (a : Addr) (ns : List Int), vs = [.ref a] ∧ ScriptAt K H a ns ∧ ns.length ≤ 63 ∧ ∀ H', Q (.bl true) H'
theorem scLaw : FnScope ["_law_script", "_law_purse_here", "_law_terms_here", "_law_pool_here", "_law_rings", "_law_worlds", "_law_name_here", "_law_worth_here", "_law_k", "_law_rounds", "_law_share", "_law_turn_here"] ["_law_script"] (defScope sLaw) := ⟨rfl, rfl, rfl, by decide +kernel, rfl, by decide +kernel, by decide +kernel⟩
theorem Tx.kLaw {K : PySem.W.Frag} {mg : Str → Option Value} (T : Tx K mg) : PySem.W.keepIn K (.ref (He.ga K "law")) = true := let ⟨_, F⟩ := T.fsLaw; F.kp
theorem r_law {w : World} {K : PySem.W.Frag} {mg : Str → Option Value} {base : Heap} (T : Tx K mg) : FnG pg w K mg base 10 (He.ga K "law") (spLaw K) := by
  obtain ⟨fd, F⟩ := T.fsLaw
  refine fn_g F scLaw (F.bindsN fun _ _ _ _ _ _ us hl => match us, hl with | [_], _ => rfl) (fun vs H Q E h => ?_) (fun cdv A outer s H vs Q E hgd hr h => ?_)
  · obtain ⟨a, ns, rfl, hs, h63, q⟩ := h
    rfl
  · obtain ⟨a, ns, rfl, hs, h63, q⟩ := h
    refine ⟨_, PSs.nox (pss_cons (ps_set (i := 1) scLaw.nd rfl (by first | exact .inl rfl | exact .inr rfl) (pe_F (r_law_purse T) (hr.mono (by decide)) T.g_law_purse T.kLawPurse takes0 (pa_cons (pe_F (r_law_cell T) (hr.mono (by decide)) T.g_law_cell T.kLawCell takes0 (pa_cons (pv 0) (pa_cons pe_int pa_nil))) (pa_cons pe_int pa_nil))))
      (pss_cons (ps_set (i := 2) scLaw.nd rfl (by first | exact .inl rfl | exact .inr rfl) (pe_F (r_law_terms T) (hr.mono (by decide)) T.g_law_terms T.kLawTerms takes0 (pa_cons (pv 1) pa_nil)))
      (pss_cons (ps_set (i := 3) scLaw.nd rfl (by first | exact .inl rfl | exact .inr rfl) (pe_F (r_law_pool T) (hr.mono (by decide)) T.g_law_pool T.kLawPool takes0 (pa_cons (pe_F (r_law_purse T) (hr.mono (by decide)) T.g_law_purse T.kLawPurse takes0 (pa_cons (pe_F (r_law_cell T) (hr.mono (by decide)) T.g_law_cell T.kLawCell takes0 (pa_cons (pv 0) (pa_cons pe_int pa_nil))) (pa_cons pe_int pa_nil))) (pa_cons (pe_op op_add (pe_op op_add (pe_ix ix_list (pv 2) pe_int (fun _ _ => rfl)) pe_int) (pe_F (r_law_take T) (hr.mono (by decide)) T.g_law_take T.kLawTake takes0 (pa_cons (pv 1) (pa_cons pe_int pa_nil)))) pa_nil))))
      (pss_cons (ps_set (i := 4) scLaw.nd rfl (by first | exact .inl rfl | exact .inr rfl) (pe_lst (pa_cons (pe_F (r_law_ring T) (hr.mono (by decide)) T.g_law_ring T.kLawRing takes0 (pa_cons (pv 2) pa_nil)) (pa_cons (pe_F (r_law_ring T) (hr.mono (by decide)) T.g_law_ring T.kLawRing takes0 (pa_cons (pv 2) pa_nil)) pa_nil))))
      (pss_cons (ps_set (i := 5) scLaw.nd rfl (by first | exact .inl rfl | exact .inr rfl) (pe_lst (pa_cons (pe_F (r_law_world T) (hr.mono (by decide)) T.g_law_world T.kLawWorld takes0 (pa_cons (pv 2) pa_nil)) (pa_cons (pe_F (r_law_world T) (hr.mono (by decide)) T.g_law_world T.kLawWorld takes0 (pa_cons (pv 2) pa_nil)) pa_nil))))
      (Evl.pss_cut (ps_for PassesOwn.never rfl (pi_list (pe_slice sl_list (pv 3) po_none (po_some (pe_F (r_law_take T) (hr.mono (by decide)) T.g_law_take T.kLawTake takes0 (pa_cons (pv 1) (pa_cons (pe_op op_add (pe_ix ix_list (pv 2) pe_int (fun _ _ => rfl)) pe_int) pa_nil)))))) (pg_name (i := 6) scLaw.nd rfl (by first | exact .inl rfl | exact .inr rfl)) (pss_cons (ps_set (i := 7) scLaw.nd rfl (by first | exact .inl rfl | exact .inr rfl) (pe_F (r_law_worth T) (hr.mono (by decide)) T.g_law_worth T.kLawWorth takes0 (pa_cons (pv 1) pa_nil)))
      (pss_one (ps_for PassesOwn.never rfl (pi_range1 (by rfl) T.n_range (pa_cons pe_int pa_nil)) (pg_name (i := 8) scLaw.nd rfl (by first | exact .inl rfl | exact .inr rfl)) (pss_one (ps_if (pt_not (pt_val (pe_F (r_law_move T) (hr.mono (by decide)) T.g_law_move T.kLawMove takes0 (pa_cons (pe_ix ix_list (pv 4) (pv 8) (fun _ _ => rfl)) (pa_cons (pe_ix ix_list (pv 5) (pv 8) (fun _ _ => rfl)) (pa_cons (pv 6) (pa_cons (pv 7) (pa_cons pe_non pa_nil)))))))) (pss_one (ps_ret pe_bl)) pss_nil))))))
      (pss_cons (ps_set (i := 9) scLaw.nd rfl (by first | exact .inl rfl | exact .inr rfl) (pe_callB (call_max2 rfl) (by rfl) T.n_max (by decide +kernel) (pa_cons pe_int (pa_cons (pe_callB (call_min2 rfl) (by rfl) T.n_min (by decide +kernel) (pa_cons pe_int (pa_cons (pe_op op_sub (pe_callB call_len_seq (by rfl) T.n_len PySem.boot_len (pa_cons (pv 0) pa_nil)) pe_int) pa_nil))) pa_nil))))
      (pss_cons (ps_set (i := 10) scLaw.nd rfl (by first | exact .inl rfl | exact .inr rfl) (pe_callB (call_max2 rfl) (by rfl) T.n_max (by decide +kernel) (pa_cons pe_int (pa_cons (pe_callB (call_min2 rfl) (by rfl) T.n_min (by decide +kernel) (pa_cons pe_int (pa_cons (pe_op op_fdivW pe_int (pv 9)) pa_nil))) pa_nil))))
      (Evl.pss_cut (ps_for PassesOwn.never rfl (pi_range1 (by rfl) T.n_range (pa_cons (pv 9) pa_nil)) (pg_name (i := 8) scLaw.nd rfl (by first | exact .inl rfl | exact .inr rfl)) (pss_cons (ps_set (i := 1) scLaw.nd rfl (by first | exact .inl rfl | exact .inr rfl) (pe_F (r_law_purse T) (hr.mono (by decide)) T.g_law_purse T.kLawPurse takes0 (pa_cons (pe_F (r_law_cell T) (hr.mono (by decide)) T.g_law_cell T.kLawCell takes0 (pa_cons (pv 0) (pa_cons (pe_op op_add pe_int (pv 8)) pa_nil))) (pa_cons (pe_op op_add pe_int (pv 8)) pa_nil))))
      (pss_one (ps_for PassesOwn.never rfl (pi_range1 (by rfl) T.n_range (pa_cons (pe_op op_add pe_int (pe_F (r_law_take T) (hr.mono (by decide)) T.g_law_take T.kLawTake takes0 (pa_cons (pv 1) (pa_cons (pv 10) pa_nil)))) pa_nil)) (pg_name (i := 11) scLaw.nd rfl (by first | exact .inl rfl | exact .inr rfl)) (pss_one (ps_if (pt_not (pt_val (pe_G (r_law_turn T) hgd (hr.mono (by decide)) T.g_law_turn T.kLawTurn takes0 (pa_cons (pv 1) (pa_cons (pv 4) (pa_cons (pv 5) (pa_cons (pv 3) pa_nil))))))) (pss_one (ps_ret pe_bl)) pss_nil))))))
      (pss_one (ps_ret (pe_andT (pe_G (r_law_kept T) hgd (hr.mono (by decide)) T.g_law_kept T.kLawKept takes0 (pa_cons (pe_ix ix_list (pv 4) pe_int (fun _ _ => rfl)) (pa_cons (pe_ix ix_list (pv 5) pe_int (fun _ _ => rfl)) (pa_cons (pv 3) pa_nil)))) (pe_one (pe_G (r_law_kept T) hgd (hr.mono (by decide)) T.g_law_kept T.kLawKept takes0 (pa_cons (pe_ix ix_list (pv 4) pe_int (fun _ _ => rfl)) (pa_cons (pe_ix ix_list (pv 5) pe_int (fun _ _ => rfl)) (pa_cons (pv 3) pa_nil))))))))))))))))), ?_⟩
    have hr63 : (sizeLine : Nat) ≥ 1000 := by decide
    refine ⟨_, rfl, a, ns, 0, rfl, hs.sq, fun v H1 sm1 => ⟨_, 1, rfl, fun p H2 sm2 np a2 => ?_⟩⟩
    have sm12 := Same.trans sm1 sm2
    refine ⟨_, rfl, p, rfl, a2, fun tm c U H3 ntm nc hterms hU a3 f3 => ?_⟩
    obtain ⟨pl2, pm2, pz2, hp2⟩ := id a2
    have cp : c ≠ p := (ne_of_none hp2 nc).symm
    have P3 : ∀ b o, Prot o → H b = some o → H3 b = some o := fun b o h e => prot_purse a2 f3 h (sm12 _ _ e)
    have hs3 := hs.of P3
    refine ⟨_, rfl, a, ns, 1, rfl, hs3.sq, fun v2 H4 sm4 => ⟨_, 2, rfl, fun p2 H5 sm5 np2 a5 => ?_⟩⟩
    have sm35 := Same.trans sm4 sm5
    have a3' := a3.same sm35
    have ht5 : TermsAt H5 tm c U := ⟨sm35 _ _ hterms.1, sm35 _ _ hterms.2⟩
    have cp2 : c ≠ p2 := ne_of_none (sm4 _ _ hterms.2) np2
    have pp2 : p ≠ p2 := by
      obtain ⟨l, m, z, e⟩ := a3.same sm4
      exact ne_of_none e np2
    refine ⟨_, rfl, tm, _, 1, _, rfl, rfl, SqL.of ht5.1, rfl, _, 1, rfl, rfl, _, rfl, p, 3, rfl, a3', pos_small (by decide) (by decide), fun d6 H6 d60 d61 a6 f6 => ⟨_, _, rfl, rfl, ?_⟩⟩
    have cap64 := Nat.le_trans hU.cs hU.s64
    have cap1 := hU.cap1
    have a56 : PurseAt H6 p2 := by
      obtain ⟨l, m, z, e⟩ := a5
      exact ⟨l, m, z, f6 _ _ (by simpa using pp2.symm) e⟩
    have tm6 : TermsAt H6 tm c U := ⟨fr_purse a3' f6 _ _ ht5.1 (by intro l m z e; injection e with e; cases e), f6 _ _ (by simpa using cp) ht5.2⟩
    have hs6 : ScriptAt K H6 a ns := (hs3.same sm35).of fun b o h e => prot_purse a3' f6 h e
    refine ⟨p2, ((U.cap : Int) + 1 + d6).toNat, ?_, a56, by omega, fun pl ks H7 npl hpl hkl hks a7 f7 => ?_⟩
    · rw [show ((((U.cap : Int) + 1 + d6).toNat : Nat) : Int) = (U.cap : Int) + 1 + d6 by omega]
    have tm7 : TermsAt H7 tm c U := ⟨fr_purse a56 f7 _ _ tm6.1 (by intro l m z e; injection e with e; cases e), f7 _ _ (by simpa using cp2) tm6.2⟩
    have a67 : PurseAt H7 p := by
      obtain ⟨l, m, z, e⟩ := a6
      exact ⟨l, m, z, f7 _ _ (by simpa using pp2) e⟩
    have hs7 : ScriptAt K H7 a ns := hs6.of fun b o h e => prot_purse a56 f7 h e
    have klen : 1 ≤ ks.length ∧ ks.length ≤ 100 := by omega
    -- the rings
    refine ⟨_, rfl, tm, c, U, rfl, tm7, hU, fun H8 r0 sm8 nr0 ring0 => ?_⟩
    have tm8 : TermsAt H8 tm c U := ⟨sm8 _ _ tm7.1, sm8 _ _ tm7.2⟩
    refine ⟨_, rfl, tm, c, U, rfl, tm8, hU, fun H9 r1 sm9 nr1 ring1 => ⟨(by show 2 ≤ sizeLine; decide), fun rs nrs => ?_⟩⟩
    have r01 : r0 ≠ r1 := by
      obtain ⟨dx, b, g, o, ca, lw, op, h1, _⟩ := id ring0
      exact ne_of_none h1 nr1
    have s9' : Same H9 (upd H9 rs (.lst [.ref r0, .ref r1])) := same_upd nrs
    have hrs : (upd H9 rs (.lst [.ref r0, .ref r1])) rs = some (.lst [.ref r0, .ref r1]) := upd_same
    have ring0' := (ring0.same sm9).same s9'
    have ring1' := ring1.same s9'
    have s79 := Same.trans sm8 (Same.trans sm9 s9')
    generalize (upd H9 rs (.lst [.ref r0, .ref r1])) = H10 at hrs ring0' ring1' s79
    have tm10 : TermsAt H10 tm c U := ⟨s79 _ _ tm7.1, s79 _ _ tm7.2⟩
    -- the worlds
    refine ⟨_, rfl, tm, c, U, rfl, tm10, fun H11 w0 b0 sm11 nw0 nb0 bw0 world0 => ?_⟩
    have tm11 : TermsAt H11 tm c U := ⟨sm11 _ _ tm10.1, sm11 _ _ tm10.2⟩
    refine ⟨_, rfl, tm, c, U, rfl, tm11, fun H12 w1 b1 sm12' nw1 nb1 bw1 world1 => ⟨(by show 2 ≤ sizeLine; decide), fun ws nws => ?_⟩⟩
    have hd : Ds r0 r1 w0 w1 b0 b1 := by
      obtain ⟨ch, dw, e1, _, _, e4, _⟩ := id world0
      exact ⟨r01, ne_of_none e1 nw1, ne_of_none e4 nb1, bw0.symm, bw1.symm, ne_of_none e1 nb1, (ne_of_none e4 nw1).symm⟩
    have s12 : Same H12 (upd H12 ws (.lst [.ref w0, .ref w1])) := same_upd nws
    have hws : (upd H12 ws (.lst [.ref w0, .ref w1])) ws = some (.lst [.ref w0, .ref w1]) := upd_same
    have s10 := Same.trans sm11 (Same.trans sm12' s12)
    have logok : LogOk U [] := ⟨List.nodup_nil, (fun e h => by cases h), (fun e h => by cases h), Nat.zero_le _, rfl⟩
    have c1 := hU.c1
    have two0 : Two K (upd H12 ws (.lst [.ref w0, .ref w1])) U c r0 r1 w0 w1 b0 b1 0 :=
      ⟨⟨[], 0, 0, [], ring0'.same s10, (world0.same sm12').same s12, logok, by omega, Nat.le_refl _⟩, ⟨[], 0, 0, [], ring1'.same s10, world1.same s12, logok, by omega, Nat.le_refl _⟩⟩
    have s7 := Same.trans s79 s10
    generalize (upd H12 ws (.lst [.ref w0, .ref w1])) = H13 at hws two0 s7 s10
    have hrs13 := s10 _ _ hrs
    have hpl13 := s7 _ _ hpl
    have a13 := a67.same s7
    have hs13 := hs7.same s7
    have tm13 : TermsAt H13 tm c U := ⟨s7 _ _ tm7.1, s7 _ _ tm7.2⟩
    -- what stands from here on
    have Stay : ∀ (H' : Hp), (∀ b o, Prot o → H13 b = some o → H' b = some o) → H' rs = some (.lst [.ref r0, .ref r1]) ∧ H' ws = some (.lst [.ref w0, .ref w1]) ∧ H' pl = some (.lst (ks.map V.str)) ∧ ScriptAt K H' a ns := fun H' P =>
      ⟨P _ _ (prot_refs r0 r1) hrs13, P _ _ (prot_refs w0 w1) hws, P _ _ (prot_strs ks) hpl13, hs13.of P⟩
    -- the first puts
    refine ⟨fun σ' H' => (∃ y1 y6 y7 y8, σ' = [some (.ref a), y1, some (.ref tm), some (.ref pl), some (.ref rs), some (.ref ws), y6, y7, y8, none, none, none]) ∧ Two K H' U c r0 r1 w0 w1 b0 b1 1000 ∧ (∀ b o, Prot o → H13 b = some o → H' b = some o), ?_, ?_⟩
    · refine ⟨_, rfl, _, rfl, _, rfl, tm, _, 1, _, rfl, rfl, SqL.of tm13.1, rfl, _, 2, rfl, rfl, p, _, rfl, a13, pos_small (by omega) (by omega), fun d14 H14 d140 d141 a14 f14 => ⟨_, rfl, pl, _, rfl, SqL.of (fr_purse a13 f14 _ _ hpl13 ?_), fun sl nsl => ?_⟩⟩
      · intro l m z e
        rcases prot_strs ks with ⟨_, _, h⟩ | ⟨xs, h, hx⟩
        · cases h
        · injection h with h
          injection e with e
          exact hx l m z (h ▸ e)
      obtain ⟨j, rfl⟩ : ∃ j : Nat, d14 = (j : Int) := ⟨d14.toNat, (Int.toNat_of_nonneg d140).symm⟩
      have hsl : (upd H14 sl (.lst (cutV (ks.map V.str) none (some (j : Int))))) sl = some (.lst ((ks.take j).map V.str)) := by
        rw [upd_same, cut_to, List.map_take]
      have s15 : Same H14 (upd H14 sl (.lst (cutV (ks.map V.str) none (some (j : Int))))) := same_upd nsl
      have two15 : Two K (upd H14 sl (.lst (cutV (ks.map V.str) none (some (j : Int))))) U c r0 r1 w0 w1 b0 b1 0 := ⟨(two0.1.purse a13 f14 cp).same s15, (two0.2.purse a13 f14 cp).same s15⟩
      have a15 := a14.same s15
      have P15 : ∀ b o, Prot o → H13 b = some o → (upd H14 sl (.lst (cutV (ks.map V.str) none (some (j : Int))))) b = some o := fun b o h e => s15 _ _ (prot_purse a13 f14 h e)
      generalize (upd H14 sl (.lst (cutV (ks.map V.str) none (some (j : Int))))) = H15 at hsl two15 a15 P15
      have tl : (ks.take j).length ≤ 100 := by rw [List.length_take]; omega
      refine ⟨sl, rfl, ⟨_, SqL.of hsl⟩, for_list (xs := (ks.take j).map V.str) (fun i σ' H' => (∃ y6 y7 y8, σ' = [some (.ref a), some (.ref p), some (.ref tm), some (.ref pl), some (.ref rs), some (.ref ws), y6, y7, y8, none, none, none]) ∧ Two K H' U c r0 r1 w0 w1 b0 b1 (2 * i) ∧ PurseAt H' p ∧ (∀ b o, Prot o → H13 b = some o → H' b = some o) ∧ H' sl = some (.lst ((ks.take j).map V.str)))
        ⟨⟨_, _, _, rfl⟩, two15, a15, P15, hsl⟩ (fun i σ' H' _ h => SqL.of h.2.2.2.2) (fun i x σ' H' hx h => ?_) (fun σ' H' h => ?_)⟩
      · obtain ⟨⟨y6, y7, y8, rfl⟩, two, aa, PP, hsl'⟩ := h
        rw [List.getElem?_map] at hx
        obtain ⟨k, hk, rfl⟩ := Option.map_eq_some_iff.mp hx
        have gk := hks k (List.mem_of_mem_take (List.mem_of_getElem? hk))
        have ilt := get_lt hk
        refine ⟨_, rfl, p, rfl, aa, fun z H16 hz a16 f16 => ?_⟩
        have two16 : Two K H16 U c r0 r1 w0 w1 b0 b1 (2 * i) := ⟨two.1.purse aa f16 cp, two.2.purse aa f16 cp⟩
        have P16 : ∀ b o, Prot o → H13 b = some o → H16 b = some o := fun b o h e => prot_purse aa f16 h (PP b o h e)
        have sl16 := prot_purse aa f16 (prot_strs (ks.take j)) hsl'
        refine ⟨2, rfl, by decide, by decide, for_range (n := 2) (fun e σ' H' => (∃ y8, σ' = [some (.ref a), some (.ref p), some (.ref tm), some (.ref pl), some (.ref rs), some (.ref ws), some (.str k), some (.int z), y8, none, none, none]) ∧ Two K H' U c r0 r1 w0 w1 b0 b1 (2 * i + e) ∧ PurseAt H' p ∧ (∀ b o, Prot o → H13 b = some o → H' b = some o) ∧ H' sl = some (.lst ((ks.take j).map V.str)))
          ⟨⟨_, rfl⟩, two16, a16, P16, sl16⟩ (fun e σ' H17 he h => ?_) (fun σ' H' h => ?_)⟩
        · obtain ⟨⟨y8, rfl⟩, ⟨o0, o1⟩, a17, P17, hsl17⟩ := h
          obtain ⟨q1, q2, q3, _⟩ := Stay H17 P17
          have small : Small29 (2 * i + e) := Nat.lt_of_le_of_lt (show 2 * i + e ≤ 1000 by omega) (by decide)
          have hv : ∀ y, some z = some y → SmallI y := fun y h => by cases h; exact hz
          have e01 : e = 0 ∨ e = 1 := by omega
          rcases e01 with rfl | rfl
          · obtain ⟨Lm, tm', dm, Bm, m1, m2, m3, m4, m5⟩ := id o0
            refine ⟨_, rfl, _, rfl, rs, _, 0, .ref r0, rfl, rfl, SqL.of q1, rfl, _, rfl, _, rfl, ws, _, 0, .ref w0, rfl, rfl, SqL.of q2, rfl, _, rfl, _, rfl, r0, w0, k, some z, none, U, Lm, tm', dm, c, b0, Bm, rfl, m1, m2, hd.wb0, hU, m3, m4, gk, hv, Nat.lt_of_le_of_lt m5 small, fun H6 L' t' d' B' n1 n2 n3 n4 n5 f6 => ?_⟩
            have o06 : One K H6 U c r0 w0 b0 (2 * i + 0 + 1) := ⟨L', t', d', B', n1, n2, n3, n4, Nat.le_trans n5 (Nat.succ_le_succ m5)⟩
            have o16 := o0.other f6 hd.r.symm ⟨hd.w.symm, hd.w1b0⟩ ⟨hd.w0b1.symm, hd.b.symm⟩ o1
            refine ⟨_, rfl, ?_⟩
            exact iteF ⟨⟨_, rfl⟩, ⟨o06, o16.mono (Nat.le_succ _)⟩, purse_one a17 o0 f6, (fun b o h e => prot_one o0 f6 h (P17 b o h e)), prot_one o0 f6 (prot_strs (ks.take j)) hsl17⟩
          · obtain ⟨Lm, tm', dm, Bm, m1, m2, m3, m4, m5⟩ := id o1
            refine ⟨_, rfl, _, rfl, rs, _, 1, .ref r1, rfl, rfl, SqL.of q1, rfl, _, rfl, _, rfl, ws, _, 1, .ref w1, rfl, rfl, SqL.of q2, rfl, _, rfl, _, rfl, r1, w1, k, some z, none, U, Lm, tm', dm, c, b1, Bm, rfl, m1, m2, hd.wb1, hU, m3, m4, gk, hv, Nat.lt_of_le_of_lt m5 small, fun H6 L' t' d' B' n1 n2 n3 n4 n5 f6 => ?_⟩
            have o16 : One K H6 U c r1 w1 b1 (2 * i + 1 + 1) := ⟨L', t', d', B', n1, n2, n3, n4, Nat.le_trans n5 (Nat.succ_le_succ m5)⟩
            have o06 := o1.other f6 hd.r ⟨hd.w, hd.w0b1⟩ ⟨hd.w1b0.symm, hd.b⟩ o0
            refine ⟨_, rfl, ?_⟩
            exact iteF ⟨⟨_, rfl⟩, ⟨o06.mono (Nat.le_succ _), o16⟩, purse_one a17 o1 f6, (fun b o h e => prot_one o1 f6 h (P17 b o h e)), prot_one o1 f6 (prot_strs (ks.take j)) hsl17⟩
        · obtain ⟨⟨y8, rfl⟩, two', a', P', s'⟩ := h
          refine ⟨⟨_, _, _, rfl⟩, ?_, a', P', s'⟩
          rw [show 2 * (i + 1) = 2 * i + 2 by omega]
          exact two'
      · obtain ⟨⟨y6, y7, y8, rfl⟩, two, aa, PP, hsl'⟩ := h
        rw [List.length_map] at two
        exact ⟨⟨_, _, _, _, rfl⟩, ⟨two.1.mono (by omega), two.2.mono (by omega)⟩, PP⟩
    rintro σ' H20 ⟨⟨y1, y6, y7, y8, rfl⟩, two20, P20⟩
    obtain ⟨_, _, _, hs20⟩ := Stay H20 P20
    -- rounds, share
    refine ⟨_, rfl, a, _, rfl, .inl hs20.sq, _, 2, rfl, rfl, 61, _, rfl, 2, _, rfl, ?_⟩
    rw [List.length_map]
    generalize hrd : (if (if ((ns.length : Nat) : Int) - 2 < 61 then ((ns.length : Nat) : Int) - 2 else 61) > 2 then (if ((ns.length : Nat) : Int) - 2 < 61 then ((ns.length : Nat) : Int) - 2 else 61) else 2) = rd
    have rd2 : 2 ≤ rd ∧ rd ≤ 61 := by rw [← hrd]; split <;> (try split) <;> omega
    obtain ⟨n, rfl⟩ : ∃ n : Nat, rd = (n : Int) := ⟨rd.toNat, by omega⟩
    refine ⟨_, rfl, 72, (n : Int), rfl, rfl, wide_div (b := 10) (by omega) (by omega) (by decide) (by decide), 12, _, rfl, 1, _, rfl, ?_⟩
    generalize hsh : (if (if (72 : Int) / (n : Int) < 12 then (72 : Int) / (n : Int) else 12) > 1 then (if (72 : Int) / (n : Int) < 12 then (72 : Int) / (n : Int) else 12) else 1) = sh
    have sh1 : 1 ≤ sh ∧ sh ≤ 12 := by rw [← hsh]; split <;> (try split) <;> omega
    -- the groups
    refine ⟨fun σ' H' => (∃ y1 y6 y7 y8 y11, σ' = [some (.ref a), y1, some (.ref tm), some (.ref pl), some (.ref rs), some (.ref ws), y6, y7, y8, some (.int (n : Int)), some (.int sh), y11]) ∧ Two K H' U c r0 r1 w0 w1 b0 b1 1000000 ∧ (∀ b o, Prot o → H13 b = some o → H' b = some o), ?_, ?_⟩
    · refine ⟨_, rfl, n, rfl, by omega, by omega, ?_⟩
      rw [Int.toNat_natCast]
      refine for_range (n := n) (fun i σ' H' => (∃ y1 y6 y7 y8 y11, σ' = [some (.ref a), y1, some (.ref tm), some (.ref pl), some (.ref rs), some (.ref ws), y6, y7, y8, some (.int (n : Int)), some (.int sh), y11]) ∧ Two K H' U c r0 r1 w0 w1 b0 b1 (1000 + 1000 * i) ∧ (∀ b o, Prot o → H13 b = some o → H' b = some o))
        ⟨⟨_, _, _, _, _, rfl⟩, two20, P20⟩ (fun i σ' H' hi h => ?_) (fun σ' H' h => ?_)
      · obtain ⟨⟨y1, y6, y7, y8, y11, rfl⟩, two, PP⟩ := h
        obtain ⟨g1, g2, g3, g4⟩ := Stay H' PP
        refine ⟨_, rfl, _, rfl, 2, _, rfl, rfl, a, ns, 2 + i, ?_, g4.sq, fun v3 H21 sm21 => ⟨_, rfl, 3, _, rfl, rfl, _, _, rfl, fun p3 H22 sm22 np3 a22 => ?_⟩⟩
        · rw [Int.zero_add]
          rfl
        have sm2122 := Same.trans sm21 sm22
        have cp3 : c ≠ p3 := by
          obtain ⟨L, t, d, B, _, ⟨ch, dw, _, e2, _⟩, _⟩ := id two.1
          exact ne_of_none (sm21 _ _ e2) np3
        have two22 : Two K H22 U c r0 r1 w0 w1 b0 b1 (1000 + 1000 * i) := ⟨two.1.same sm2122, two.2.same sm2122⟩
        have P22 : ∀ b o, Prot o → H13 b = some o → H22 b = some o := fun b o h e => sm2122 _ _ (PP b o h e)
        refine ⟨_, rfl, _, rfl, p3, sh, rfl, a22, pos_small (by omega) (by omega), fun d23 H23 d230 d231 a23 f23 => ⟨1, _, rfl, rfl, ((1 + d23).toNat : Int), ?_, by omega, by omega, ?_⟩⟩
        · rw [show (((1 + d23).toNat : Nat) : Int) = 1 + d23 by omega]
        rw [Int.toNat_natCast]
        have two23 : Two K H23 U c r0 r1 w0 w1 b0 b1 (1000 + 1000 * i) := ⟨two22.1.purse a22 f23 cp3, two22.2.purse a22 f23 cp3⟩
        have P23 : ∀ b o, Prot o → H13 b = some o → H23 b = some o := fun b o h e => prot_purse a22 f23 h (P22 b o h e)
        refine for_range (n := (1 + d23).toNat) (fun j σ' H' => (∃ y6 y7 y8 y11, σ' = [some (.ref a), some (.ref p3), some (.ref tm), some (.ref pl), some (.ref rs), some (.ref ws), y6, y7, y8, some (.int (n : Int)), some (.int sh), y11]) ∧ Two K H' U c r0 r1 w0 w1 b0 b1 (1000 + 1000 * i + 2 * j) ∧ PurseAt H' p3 ∧ (∀ b o, Prot o → H13 b = some o → H' b = some o))
          ⟨⟨_, _, _, _, rfl⟩, two23, a23, P23⟩ (fun j σ' H24 hj h => ?_) (fun σ' H24 h => ?_)
        · obtain ⟨⟨z6, z7, z8, z11, rfl⟩, two24, a24, P24⟩ := h
          obtain ⟨e1, e2, e3, e4⟩ := Stay H24 P24
          have small : Small29 (1000 + 1000 * i + 2 * j + 2) := Nat.lt_of_le_of_lt (show 1000 + 1000 * i + 2 * j + 2 ≤ 100000 by omega) (by decide)
          refine ⟨_, rfl, _, rfl, _, rfl, _, rfl, p3, rs, ws, pl, U, c, r0, r1, w0, w1, b0, b1, 1000 + 1000 * i + 2 * j, ks, rfl, a24, cp3, e1, e2, hU, hd, two24, small, e3, hks, klen.1, klen.2, fun H25 two25 a25 P25 => ⟨_, rfl, ?_⟩⟩
          refine iteF ⟨⟨_, _, _, _, rfl⟩, ?_, a25, fun b o h e => P25 b o h (P24 b o h e)⟩
          rw [show 1000 + 1000 * i + 2 * (j + 1) = 1000 + 1000 * i + 2 * j + 2 by omega]
          exact two25
        · obtain ⟨⟨z6, z7, z8, z11, rfl⟩, two24, a24, P24⟩ := h
          exact ⟨⟨_, _, _, _, _, rfl⟩, ⟨two24.1.mono (by omega), two24.2.mono (by omega)⟩, P24⟩
      · obtain ⟨h1, two, PP⟩ := h
        exact ⟨h1, ⟨two.1.mono (by omega), two.2.mono (by omega)⟩, PP⟩
    rintro σ' H30 ⟨⟨y1, y6, y7, y8, y11, rfl⟩, two30, P30⟩
    obtain ⟨g1, g2, g3, _⟩ := Stay H30 P30
    obtain ⟨La, ta, da, Ba, e1, e2, e3, e4, e5⟩ := id two30.1
    refine ⟨_, rfl, rs, _, 0, .ref r0, rfl, rfl, SqL.of g1, rfl, _, rfl, ws, _, 0, .ref w0, rfl, rfl, SqL.of g2, rfl, _, rfl, r0, w0, pl, U, La, ta, da, c, b0, Ba, ks, rfl, e1, e2, hU, e3, g3, hks, fun H31 s31 => ?_⟩
    refine ⟨true, rfl, ?_⟩
    refine iteT ?_
    obtain ⟨Lb, tb, db, Bb, e1', e2', e3', e4', e5'⟩ := two30.2.same s31
    exact ⟨_, rfl, rs, _, 1, .ref r1, rfl, rfl, SqL.of (s31 _ _ g1), rfl, _, rfl, ws, _, 1, .ref w1, rfl, rfl, SqL.of (s31 _ _ g2), rfl, _, rfl, r1, w1, pl, U, Lb, tb, db, c, b1, Bb, ks, rfl, e1', e2', hU, e3', s31 _ _ g3, hks, fun H32 s32 => q H32⟩
end K12

set_option Elab.async false
set_option linter.all false
set_option maxRecDepth 100000
set_option maxHeartbeats 4000000
namespace K12
open PySem PySem.Spec PyProof.Rows L2
theorem script_of {K : PySem.W.Frag} {H : Hp} {a : Addr} {ns : List Int} (o : Only H) (h : SqL K H a (ns.map V.int)) : ScriptAt K H a ns := by
  rcases h with (h | ⟨ob, h⟩) | h
  · rcases o a with z | ⟨ob, xs, z⟩
    · rw [z] at h
      cases h
    · rw [z] at h
      cases h
  · exact .inl ⟨ob, h⟩
  · exact .inr fun H' => .inr h
end K12
open PySem PySem.W PySem.Calls PyProof.Rows
theorem PySem.Challenge.cw_carrylog_k12_whole_ring_tables_holds : PySem.Challenge.rw_carrylog_k12_whole_ring_tables.Holds := by
  w_on; o_law
  refine HandSHeadRun.head_any (r := OpenLaw.row PySem.Challenge.rw_carrylog_k12_whole_ring_tables) (q := view (OpenLaw.row PySem.Challenge.rw_carrylog_k12_whole_ring_tables).prog [52]) (H := K12.hookM) (ob := K12.ob) (M := 20000) (loose := K12.looseAll)
    (d := HandSHeadRun.topDef (OpenLaw.row PySem.Challenge.rw_carrylog_k12_whole_ring_tables).prog 52) (kwd := []) K12.ob_eq
    (by kernel_rfl) (fun s => by kernel_rfl) K12.run (by kernel_rfl) (by kernel_rfl) (by kernel_rfl) (by rfl) (by first | assumption | decide +kernel) (by decide +kernel) ⟨rfl, rfl, rfl, rfl, rfl, by decide +kernel⟩ ?hw ?hc
  case hw => w_witness2
  case hc =>
    refine K12.walk_G (l := PySem.Challenge.rw_carrylog_k12_whole_ring_tables) (n := 63) (k := 10) rfl (by decide) (by kernel_rfl) ⟨rfl, by decide, by decide⟩ ?_
    intro w mg fa h Y G hmg0
    obtain ⟨K, KX, c⟩ := Y
    have hmg : mg ("law" : PySem.Str) = some (.ref fa) := by
      have e : (HandSHeadRun.topDef (OpenLaw.row PySem.Challenge.rw_carrylog_k12_whole_ring_tables).prog 52).name = ("law" : PySem.Str) := by kernel_rfl
      rw [← e]
      exact hmg0
    have T : K12.Tx K mg := ⟨c, h, KX, G⟩
    have e := hmg.symm.trans T.g_law
    cases e
    exact ⟨K, K12.spLaw K, KX, fun H a ns hl hO hS => ⟨a, ns, rfl, K12.script_of hO hS, hl, fun _ => rfl⟩, fun base _ _ => K12.r_law T⟩

