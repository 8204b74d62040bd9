import PyProof.Rows.All
import Wide.All
import OpenK.AllK
import Wide.FinOn
import KE.KStateDown
import Wide.Once
import Lean
import HandS.Head0
import HandS.Head1
import HandS.Head2
import HandS.ForMost
import HandS.Exc
import HandS.ExcInit
import HandS.Codes
import HandS.More
import HandS.Defaults
import HandS.HeadHook1
import HandS.HeadHook2
import HandS.HeadHook3
import HandS.HeadHook4
import PySem.Challenge.RW_leastblame_k94_whole_stages_opened_and_l
import HandS.Walk
import HandS.Flow
import HandS.IsInst
import HandS.DictComp
import HandS.Zip
import HandS.Conv
import HandS.TupAny
import KE.KUnpackStar
import HandS.SetKeys
import HandS.Strs
import HandS.Deep
import KE.GoesEnum
import KE.SortKeyHeap
import HandS.SortKw
import HandS.ExcValue
import HandS.WordsExc
import HandS.TryOnly
import HandS.TupSets
import HandS.CallSlots
import HandS.HeadEnd
set_option Elab.async false
set_option linter.all false
set_option maxRecDepth 100000
set_option maxHeartbeats 4000000
/-! The text by places, and what the top leaves of it. -/
namespace Lb
open PySem PySem.Spec PyProof.Rows L2
def topS (i : Nat) : Stmt := PySem.Challenge.pw_leastblame_k94_whole_stages_opened_and_l.main.body.getD i (.Pass ⟨0, 0, 0, 0⟩)
abbrev sNoStagesInit : Stmt := inClass (topS 7) 0
abbrev sIsWhole : Stmt := topS 18
abbrev sIsWithin : Stmt := topS 19
abbrev sIsName : Stmt := topS 20
abbrev sIsWire : Stmt := topS 21
abbrev sAreListed : Stmt := topS 22
abbrev sIsValueRow : Stmt := topS 23
abbrev sIsRowsTie : Stmt := topS 24
abbrev sIsTie : Stmt := topS 25
abbrev sIsPart : Stmt := topS 26
abbrev sWorldsBy : Stmt := topS 27
abbrev sLookAtWires : Stmt := topS 28
abbrev sLookAtParts : Stmt := topS 29
abbrev sWorkInit : Stmt := inClass (topS 30) 0
abbrev sWires : Stmt := inClass (topS 30) 1
abbrev sParts : Stmt := inClass (topS 30) 2
abbrev sLen : Stmt := inClass (topS 30) 5
abbrev sLookAtWork : Stmt := topS 31
abbrev sTieWires : Stmt := topS 32
abbrev sOutBy : Stmt := topS 33
abbrev sTieHolds : Stmt := topS 34
abbrev sManysOf : Stmt := topS 35
abbrev sIsLot : Stmt := topS 37
abbrev sLookAtLot : Stmt := topS 38
abbrev sIsLook : Stmt := topS 39
abbrev sIsWorth : Stmt := topS 40
abbrev sLookAtLooks : Stmt := topS 41
abbrev sIsWorld : Stmt := topS 42
abbrev sValueBy : Stmt := topS 43
abbrev sAreHeld : Stmt := topS 44
abbrev sSoundBy : Stmt := topS 45
abbrev sSoundIn : Stmt := topS 46
abbrev sEveryWorld : Stmt := topS 47
abbrev sMeets : Stmt := topS 48
abbrev sMeetsAll : Stmt := topS 49
abbrev sSeenWorlds : Stmt := topS 50
abbrev sIsWithinLot : Stmt := topS 51
abbrev sIsLotOf : Stmt := topS 53
abbrev sLookAtStages : Stmt := topS 54
abbrev sSeenOf : Stmt := topS 55
abbrev sWiresOfLot : Stmt := topS 56
abbrev sInnerWires : Stmt := topS 57
abbrev sFillings : Stmt := topS 58
abbrev sJoined : Stmt := topS 59
abbrev sStageTie : Stmt := topS 60
abbrev sHolders : Stmt := topS 61
abbrev sClosed : Stmt := topS 62
abbrev sLotClosed : Stmt := topS 63
abbrev sLotOrder : Stmt := topS 65
abbrev sLeastOnes : Stmt := topS 66
abbrev sRestOf : Stmt := topS 67
abbrev sRestsOf : Stmt := topS 68
abbrev sBroken : Stmt := topS 70
abbrev sLawPool : Stmt := topS 72
abbrev sLawTake : Stmt := topS 73
abbrev sLawPicked : Stmt := topS 74
abbrev sLawWired : Stmt := topS 75
abbrev sLawRowsTie : Stmt := topS 76
abbrev sLawTie : Stmt := topS 77
abbrev sLawBound : Stmt := topS 78
abbrev sLawStages : Stmt := topS 79
abbrev sLawShut : Stmt := topS 80
abbrev sLawHoldsOne : Stmt := topS 81
abbrev sLawRight : Stmt := topS 82
abbrev sLaw : Stmt := topS 83
def dNoStagesInit : He.DefD := ⟨("NoStages", some "__init__"), "__init__", "NoStages.__init__", defArgs sNoStagesInit, defBody sNoStagesInit, defScope sNoStagesInit, [], []⟩
def dIsWhole : He.DefD := ⟨("is_whole", none), "is_whole", "is_whole", defArgs sIsWhole, defBody sIsWhole, defScope sIsWhole, [], []⟩
def dIsWithin : He.DefD := ⟨("is_within", none), "is_within", "is_within", defArgs sIsWithin, defBody sIsWithin, defScope sIsWithin, [], []⟩
def dIsName : He.DefD := ⟨("is_name", none), "is_name", "is_name", defArgs sIsName, defBody sIsName, defScope sIsName, [], []⟩
def dIsWire : He.DefD := ⟨("is_wire", none), "is_wire", "is_wire", defArgs sIsWire, defBody sIsWire, defScope sIsWire, [], []⟩
def dAreListed : He.DefD := ⟨("are_listed", none), "are_listed", "are_listed", defArgs sAreListed, defBody sAreListed, defScope sAreListed, [], []⟩
def dIsValueRow : He.DefD := ⟨("is_value_row", none), "is_value_row", "is_value_row", defArgs sIsValueRow, defBody sIsValueRow, defScope sIsValueRow, [], []⟩
def dIsRowsTie : He.DefD := ⟨("is_rows_tie", none), "is_rows_tie", "is_rows_tie", defArgs sIsRowsTie, defBody sIsRowsTie, defScope sIsRowsTie, [], []⟩
def dIsTie : He.DefD := ⟨("is_tie", none), "is_tie", "is_tie", defArgs sIsTie, defBody sIsTie, defScope sIsTie, [], []⟩
def dIsPart : He.DefD := ⟨("is_part", none), "is_part", "is_part", defArgs sIsPart, defBody sIsPart, defScope sIsPart, [], []⟩
def dWorldsBy : He.DefD := ⟨("worlds_by", none), "worlds_by", "worlds_by", defArgs sWorldsBy, defBody sWorldsBy, defScope sWorldsBy, [], []⟩
def dLookAtWires : He.DefD := ⟨("look_at_wires", none), "look_at_wires", "look_at_wires", defArgs sLookAtWires, defBody sLookAtWires, defScope sLookAtWires, [], []⟩
def dLookAtParts : He.DefD := ⟨("look_at_parts", none), "look_at_parts", "look_at_parts", defArgs sLookAtParts, defBody sLookAtParts, defScope sLookAtParts, [], []⟩
def dWorkInit : He.DefD := ⟨("Work", some "__init__"), "__init__", "Work.__init__", defArgs sWorkInit, defBody sWorkInit, defScope sWorkInit, [.adr (He.dflAt ("Work", some "__init__") 0)], []⟩
def dWires : He.DefD := ⟨("Work", some "wires"), "wires", "Work.wires", defArgs sWires, defBody sWires, defScope sWires, [], []⟩
def dParts : He.DefD := ⟨("Work", some "parts"), "parts", "Work.parts", defArgs sParts, defBody sParts, defScope sParts, [], []⟩
def dLen : He.DefD := ⟨("Work", some "__len__"), "__len__", "Work.__len__", defArgs sLen, defBody sLen, defScope sLen, [], []⟩
def dLookAtWork : He.DefD := ⟨("look_at_work", none), "look_at_work", "look_at_work", defArgs sLookAtWork, defBody sLookAtWork, defScope sLookAtWork, [], []⟩
def dTieWires : He.DefD := ⟨("tie_wires", none), "tie_wires", "tie_wires", defArgs sTieWires, defBody sTieWires, defScope sTieWires, [], []⟩
def dOutBy : He.DefD := ⟨("out_by", none), "out_by", "out_by", defArgs sOutBy, defBody sOutBy, defScope sOutBy, [], []⟩
def dTieHolds : He.DefD := ⟨("tie_holds", none), "tie_holds", "tie_holds", defArgs sTieHolds, defBody sTieHolds, defScope sTieHolds, [], []⟩
def dManysOf : He.DefD := ⟨("manys_of", none), "manys_of", "manys_of", defArgs sManysOf, defBody sManysOf, defScope sManysOf, [], []⟩
def dIsLot : He.DefD := ⟨("is_lot", none), "is_lot", "is_lot", defArgs sIsLot, defBody sIsLot, defScope sIsLot, [], []⟩
def dLookAtLot : He.DefD := ⟨("look_at_lot", none), "look_at_lot", "look_at_lot", defArgs sLookAtLot, defBody sLookAtLot, defScope sLookAtLot, [], []⟩
def dIsLook : He.DefD := ⟨("is_look", none), "is_look", "is_look", defArgs sIsLook, defBody sIsLook, defScope sIsLook, [], []⟩
def dIsWorth : He.DefD := ⟨("is_worth", none), "is_worth", "is_worth", defArgs sIsWorth, defBody sIsWorth, defScope sIsWorth, [], []⟩
def dLookAtLooks : He.DefD := ⟨("look_at_looks", none), "look_at_looks", "look_at_looks", defArgs sLookAtLooks, defBody sLookAtLooks, defScope sLookAtLooks, [], []⟩
def dIsWorld : He.DefD := ⟨("is_world", none), "is_world", "is_world", defArgs sIsWorld, defBody sIsWorld, defScope sIsWorld, [], []⟩
def dValueBy : He.DefD := ⟨("value_by", none), "value_by", "value_by", defArgs sValueBy, defBody sValueBy, defScope sValueBy, [], []⟩
def dAreHeld : He.DefD := ⟨("are_held", none), "are_held", "are_held", defArgs sAreHeld, defBody sAreHeld, defScope sAreHeld, [], []⟩
def dSoundBy : He.DefD := ⟨("sound_by", none), "sound_by", "sound_by", defArgs sSoundBy, defBody sSoundBy, defScope sSoundBy, [], []⟩
def dSoundIn : He.DefD := ⟨("sound_in", none), "sound_in", "sound_in", defArgs sSoundIn, defBody sSoundIn, defScope sSoundIn, [], []⟩
def dEveryWorld : He.DefD := ⟨("every_world", none), "every_world", "every_world", defArgs sEveryWorld, defBody sEveryWorld, defScope sEveryWorld, [], []⟩
def dMeets : He.DefD := ⟨("meets", none), "meets", "meets", defArgs sMeets, defBody sMeets, defScope sMeets, [], []⟩
def dMeetsAll : He.DefD := ⟨("meets_all", none), "meets_all", "meets_all", defArgs sMeetsAll, defBody sMeetsAll, defScope sMeetsAll, [], []⟩
def dSeenWorlds : He.DefD := ⟨("seen_worlds", none), "seen_worlds", "seen_worlds", defArgs sSeenWorlds, defBody sSeenWorlds, defScope sSeenWorlds, [], []⟩
def dIsWithinLot : He.DefD := ⟨("is_within_lot", none), "is_within_lot", "is_within_lot", defArgs sIsWithinLot, defBody sIsWithinLot, defScope sIsWithinLot, [], []⟩
def dIsLotOf : He.DefD := ⟨("is_lot_of", none), "is_lot_of", "is_lot_of", defArgs sIsLotOf, defBody sIsLotOf, defScope sIsLotOf, [], []⟩
def dLookAtStages : He.DefD := ⟨("look_at_stages", none), "look_at_stages", "look_at_stages", defArgs sLookAtStages, defBody sLookAtStages, defScope sLookAtStages, [], []⟩
def dSeenOf : He.DefD := ⟨("seen_of", none), "seen_of", "seen_of", defArgs sSeenOf, defBody sSeenOf, defScope sSeenOf, [], []⟩
def dWiresOfLot : He.DefD := ⟨("wires_of_lot", none), "wires_of_lot", "wires_of_lot", defArgs sWiresOfLot, defBody sWiresOfLot, defScope sWiresOfLot, [], []⟩
def dInnerWires : He.DefD := ⟨("inner_wires", none), "inner_wires", "inner_wires", defArgs sInnerWires, defBody sInnerWires, defScope sInnerWires, [], []⟩
def dFillings : He.DefD := ⟨("fillings", none), "fillings", "fillings", defArgs sFillings, defBody sFillings, defScope sFillings, [], []⟩
def dJoined : He.DefD := ⟨("joined", none), "joined", "joined", defArgs sJoined, defBody sJoined, defScope sJoined, [], []⟩
def dStageTie : He.DefD := ⟨("stage_tie", none), "stage_tie", "stage_tie", defArgs sStageTie, defBody sStageTie, defScope sStageTie, [], []⟩
def dHolders : He.DefD := ⟨("holders", none), "holders", "holders", defArgs sHolders, defBody sHolders, defScope sHolders, [], []⟩
/-- the keyword default of closed -/
def kwSeen (K : PySem.W.Frag) : Addr := match K.lookup (He.fAd K ("closed", none)) with
  | some ⟨_, _, .func fd, _⟩ => (match fd.kwdefaults with
    | .ref D => (match PySem.W.nsIn K D "seen" with
      | some (some (.ref b)) => b
      | _ => 0)
    | _ => 0)
  | _ => 0
def dClosed : He.DefD := ⟨("closed", none), "closed", "closed", defArgs sClosed, defBody sClosed, defScope sClosed, [], [("seen", .adr kwSeen)]⟩
def dLotClosed : He.DefD := ⟨("lot_closed", none), "lot_closed", "lot_closed", defArgs sLotClosed, defBody sLotClosed, defScope sLotClosed, [], []⟩
def dLotOrder : He.DefD := ⟨("lot_order", none), "lot_order", "lot_order", defArgs sLotOrder, defBody sLotOrder, defScope sLotOrder, [], []⟩
def dLeastOnes : He.DefD := ⟨("least_ones", none), "least_ones", "least_ones", defArgs sLeastOnes, defBody sLeastOnes, defScope sLeastOnes, [], []⟩
def dRestOf : He.DefD := ⟨("rest_of", none), "rest_of", "rest_of", defArgs sRestOf, defBody sRestOf, defScope sRestOf, [], []⟩
def dRestsOf : He.DefD := ⟨("rests_of", none), "rests_of", "rests_of", defArgs sRestsOf, defBody sRestsOf, defScope sRestsOf, [], []⟩
def dBroken : He.DefD := ⟨("broken", none), "broken", "broken", defArgs sBroken, defBody sBroken, defScope sBroken, [], []⟩
def dLawPool : He.DefD := ⟨("_law_pool", none), "_law_pool", "_law_pool", defArgs sLawPool, defBody sLawPool, defScope sLawPool, [], []⟩
def dLawTake : He.DefD := ⟨("_law_take", none), "_law_take", "_law_take", defArgs sLawTake, defBody sLawTake, defScope sLawTake, [], []⟩
def dLawPicked : He.DefD := ⟨("_law_picked", none), "_law_picked", "_law_picked", defArgs sLawPicked, defBody sLawPicked, defScope sLawPicked, [], []⟩
def dLawWired : He.DefD := ⟨("_law_wired", none), "_law_wired", "_law_wired", defArgs sLawWired, defBody sLawWired, defScope sLawWired, [], []⟩
def dLawRowsTie : He.DefD := ⟨("_law_rows_tie", none), "_law_rows_tie", "_law_rows_tie", defArgs sLawRowsTie, defBody sLawRowsTie, defScope sLawRowsTie, [], []⟩
def dLawTie : He.DefD := ⟨("_law_tie", none), "_law_tie", "_law_tie", defArgs sLawTie, defBody sLawTie, defScope sLawTie, [], []⟩
def dLawBound : He.DefD := ⟨("_law_bound", none), "_law_bound", "_law_bound", defArgs sLawBound, defBody sLawBound, defScope sLawBound, [], []⟩
def dLawStages : He.DefD := ⟨("_law_stages", none), "_law_stages", "_law_stages", defArgs sLawStages, defBody sLawStages, defScope sLawStages, [], []⟩
def dLawShut : He.DefD := ⟨("_law_shut", none), "_law_shut", "_law_shut", defArgs sLawShut, defBody sLawShut, defScope sLawShut, [], []⟩
def dLawHoldsOne : He.DefD := ⟨("_law_holds_one", none), "_law_holds_one", "_law_holds_one", defArgs sLawHoldsOne, defBody sLawHoldsOne, defScope sLawHoldsOne, [], []⟩
def dLawRight : He.DefD := ⟨("_law_right", none), "_law_right", "_law_right", defArgs sLawRight, defBody sLawRight, defScope sLawRight, [], []⟩
def dLaw : He.DefD := ⟨("law", none), "law", "law", defArgs sLaw, defBody sLaw, defScope sLaw, [], []⟩
def fnL : List He.DefD := [dNoStagesInit, dIsWhole, dIsWithin, dIsName, dIsWire, dAreListed, dIsValueRow, dIsRowsTie, dIsTie, dIsPart, dWorldsBy, dLookAtWires, dLookAtParts, dWorkInit, dWires, dParts, dLen, dLookAtWork, dTieWires, dOutBy, dTieHolds, dManysOf, dIsLot, dLookAtLot, dIsLook, dIsWorth, dLookAtLooks, dIsWorld, dValueBy, dAreHeld, dSoundBy, dSoundIn, dEveryWorld, dMeets, dMeetsAll, dSeenWorlds, dIsWithinLot, dIsLotOf, dLookAtStages, dSeenOf, dWiresOfLot, dInnerWires, dFillings, dJoined, dStageTie, dHolders, dClosed, dLotClosed, dLotOrder, dLeastOnes, dRestOf, dRestsOf, dBroken, dLawPool, dLawTake, dLawPicked, dLawWired, dLawRowsTie, dLawTie, dLawBound, dLawStages, dLawShut, dLawHoldsOne, dLawRight, dLaw]
def faL : List He.Fa := [.glo "is_whole", .glo "is_within", .glo "is_name", .glo "is_wire", .glo "are_listed", .glo "is_value_row", .glo "is_rows_tie", .glo "is_tie", .glo "is_part", .glo "worlds_by", .glo "look_at_wires", .glo "look_at_parts", .glo "look_at_work", .glo "tie_wires", .glo "out_by", .glo "tie_holds", .glo "manys_of", .glo "is_lot", .glo "look_at_lot", .glo "is_look", .glo "is_worth", .glo "look_at_looks", .glo "is_world", .glo "value_by", .glo "are_held", .glo "sound_by", .glo "sound_in", .glo "every_world", .glo "meets", .glo "meets_all", .glo "seen_worlds", .glo "is_within_lot", .glo "is_lot_of", .glo "look_at_stages", .glo "seen_of", .glo "wires_of_lot", .glo "inner_wires", .glo "fillings", .glo "joined", .glo "stage_tie", .glo "holders", .glo "closed", .glo "lot_closed", .glo "lot_order", .glo "least_ones", .glo "rest_of", .glo "rests_of", .glo "broken", .glo "_law_pool", .glo "_law_take", .glo "_law_picked", .glo "_law_wired", .glo "_law_rows_tie", .glo "_law_tie", .glo "_law_bound", .glo "_law_stages", .glo "_law_shut", .glo "_law_holds_one", .glo "_law_right", .glo "law", .glo "Work", .glo "NoStages", .glo "WIRES_OF", .free "isinstance", .free "str", .free "int", .free "bool", .free "list", .free "tuple", .free "len", .free "all", .free "any", .free "zip", .free "set", .free "enumerate", .free "dict", .free "range", .free "min", .free "max", .free "sum", .free "sorted", .free "ValueError", .int "LONGEST" 6, .int "MOST_WIRES" 8, .int "LEAST_MANY" 2, .int "MOST_MANY" 4, .int "MOST_WORLDS" 2048, .int "MOST_PARTS" 7, .int "MOST_TIES" 24, .str "LETTERS" "abcdefghijklmnopqrstuvwxyz", .cls "Work", .mkr "Work", .noat "Work" "own_wires", .noat "Work" "own_parts", .noat "Work" "wire_at", .noat "Work" "part_at", .meth "Work" "wires", .meth "Work" "parts", .meth "Work" "__len__", .exm "NoStages" "NoStages" true, .keep "NoStages", .keep "Work", .noat "NoStages" "number"]
def tsL : List He.Tab := [(fun K => He.ga K "WIRES_OF", ["fixed", "same", "turned", "least", "most", "sum", "pick"])]
def wiresOf : List (Str × He.Dv) := [("fixed", .int 1), ("same", .int 2), ("turned", .int 2), ("least", .int 3), ("most", .int 3), ("sum", .int 3), ("pick", .int 4)]
def loose0 : List Str := [.ofString "LEAST_MANY", .ofString "LETTERS", .ofString "LONGEST", .ofString "MOST_MANY", .ofString "MOST_PARTS", .ofString "MOST_TIES", .ofString "MOST_WIRES", .ofString "MOST_WORLDS", .ofString "NoLook", .ofString "NoLot", .ofString "NoStages", .ofString "NoWires", .ofString "NoWork", .ofString "NoWorld", .ofString "WIRES_OF", .ofString "Work", .ofString "_law_bound", .ofString "_law_holds_one", .ofString "_law_picked", .ofString "_law_pool", .ofString "_law_right", .ofString "_law_rows_tie", .ofString "_law_shut", .ofString "_law_stages", .ofString "_law_take", .ofString "_law_tie", .ofString "_law_wired", .ofString "_wall", .ofString "are_held", .ofString "are_listed", .ofString "broken", .ofString "closed", .ofString "every_world", .ofString "fillings", .ofString "holders"]
def loose1 : List Str := [.ofString "inner_wires", .ofString "is_look", .ofString "is_lot", .ofString "is_lot_of", .ofString "is_name", .ofString "is_part", .ofString "is_rows_tie", .ofString "is_tie", .ofString "is_value_row", .ofString "is_whole", .ofString "is_wire", .ofString "is_within", .ofString "is_within_lot", .ofString "is_world", .ofString "is_worth", .ofString "joined", .ofString "least_ones", .ofString "look_at_looks", .ofString "look_at_lot", .ofString "look_at_parts", .ofString "look_at_stages", .ofString "look_at_wires", .ofString "look_at_work", .ofString "lot_closed", .ofString "lot_order", .ofString "manys_of", .ofString "meets", .ofString "meets_all", .ofString "out_by", .ofString "rest_of", .ofString "rests_of", .ofString "seen_of", .ofString "seen_worlds", .ofString "sound_by", .ofString "sound_in"]
def loose2 : List Str := [.ofString "stage_tie", .ofString "tie_holds", .ofString "tie_wires", .ofString "value_by", .ofString "wires_of_lot", .ofString "worlds_by"]
def looseL : List Str := loose0 ++ loose1 ++ loose2
/-- the class of an own ValueError: what OexC asks of its object -/
def oexB (K : PySem.W.Frag) (C : Addr) : Bool := match K.lookup C with
  | some ⟨.type ty, _, .cls cd, sl⟩ => (match cd.mro, sl.toList with
    | .ref B :: bm, [_, _, _, _, some (.builtin n), _] => decide (ty = "type") && (decide (B = C) && (decide (n = "ValueError.__new__") && (!cd.hasDel && (cd.hasDict && PySem.HandSPX.refsVE bm))))
    | _, _ => false)
  | _ => false
theorem oexB_ok {K : PySem.W.Frag} {C : Addr} (q : oexB K C = true) : ∃ nm q N bs bm sn sub ab col dd k0 k1 k2 k3 k5,
    K.lookup C = some (excClassObj nm q C N bs bm true sn sub ab col dd k0 k1 k2 k3 k5 "ValueError.__new__") ∧ PySem.HandSPX.refsVE bm = true := by
  unfold oexB at q
  split at q
  · rename_i ty dd cd sl ho
    split at q
    · rename_i B bm k0 k1 k2 k3 n k5 hm hs
      obtain ⟨q0, q⟩ := He.ba q
      obtain ⟨q1, q⟩ := He.ba q
      obtain ⟨q2, q⟩ := He.ba q
      obtain ⟨q3, q⟩ := He.ba q
      obtain ⟨q4, q5⟩ := He.ba q
      have e0 := of_decide_eq_true q0
      have e1 := of_decide_eq_true q1
      have e2 := of_decide_eq_true q2
      subst e0 e1 e2
      obtain ⟨nm, bs, mro, ns, qn, hd, sn, sub, ab, col, del⟩ := cd
      dsimp only at hm q3 q4
      subst hm q4
      have e3 : del = false := by simpa using q3
      subst e3
      have hsl : sl = #[k0, k1, k2, k3, some (.builtin "ValueError.__new__"), k5] := by
        obtain ⟨l⟩ := sl
        simp only at hs
        rw [hs]
      subst hsl
      exact ⟨nm, qn, ns, bs, bm, sn, sub, ab, col, dd, k0, k1, k2, k3, k5, ho, q5⟩
    · cases q
  · cases q
/-- a tuple of the written part, by its address -/
def tupAtB (K : PySem.W.Frag) (a : Addr) : Bool := match K.lookup a with
  | some ⟨.type c, _, .seq its _, _⟩ => decide (c = "tuple") && decide (its = #[])
  | _ => false
theorem tupAtB_ok {K : PySem.W.Frag} {a : Addr} (h : tupAtB K a = true) (H : Hp) : SqT K H a [] := by
  unfold tupAtB at h
  split at h
  · rename_i c dd its n sl ho
    obtain ⟨h1, h2⟩ := He.ba h
    have e1 := of_decide_eq_true h1
    have e2 := of_decide_eq_true h2
    subst e1 e2
    exact .inr ⟨_, #[], n, ho, rfl, rfl, Nat.zero_le _, .nil⟩
  · cases h
abbrev aWork (K : PySem.W.Frag) : Addr := He.ga K "Work"
abbrev aNoSt (K : PySem.W.Frag) : Addr := He.ga K "NoStages"
def cfEq (a b : Option PySem.W.CFound) : Bool := match a, b with
  | some (.val x), some (.val y) => decide (x = y)
  | _, _ => false
theorem cfEq_ok {a : Option PySem.W.CFound} {y : Value} (h : cfEq a (some (.val y)) = true) : a = some (.val y) := by
  unfold cfEq at h
  split at h
  · rename_i x y' e
    cases e
    rw [of_decide_eq_true h]
  · cases h
def exL : List (PySem.W.Frag → Bool) := [
  fun K => He.eqO (PySem.W.findIn K (.ref (aWork K)) "__class__") (some (some (.builtin "object.__class__"))),
  fun K => He.eqO (PySem.W.specialIn K (.builtin "object.__class__") "__get__") (some (some (.builtin "getset_descriptor.__get__"))),
  fun K => decide (PySem.W.takesIn K (.builtin "object.__class__") = some true),
  fun K => decide (PySem.W.mroIn K (aWork K) (.type "object") = some true),
  fun K => oexB K (aNoSt K),
  fun K => He.eqO (PySem.W.findIn K (.ref (aNoSt K)) "__setattr__") (some (some (.builtin "object.__setattr__"))),
  fun K => decide (PySem.W.subIn K (.ref (aNoSt K)) (.type "BaseException") = some true),
  fun K => decide (PySem.W.typeIn K (.ref (aNoSt K)) = some (.type "type")),
  fun K => He.eqO (PySem.W.findIn K (.ref (aNoSt K)) "__init__") (some (some (.ref (He.fAd K ("NoStages", some "__init__"))))),
  fun K => decide (PySem.W.typeIn K (.ref (He.fAd K ("NoStages", some "__init__"))) = some (.type "function")),
  fun K => cfEq (PySem.W.findCls K (.type "ValueError") (.type "type") "__init__") (some (.val (.builtin "ValueError.__init__"))),
  fun K => He.valsB K (He.ga K "WIRES_OF") wiresOf,
  fun K => tupAtB K (kwSeen K)]
def exB (K : PySem.W.Frag) : Bool := exL.all fun f => f K
/-- what the top has written: K, and what the module's names hold -/
structure Txt (w : World) (K : PySem.W.Frag) (mg : Str → Option Value) : Prop where
  ex : ∃ h : Heap, K.In h ∧ h.Ns mainGlobals mg ∧ He.SaysX faL fnL tsL [] exB w h K
section
variable {w : World} {K : PySem.W.Frag} {mg : Str → Option Value}
theorem Txt.fact (T : Txt w K mg) (i : Nat) {f : He.Fa} (h : faL[i]? = some f) : f.ok K = true := let ⟨_, _, _, c⟩ := T.ex; c.t.d.fact i h
theorem Txt.more (T : Txt w K mg) (i : Nat) {f : PySem.W.Frag → Bool} (h : exL[i]? = some f) : f K = true := by
  obtain ⟨_, _, _, c⟩ := T.ex
  exact List.all_eq_true.mp c.more f (List.mem_of_getElem? h)
theorem Txt.glo (T : Txt w K mg) (i : Nat) {x : Str} (h : faL[i]? = some (.glo x)) : mg x = some (.ref (He.ga K x)) := let ⟨_, X, G, _⟩ := T.ex; He.glo_ok X G (T.fact i h)
theorem Txt.free (T : Txt w K mg) (i : Nat) {x : Str} (h : faL[i]? = some (.free x)) : mg x = none := let ⟨_, X, G, _⟩ := T.ex; He.free_ok X G (T.fact i h)
theorem Txt.int (T : Txt w K mg) (i : Nat) {x : Str} {n : Int} (h : faL[i]? = some (.int x n)) : ∃ t, mg x = some (.int n t) := let ⟨_, X, G, _⟩ := T.ex; He.int_ok X G (T.fact i h)
theorem Txt.str (T : Txt w K mg) (i : Nat) {x z : Str} (h : faL[i]? = some (.str x z)) : ∃ t, mg x = some (.str z t) := let ⟨_, X, G, _⟩ := T.ex; He.str_ok X G (T.fact i h)
theorem Txt.keep (T : Txt w K mg) (i : Nat) {x : Str} (h : faL[i]? = some (.keep x)) : PySem.W.keepIn K (.ref (He.ga K x)) = true := He.keep_ok (T.fact i h)
theorem Txt.def_ (T : Txt w K mg) (i : Nat) {d : He.DefD} (h : fnL[i]? = some d) : ∃ fd, FunD K d.name d.qual d.params d.body d.scope (d.dvs K) (d.kws K) (He.fAd K d.at_) fd := let ⟨_, _, _, c⟩ := T.ex; c.t.d.def_ i h
theorem Txt.insW (T : Txt w K mg) (cl : Cls K (aWork K)) : C8.InsC K (aWork K) :=
  ⟨cl, He.eqO_ok (T.more 0 rfl), He.eqO_ok (T.more 1 rfl), of_decide_eq_true (T.more 2 rfl), of_decide_eq_true (T.more 3 rfl), if_pos (beq_self_eq_true _)⟩
theorem Txt.oex (T : Txt w K mg) (kp : PySem.W.keepIn K (.ref (aNoSt K)) = true) : OexC K (aNoSt K) :=
  ⟨oexB_ok (T.more 4 rfl), He.eqO_ok (T.more 5 rfl), of_decide_eq_true (T.more 6 rfl), of_decide_eq_true (T.more 7 rfl), kp⟩
theorem Txt.nsInit (T : Txt w K mg) : PySem.W.findIn K (.ref (aNoSt K)) "__init__" = some (some (.ref (He.fAd K ("NoStages", some "__init__")))) := He.eqO_ok (T.more 8 rfl)
theorem Txt.nsInitT (T : Txt w K mg) : PySem.W.typeIn K (.ref (He.fAd K ("NoStages", some "__init__"))) = some (.type "function") := of_decide_eq_true (T.more 9 rfl)
theorem Txt.veInit (T : Txt w K mg) : PySem.W.findCls K (.type "ValueError") (.type "type") "__init__" = some (.val (.builtin "ValueError.__init__")) := cfEq_ok (T.more 10 rfl)
theorem Txt.wOf (T : Txt w K mg) {q : Str × He.Dv} (h : q ∈ wiresOf) : ∃ u, PySem.W.nsIn K (He.ga K "WIRES_OF") q.1 = some (some u) ∧ RelV (q.2.v K) u := He.valsB_ok (T.more 11 rfl) h
theorem Txt.wDict (T : Txt w K mg) : ∃ es n, KDict K w (He.ga K "WIRES_OF") es n := let ⟨_, _, _, c⟩ := T.ex; c.t.tab 0 rfl
theorem Txt.seen (T : Txt w K mg) (H : Hp) : SqT K H (kwSeen K) [] := tupAtB_ok (T.more 12 rfl) H
theorem Txt.g_is_whole (T : Txt w K mg) : mg "is_whole" = some (.ref (He.ga K "is_whole")) := T.glo 0 rfl
theorem Txt.g_is_within (T : Txt w K mg) : mg "is_within" = some (.ref (He.ga K "is_within")) := T.glo 1 rfl
theorem Txt.g_is_name (T : Txt w K mg) : mg "is_name" = some (.ref (He.ga K "is_name")) := T.glo 2 rfl
theorem Txt.g_is_wire (T : Txt w K mg) : mg "is_wire" = some (.ref (He.ga K "is_wire")) := T.glo 3 rfl
theorem Txt.g_are_listed (T : Txt w K mg) : mg "are_listed" = some (.ref (He.ga K "are_listed")) := T.glo 4 rfl
theorem Txt.g_is_value_row (T : Txt w K mg) : mg "is_value_row" = some (.ref (He.ga K "is_value_row")) := T.glo 5 rfl
theorem Txt.g_is_rows_tie (T : Txt w K mg) : mg "is_rows_tie" = some (.ref (He.ga K "is_rows_tie")) := T.glo 6 rfl
theorem Txt.g_is_tie (T : Txt w K mg) : mg "is_tie" = some (.ref (He.ga K "is_tie")) := T.glo 7 rfl
theorem Txt.g_is_part (T : Txt w K mg) : mg "is_part" = some (.ref (He.ga K "is_part")) := T.glo 8 rfl
theorem Txt.g_worlds_by (T : Txt w K mg) : mg "worlds_by" = some (.ref (He.ga K "worlds_by")) := T.glo 9 rfl
theorem Txt.g_look_at_wires (T : Txt w K mg) : mg "look_at_wires" = some (.ref (He.ga K "look_at_wires")) := T.glo 10 rfl
theorem Txt.g_look_at_parts (T : Txt w K mg) : mg "look_at_parts" = some (.ref (He.ga K "look_at_parts")) := T.glo 11 rfl
theorem Txt.g_look_at_work (T : Txt w K mg) : mg "look_at_work" = some (.ref (He.ga K "look_at_work")) := T.glo 12 rfl
theorem Txt.g_tie_wires (T : Txt w K mg) : mg "tie_wires" = some (.ref (He.ga K "tie_wires")) := T.glo 13 rfl
theorem Txt.g_out_by (T : Txt w K mg) : mg "out_by" = some (.ref (He.ga K "out_by")) := T.glo 14 rfl
theorem Txt.g_tie_holds (T : Txt w K mg) : mg "tie_holds" = some (.ref (He.ga K "tie_holds")) := T.glo 15 rfl
theorem Txt.g_manys_of (T : Txt w K mg) : mg "manys_of" = some (.ref (He.ga K "manys_of")) := T.glo 16 rfl
theorem Txt.g_is_lot (T : Txt w K mg) : mg "is_lot" = some (.ref (He.ga K "is_lot")) := T.glo 17 rfl
theorem Txt.g_look_at_lot (T : Txt w K mg) : mg "look_at_lot" = some (.ref (He.ga K "look_at_lot")) := T.glo 18 rfl
theorem Txt.g_is_look (T : Txt w K mg) : mg "is_look" = some (.ref (He.ga K "is_look")) := T.glo 19 rfl
theorem Txt.g_is_worth (T : Txt w K mg) : mg "is_worth" = some (.ref (He.ga K "is_worth")) := T.glo 20 rfl
theorem Txt.g_look_at_looks (T : Txt w K mg) : mg "look_at_looks" = some (.ref (He.ga K "look_at_looks")) := T.glo 21 rfl
theorem Txt.g_is_world (T : Txt w K mg) : mg "is_world" = some (.ref (He.ga K "is_world")) := T.glo 22 rfl
theorem Txt.g_value_by (T : Txt w K mg) : mg "value_by" = some (.ref (He.ga K "value_by")) := T.glo 23 rfl
theorem Txt.g_are_held (T : Txt w K mg) : mg "are_held" = some (.ref (He.ga K "are_held")) := T.glo 24 rfl
theorem Txt.g_sound_by (T : Txt w K mg) : mg "sound_by" = some (.ref (He.ga K "sound_by")) := T.glo 25 rfl
theorem Txt.g_sound_in (T : Txt w K mg) : mg "sound_in" = some (.ref (He.ga K "sound_in")) := T.glo 26 rfl
theorem Txt.g_every_world (T : Txt w K mg) : mg "every_world" = some (.ref (He.ga K "every_world")) := T.glo 27 rfl
theorem Txt.g_meets (T : Txt w K mg) : mg "meets" = some (.ref (He.ga K "meets")) := T.glo 28 rfl
theorem Txt.g_meets_all (T : Txt w K mg) : mg "meets_all" = some (.ref (He.ga K "meets_all")) := T.glo 29 rfl
theorem Txt.g_seen_worlds (T : Txt w K mg) : mg "seen_worlds" = some (.ref (He.ga K "seen_worlds")) := T.glo 30 rfl
theorem Txt.g_is_within_lot (T : Txt w K mg) : mg "is_within_lot" = some (.ref (He.ga K "is_within_lot")) := T.glo 31 rfl
theorem Txt.g_is_lot_of (T : Txt w K mg) : mg "is_lot_of" = some (.ref (He.ga K "is_lot_of")) := T.glo 32 rfl
theorem Txt.g_look_at_stages (T : Txt w K mg) : mg "look_at_stages" = some (.ref (He.ga K "look_at_stages")) := T.glo 33 rfl
theorem Txt.g_seen_of (T : Txt w K mg) : mg "seen_of" = some (.ref (He.ga K "seen_of")) := T.glo 34 rfl
theorem Txt.g_wires_of_lot (T : Txt w K mg) : mg "wires_of_lot" = some (.ref (He.ga K "wires_of_lot")) := T.glo 35 rfl
theorem Txt.g_inner_wires (T : Txt w K mg) : mg "inner_wires" = some (.ref (He.ga K "inner_wires")) := T.glo 36 rfl
theorem Txt.g_fillings (T : Txt w K mg) : mg "fillings" = some (.ref (He.ga K "fillings")) := T.glo 37 rfl
theorem Txt.g_joined (T : Txt w K mg) : mg "joined" = some (.ref (He.ga K "joined")) := T.glo 38 rfl
theorem Txt.g_stage_tie (T : Txt w K mg) : mg "stage_tie" = some (.ref (He.ga K "stage_tie")) := T.glo 39 rfl
theorem Txt.g_holders (T : Txt w K mg) : mg "holders" = some (.ref (He.ga K "holders")) := T.glo 40 rfl
theorem Txt.g_closed (T : Txt w K mg) : mg "closed" = some (.ref (He.ga K "closed")) := T.glo 41 rfl
theorem Txt.g_lot_closed (T : Txt w K mg) : mg "lot_closed" = some (.ref (He.ga K "lot_closed")) := T.glo 42 rfl
theorem Txt.g_lot_order (T : Txt w K mg) : mg "lot_order" = some (.ref (He.ga K "lot_order")) := T.glo 43 rfl
theorem Txt.g_least_ones (T : Txt w K mg) : mg "least_ones" = some (.ref (He.ga K "least_ones")) := T.glo 44 rfl
theorem Txt.g_rest_of (T : Txt w K mg) : mg "rest_of" = some (.ref (He.ga K "rest_of")) := T.glo 45 rfl
theorem Txt.g_rests_of (T : Txt w K mg) : mg "rests_of" = some (.ref (He.ga K "rests_of")) := T.glo 46 rfl
theorem Txt.g_broken (T : Txt w K mg) : mg "broken" = some (.ref (He.ga K "broken")) := T.glo 47 rfl
theorem Txt.g__law_pool (T : Txt w K mg) : mg "_law_pool" = some (.ref (He.ga K "_law_pool")) := T.glo 48 rfl
theorem Txt.g__law_take (T : Txt w K mg) : mg "_law_take" = some (.ref (He.ga K "_law_take")) := T.glo 49 rfl
theorem Txt.g__law_picked (T : Txt w K mg) : mg "_law_picked" = some (.ref (He.ga K "_law_picked")) := T.glo 50 rfl
theorem Txt.g__law_wired (T : Txt w K mg) : mg "_law_wired" = some (.ref (He.ga K "_law_wired")) := T.glo 51 rfl
theorem Txt.g__law_rows_tie (T : Txt w K mg) : mg "_law_rows_tie" = some (.ref (He.ga K "_law_rows_tie")) := T.glo 52 rfl
theorem Txt.g__law_tie (T : Txt w K mg) : mg "_law_tie" = some (.ref (He.ga K "_law_tie")) := T.glo 53 rfl
theorem Txt.g__law_bound (T : Txt w K mg) : mg "_law_bound" = some (.ref (He.ga K "_law_bound")) := T.glo 54 rfl
theorem Txt.g__law_stages (T : Txt w K mg) : mg "_law_stages" = some (.ref (He.ga K "_law_stages")) := T.glo 55 rfl
theorem Txt.g__law_shut (T : Txt w K mg) : mg "_law_shut" = some (.ref (He.ga K "_law_shut")) := T.glo 56 rfl
theorem Txt.g__law_holds_one (T : Txt w K mg) : mg "_law_holds_one" = some (.ref (He.ga K "_law_holds_one")) := T.glo 57 rfl
theorem Txt.g__law_right (T : Txt w K mg) : mg "_law_right" = some (.ref (He.ga K "_law_right")) := T.glo 58 rfl
theorem Txt.g_law (T : Txt w K mg) : mg "law" = some (.ref (He.ga K "law")) := T.glo 59 rfl
theorem Txt.g_Work (T : Txt w K mg) : mg "Work" = some (.ref (He.ga K "Work")) := T.glo 60 rfl
theorem Txt.g_NoStages (T : Txt w K mg) : mg "NoStages" = some (.ref (He.ga K "NoStages")) := T.glo 61 rfl
theorem Txt.g_WIRES_OF (T : Txt w K mg) : mg "WIRES_OF" = some (.ref (He.ga K "WIRES_OF")) := T.glo 62 rfl
theorem Txt.b_isinstance (T : Txt w K mg) : mg "isinstance" = none := T.free 63 rfl
theorem Txt.b_str (T : Txt w K mg) : mg "str" = none := T.free 64 rfl
theorem Txt.b_int (T : Txt w K mg) : mg "int" = none := T.free 65 rfl
theorem Txt.b_bool (T : Txt w K mg) : mg "bool" = none := T.free 66 rfl
theorem Txt.b_list (T : Txt w K mg) : mg "list" = none := T.free 67 rfl
theorem Txt.b_tuple (T : Txt w K mg) : mg "tuple" = none := T.free 68 rfl
theorem Txt.b_len (T : Txt w K mg) : mg "len" = none := T.free 69 rfl
theorem Txt.b_all (T : Txt w K mg) : mg "all" = none := T.free 70 rfl
theorem Txt.b_any (T : Txt w K mg) : mg "any" = none := T.free 71 rfl
theorem Txt.b_zip (T : Txt w K mg) : mg "zip" = none := T.free 72 rfl
theorem Txt.b_set (T : Txt w K mg) : mg "set" = none := T.free 73 rfl
theorem Txt.b_enumerate (T : Txt w K mg) : mg "enumerate" = none := T.free 74 rfl
theorem Txt.b_dict (T : Txt w K mg) : mg "dict" = none := T.free 75 rfl
theorem Txt.b_range (T : Txt w K mg) : mg "range" = none := T.free 76 rfl
theorem Txt.b_min (T : Txt w K mg) : mg "min" = none := T.free 77 rfl
theorem Txt.b_max (T : Txt w K mg) : mg "max" = none := T.free 78 rfl
theorem Txt.b_sum (T : Txt w K mg) : mg "sum" = none := T.free 79 rfl
theorem Txt.b_sorted (T : Txt w K mg) : mg "sorted" = none := T.free 80 rfl
theorem Txt.b_ValueError (T : Txt w K mg) : mg "ValueError" = none := T.free 81 rfl
theorem Txt.n_LONGEST (T : Txt w K mg) : ∃ t, mg "LONGEST" = some (.int 6 t) := T.int 82 rfl
theorem Txt.n_MOST_WIRES (T : Txt w K mg) : ∃ t, mg "MOST_WIRES" = some (.int 8 t) := T.int 83 rfl
theorem Txt.n_LEAST_MANY (T : Txt w K mg) : ∃ t, mg "LEAST_MANY" = some (.int 2 t) := T.int 84 rfl
theorem Txt.n_MOST_MANY (T : Txt w K mg) : ∃ t, mg "MOST_MANY" = some (.int 4 t) := T.int 85 rfl
theorem Txt.n_MOST_WORLDS (T : Txt w K mg) : ∃ t, mg "MOST_WORLDS" = some (.int 2048 t) := T.int 86 rfl
theorem Txt.n_MOST_PARTS (T : Txt w K mg) : ∃ t, mg "MOST_PARTS" = some (.int 7 t) := T.int 87 rfl
theorem Txt.n_MOST_TIES (T : Txt w K mg) : ∃ t, mg "MOST_TIES" = some (.int 24 t) := T.int 88 rfl
theorem Txt.n_LETTERS (T : Txt w K mg) : ∃ t, mg "LETTERS" = some (.str "abcdefghijklmnopqrstuvwxyz" t) := T.str 89 rfl
theorem Txt.cl (T : Txt w K mg) : Cls K (aWork K) := He.cls_ok (T.fact 90 rfl)
theorem Txt.mkW (T : Txt w K mg) : Mk K (aWork K) (He.fAd K ("Work", some "__init__")) := He.mkr_ok (T.fact 91 rfl)
theorem Txt.na_own_wires (T : Txt w K mg) : NoAttr K (He.ga K "Work") "own_wires" := He.noat_ok (T.fact 92 rfl)
theorem Txt.na_own_parts (T : Txt w K mg) : NoAttr K (He.ga K "Work") "own_parts" := He.noat_ok (T.fact 93 rfl)
theorem Txt.na_wire_at (T : Txt w K mg) : NoAttr K (He.ga K "Work") "wire_at" := He.noat_ok (T.fact 94 rfl)
theorem Txt.na_part_at (T : Txt w K mg) : NoAttr K (He.ga K "Work") "part_at" := He.noat_ok (T.fact 95 rfl)
theorem Txt.m_wires (T : Txt w K mg) : Meth K (aWork K) "wires" (He.fAd K ("Work", some "wires")) := He.meth_ok (T.fact 96 rfl)
theorem Txt.m_parts (T : Txt w K mg) : Meth K (aWork K) "parts" (He.fAd K ("Work", some "parts")) := He.meth_ok (T.fact 97 rfl)
theorem Txt.m___len__ (T : Txt w K mg) : Meth K (aWork K) "__len__" (He.fAd K ("Work", some "__len__")) := He.meth_ok (T.fact 98 rfl)
theorem Txt.exm (T : Txt w K mg) : PySem.W.exmOne K (.ref (aNoSt K)) (.ref (aNoSt K)) = some true := He.exm_ok (T.fact 99 rfl)
theorem Txt.kp_NoStages (T : Txt w K mg) : PySem.W.keepIn K (.ref (He.ga K "NoStages")) = true := T.keep 100 rfl
theorem Txt.kp_Work (T : Txt w K mg) : PySem.W.keepIn K (.ref (He.ga K "Work")) = true := T.keep 101 rfl
theorem Txt.na_number (T : Txt w K mg) : NoAttr K (He.ga K "NoStages") "number" := He.noat_ok (T.fact 102 rfl)
theorem Txt.f_NoStagesInit (T : Txt w K mg) : ∃ fd, FunD K dNoStagesInit.name dNoStagesInit.qual dNoStagesInit.params dNoStagesInit.body dNoStagesInit.scope (dNoStagesInit.dvs K) (dNoStagesInit.kws K) (He.fAd K ("NoStages", some "__init__")) fd := T.def_ 0 rfl
theorem Txt.f_IsWhole (T : Txt w K mg) : ∃ fd, FunD K dIsWhole.name dIsWhole.qual dIsWhole.params dIsWhole.body dIsWhole.scope (dIsWhole.dvs K) (dIsWhole.kws K) (He.fAd K ("is_whole", none)) fd := T.def_ 1 rfl
theorem Txt.f_IsWithin (T : Txt w K mg) : ∃ fd, FunD K dIsWithin.name dIsWithin.qual dIsWithin.params dIsWithin.body dIsWithin.scope (dIsWithin.dvs K) (dIsWithin.kws K) (He.fAd K ("is_within", none)) fd := T.def_ 2 rfl
theorem Txt.f_IsName (T : Txt w K mg) : ∃ fd, FunD K dIsName.name dIsName.qual dIsName.params dIsName.body dIsName.scope (dIsName.dvs K) (dIsName.kws K) (He.fAd K ("is_name", none)) fd := T.def_ 3 rfl
theorem Txt.f_IsWire (T : Txt w K mg) : ∃ fd, FunD K dIsWire.name dIsWire.qual dIsWire.params dIsWire.body dIsWire.scope (dIsWire.dvs K) (dIsWire.kws K) (He.fAd K ("is_wire", none)) fd := T.def_ 4 rfl
theorem Txt.f_AreListed (T : Txt w K mg) : ∃ fd, FunD K dAreListed.name dAreListed.qual dAreListed.params dAreListed.body dAreListed.scope (dAreListed.dvs K) (dAreListed.kws K) (He.fAd K ("are_listed", none)) fd := T.def_ 5 rfl
theorem Txt.f_IsValueRow (T : Txt w K mg) : ∃ fd, FunD K dIsValueRow.name dIsValueRow.qual dIsValueRow.params dIsValueRow.body dIsValueRow.scope (dIsValueRow.dvs K) (dIsValueRow.kws K) (He.fAd K ("is_value_row", none)) fd := T.def_ 6 rfl
theorem Txt.f_IsRowsTie (T : Txt w K mg) : ∃ fd, FunD K dIsRowsTie.name dIsRowsTie.qual dIsRowsTie.params dIsRowsTie.body dIsRowsTie.scope (dIsRowsTie.dvs K) (dIsRowsTie.kws K) (He.fAd K ("is_rows_tie", none)) fd := T.def_ 7 rfl
theorem Txt.f_IsTie (T : Txt w K mg) : ∃ fd, FunD K dIsTie.name dIsTie.qual dIsTie.params dIsTie.body dIsTie.scope (dIsTie.dvs K) (dIsTie.kws K) (He.fAd K ("is_tie", none)) fd := T.def_ 8 rfl
theorem Txt.f_IsPart (T : Txt w K mg) : ∃ fd, FunD K dIsPart.name dIsPart.qual dIsPart.params dIsPart.body dIsPart.scope (dIsPart.dvs K) (dIsPart.kws K) (He.fAd K ("is_part", none)) fd := T.def_ 9 rfl
theorem Txt.f_WorldsBy (T : Txt w K mg) : ∃ fd, FunD K dWorldsBy.name dWorldsBy.qual dWorldsBy.params dWorldsBy.body dWorldsBy.scope (dWorldsBy.dvs K) (dWorldsBy.kws K) (He.fAd K ("worlds_by", none)) fd := T.def_ 10 rfl
theorem Txt.f_LookAtWires (T : Txt w K mg) : ∃ fd, FunD K dLookAtWires.name dLookAtWires.qual dLookAtWires.params dLookAtWires.body dLookAtWires.scope (dLookAtWires.dvs K) (dLookAtWires.kws K) (He.fAd K ("look_at_wires", none)) fd := T.def_ 11 rfl
theorem Txt.f_LookAtParts (T : Txt w K mg) : ∃ fd, FunD K dLookAtParts.name dLookAtParts.qual dLookAtParts.params dLookAtParts.body dLookAtParts.scope (dLookAtParts.dvs K) (dLookAtParts.kws K) (He.fAd K ("look_at_parts", none)) fd := T.def_ 12 rfl
theorem Txt.f_WorkInit (T : Txt w K mg) : ∃ fd, FunD K dWorkInit.name dWorkInit.qual dWorkInit.params dWorkInit.body dWorkInit.scope (dWorkInit.dvs K) (dWorkInit.kws K) (He.fAd K ("Work", some "__init__")) fd := T.def_ 13 rfl
theorem Txt.f_Wires (T : Txt w K mg) : ∃ fd, FunD K dWires.name dWires.qual dWires.params dWires.body dWires.scope (dWires.dvs K) (dWires.kws K) (He.fAd K ("Work", some "wires")) fd := T.def_ 14 rfl
theorem Txt.f_Parts (T : Txt w K mg) : ∃ fd, FunD K dParts.name dParts.qual dParts.params dParts.body dParts.scope (dParts.dvs K) (dParts.kws K) (He.fAd K ("Work", some "parts")) fd := T.def_ 15 rfl
theorem Txt.f_Len (T : Txt w K mg) : ∃ fd, FunD K dLen.name dLen.qual dLen.params dLen.body dLen.scope (dLen.dvs K) (dLen.kws K) (He.fAd K ("Work", some "__len__")) fd := T.def_ 16 rfl
theorem Txt.f_LookAtWork (T : Txt w K mg) : ∃ fd, FunD K dLookAtWork.name dLookAtWork.qual dLookAtWork.params dLookAtWork.body dLookAtWork.scope (dLookAtWork.dvs K) (dLookAtWork.kws K) (He.fAd K ("look_at_work", none)) fd := T.def_ 17 rfl
theorem Txt.f_TieWires (T : Txt w K mg) : ∃ fd, FunD K dTieWires.name dTieWires.qual dTieWires.params dTieWires.body dTieWires.scope (dTieWires.dvs K) (dTieWires.kws K) (He.fAd K ("tie_wires", none)) fd := T.def_ 18 rfl
theorem Txt.f_OutBy (T : Txt w K mg) : ∃ fd, FunD K dOutBy.name dOutBy.qual dOutBy.params dOutBy.body dOutBy.scope (dOutBy.dvs K) (dOutBy.kws K) (He.fAd K ("out_by", none)) fd := T.def_ 19 rfl
theorem Txt.f_TieHolds (T : Txt w K mg) : ∃ fd, FunD K dTieHolds.name dTieHolds.qual dTieHolds.params dTieHolds.body dTieHolds.scope (dTieHolds.dvs K) (dTieHolds.kws K) (He.fAd K ("tie_holds", none)) fd := T.def_ 20 rfl
theorem Txt.f_ManysOf (T : Txt w K mg) : ∃ fd, FunD K dManysOf.name dManysOf.qual dManysOf.params dManysOf.body dManysOf.scope (dManysOf.dvs K) (dManysOf.kws K) (He.fAd K ("manys_of", none)) fd := T.def_ 21 rfl
theorem Txt.f_IsLot (T : Txt w K mg) : ∃ fd, FunD K dIsLot.name dIsLot.qual dIsLot.params dIsLot.body dIsLot.scope (dIsLot.dvs K) (dIsLot.kws K) (He.fAd K ("is_lot", none)) fd := T.def_ 22 rfl
theorem Txt.f_LookAtLot (T : Txt w K mg) : ∃ fd, FunD K dLookAtLot.name dLookAtLot.qual dLookAtLot.params dLookAtLot.body dLookAtLot.scope (dLookAtLot.dvs K) (dLookAtLot.kws K) (He.fAd K ("look_at_lot", none)) fd := T.def_ 23 rfl
theorem Txt.f_IsLook (T : Txt w K mg) : ∃ fd, FunD K dIsLook.name dIsLook.qual dIsLook.params dIsLook.body dIsLook.scope (dIsLook.dvs K) (dIsLook.kws K) (He.fAd K ("is_look", none)) fd := T.def_ 24 rfl
theorem Txt.f_IsWorth (T : Txt w K mg) : ∃ fd, FunD K dIsWorth.name dIsWorth.qual dIsWorth.params dIsWorth.body dIsWorth.scope (dIsWorth.dvs K) (dIsWorth.kws K) (He.fAd K ("is_worth", none)) fd := T.def_ 25 rfl
theorem Txt.f_LookAtLooks (T : Txt w K mg) : ∃ fd, FunD K dLookAtLooks.name dLookAtLooks.qual dLookAtLooks.params dLookAtLooks.body dLookAtLooks.scope (dLookAtLooks.dvs K) (dLookAtLooks.kws K) (He.fAd K ("look_at_looks", none)) fd := T.def_ 26 rfl
theorem Txt.f_IsWorld (T : Txt w K mg) : ∃ fd, FunD K dIsWorld.name dIsWorld.qual dIsWorld.params dIsWorld.body dIsWorld.scope (dIsWorld.dvs K) (dIsWorld.kws K) (He.fAd K ("is_world", none)) fd := T.def_ 27 rfl
theorem Txt.f_ValueBy (T : Txt w K mg) : ∃ fd, FunD K dValueBy.name dValueBy.qual dValueBy.params dValueBy.body dValueBy.scope (dValueBy.dvs K) (dValueBy.kws K) (He.fAd K ("value_by", none)) fd := T.def_ 28 rfl
theorem Txt.f_AreHeld (T : Txt w K mg) : ∃ fd, FunD K dAreHeld.name dAreHeld.qual dAreHeld.params dAreHeld.body dAreHeld.scope (dAreHeld.dvs K) (dAreHeld.kws K) (He.fAd K ("are_held", none)) fd := T.def_ 29 rfl
theorem Txt.f_SoundBy (T : Txt w K mg) : ∃ fd, FunD K dSoundBy.name dSoundBy.qual dSoundBy.params dSoundBy.body dSoundBy.scope (dSoundBy.dvs K) (dSoundBy.kws K) (He.fAd K ("sound_by", none)) fd := T.def_ 30 rfl
theorem Txt.f_SoundIn (T : Txt w K mg) : ∃ fd, FunD K dSoundIn.name dSoundIn.qual dSoundIn.params dSoundIn.body dSoundIn.scope (dSoundIn.dvs K) (dSoundIn.kws K) (He.fAd K ("sound_in", none)) fd := T.def_ 31 rfl
theorem Txt.f_EveryWorld (T : Txt w K mg) : ∃ fd, FunD K dEveryWorld.name dEveryWorld.qual dEveryWorld.params dEveryWorld.body dEveryWorld.scope (dEveryWorld.dvs K) (dEveryWorld.kws K) (He.fAd K ("every_world", none)) fd := T.def_ 32 rfl
theorem Txt.f_Meets (T : Txt w K mg) : ∃ fd, FunD K dMeets.name dMeets.qual dMeets.params dMeets.body dMeets.scope (dMeets.dvs K) (dMeets.kws K) (He.fAd K ("meets", none)) fd := T.def_ 33 rfl
theorem Txt.f_MeetsAll (T : Txt w K mg) : ∃ fd, FunD K dMeetsAll.name dMeetsAll.qual dMeetsAll.params dMeetsAll.body dMeetsAll.scope (dMeetsAll.dvs K) (dMeetsAll.kws K) (He.fAd K ("meets_all", none)) fd := T.def_ 34 rfl
theorem Txt.f_SeenWorlds (T : Txt w K mg) : ∃ fd, FunD K dSeenWorlds.name dSeenWorlds.qual dSeenWorlds.params dSeenWorlds.body dSeenWorlds.scope (dSeenWorlds.dvs K) (dSeenWorlds.kws K) (He.fAd K ("seen_worlds", none)) fd := T.def_ 35 rfl
theorem Txt.f_IsWithinLot (T : Txt w K mg) : ∃ fd, FunD K dIsWithinLot.name dIsWithinLot.qual dIsWithinLot.params dIsWithinLot.body dIsWithinLot.scope (dIsWithinLot.dvs K) (dIsWithinLot.kws K) (He.fAd K ("is_within_lot", none)) fd := T.def_ 36 rfl
theorem Txt.f_IsLotOf (T : Txt w K mg) : ∃ fd, FunD K dIsLotOf.name dIsLotOf.qual dIsLotOf.params dIsLotOf.body dIsLotOf.scope (dIsLotOf.dvs K) (dIsLotOf.kws K) (He.fAd K ("is_lot_of", none)) fd := T.def_ 37 rfl
theorem Txt.f_LookAtStages (T : Txt w K mg) : ∃ fd, FunD K dLookAtStages.name dLookAtStages.qual dLookAtStages.params dLookAtStages.body dLookAtStages.scope (dLookAtStages.dvs K) (dLookAtStages.kws K) (He.fAd K ("look_at_stages", none)) fd := T.def_ 38 rfl
theorem Txt.f_SeenOf (T : Txt w K mg) : ∃ fd, FunD K dSeenOf.name dSeenOf.qual dSeenOf.params dSeenOf.body dSeenOf.scope (dSeenOf.dvs K) (dSeenOf.kws K) (He.fAd K ("seen_of", none)) fd := T.def_ 39 rfl
theorem Txt.f_WiresOfLot (T : Txt w K mg) : ∃ fd, FunD K dWiresOfLot.name dWiresOfLot.qual dWiresOfLot.params dWiresOfLot.body dWiresOfLot.scope (dWiresOfLot.dvs K) (dWiresOfLot.kws K) (He.fAd K ("wires_of_lot", none)) fd := T.def_ 40 rfl
theorem Txt.f_InnerWires (T : Txt w K mg) : ∃ fd, FunD K dInnerWires.name dInnerWires.qual dInnerWires.params dInnerWires.body dInnerWires.scope (dInnerWires.dvs K) (dInnerWires.kws K) (He.fAd K ("inner_wires", none)) fd := T.def_ 41 rfl
theorem Txt.f_Fillings (T : Txt w K mg) : ∃ fd, FunD K dFillings.name dFillings.qual dFillings.params dFillings.body dFillings.scope (dFillings.dvs K) (dFillings.kws K) (He.fAd K ("fillings", none)) fd := T.def_ 42 rfl
theorem Txt.f_Joined (T : Txt w K mg) : ∃ fd, FunD K dJoined.name dJoined.qual dJoined.params dJoined.body dJoined.scope (dJoined.dvs K) (dJoined.kws K) (He.fAd K ("joined", none)) fd := T.def_ 43 rfl
theorem Txt.f_StageTie (T : Txt w K mg) : ∃ fd, FunD K dStageTie.name dStageTie.qual dStageTie.params dStageTie.body dStageTie.scope (dStageTie.dvs K) (dStageTie.kws K) (He.fAd K ("stage_tie", none)) fd := T.def_ 44 rfl
theorem Txt.f_Holders (T : Txt w K mg) : ∃ fd, FunD K dHolders.name dHolders.qual dHolders.params dHolders.body dHolders.scope (dHolders.dvs K) (dHolders.kws K) (He.fAd K ("holders", none)) fd := T.def_ 45 rfl
theorem Txt.f_Closed (T : Txt w K mg) : ∃ fd, FunD K dClosed.name dClosed.qual dClosed.params dClosed.body dClosed.scope (dClosed.dvs K) (dClosed.kws K) (He.fAd K ("closed", none)) fd := T.def_ 46 rfl
theorem Txt.f_LotClosed (T : Txt w K mg) : ∃ fd, FunD K dLotClosed.name dLotClosed.qual dLotClosed.params dLotClosed.body dLotClosed.scope (dLotClosed.dvs K) (dLotClosed.kws K) (He.fAd K ("lot_closed", none)) fd := T.def_ 47 rfl
theorem Txt.f_LotOrder (T : Txt w K mg) : ∃ fd, FunD K dLotOrder.name dLotOrder.qual dLotOrder.params dLotOrder.body dLotOrder.scope (dLotOrder.dvs K) (dLotOrder.kws K) (He.fAd K ("lot_order", none)) fd := T.def_ 48 rfl
theorem Txt.f_LeastOnes (T : Txt w K mg) : ∃ fd, FunD K dLeastOnes.name dLeastOnes.qual dLeastOnes.params dLeastOnes.body dLeastOnes.scope (dLeastOnes.dvs K) (dLeastOnes.kws K) (He.fAd K ("least_ones", none)) fd := T.def_ 49 rfl
theorem Txt.f_RestOf (T : Txt w K mg) : ∃ fd, FunD K dRestOf.name dRestOf.qual dRestOf.params dRestOf.body dRestOf.scope (dRestOf.dvs K) (dRestOf.kws K) (He.fAd K ("rest_of", none)) fd := T.def_ 50 rfl
theorem Txt.f_RestsOf (T : Txt w K mg) : ∃ fd, FunD K dRestsOf.name dRestsOf.qual dRestsOf.params dRestsOf.body dRestsOf.scope (dRestsOf.dvs K) (dRestsOf.kws K) (He.fAd K ("rests_of", none)) fd := T.def_ 51 rfl
theorem Txt.f_Broken (T : Txt w K mg) : ∃ fd, FunD K dBroken.name dBroken.qual dBroken.params dBroken.body dBroken.scope (dBroken.dvs K) (dBroken.kws K) (He.fAd K ("broken", none)) fd := T.def_ 52 rfl
theorem Txt.f_LawPool (T : Txt w K mg) : ∃ fd, FunD K dLawPool.name dLawPool.qual dLawPool.params dLawPool.body dLawPool.scope (dLawPool.dvs K) (dLawPool.kws K) (He.fAd K ("_law_pool", none)) fd := T.def_ 53 rfl
theorem Txt.f_LawTake (T : Txt w K mg) : ∃ fd, FunD K dLawTake.name dLawTake.qual dLawTake.params dLawTake.body dLawTake.scope (dLawTake.dvs K) (dLawTake.kws K) (He.fAd K ("_law_take", none)) fd := T.def_ 54 rfl
theorem Txt.f_LawPicked (T : Txt w K mg) : ∃ fd, FunD K dLawPicked.name dLawPicked.qual dLawPicked.params dLawPicked.body dLawPicked.scope (dLawPicked.dvs K) (dLawPicked.kws K) (He.fAd K ("_law_picked", none)) fd := T.def_ 55 rfl
theorem Txt.f_LawWired (T : Txt w K mg) : ∃ fd, FunD K dLawWired.name dLawWired.qual dLawWired.params dLawWired.body dLawWired.scope (dLawWired.dvs K) (dLawWired.kws K) (He.fAd K ("_law_wired", none)) fd := T.def_ 56 rfl
theorem Txt.f_LawRowsTie (T : Txt w K mg) : ∃ fd, FunD K dLawRowsTie.name dLawRowsTie.qual dLawRowsTie.params dLawRowsTie.body dLawRowsTie.scope (dLawRowsTie.dvs K) (dLawRowsTie.kws K) (He.fAd K ("_law_rows_tie", none)) fd := T.def_ 57 rfl
theorem Txt.f_LawTie (T : Txt w K mg) : ∃ fd, FunD K dLawTie.name dLawTie.qual dLawTie.params dLawTie.body dLawTie.scope (dLawTie.dvs K) (dLawTie.kws K) (He.fAd K ("_law_tie", none)) fd := T.def_ 58 rfl
theorem Txt.f_LawBound (T : Txt w K mg) : ∃ fd, FunD K dLawBound.name dLawBound.qual dLawBound.params dLawBound.body dLawBound.scope (dLawBound.dvs K) (dLawBound.kws K) (He.fAd K ("_law_bound", none)) fd := T.def_ 59 rfl
theorem Txt.f_LawStages (T : Txt w K mg) : ∃ fd, FunD K dLawStages.name dLawStages.qual dLawStages.params dLawStages.body dLawStages.scope (dLawStages.dvs K) (dLawStages.kws K) (He.fAd K ("_law_stages", none)) fd := T.def_ 60 rfl
theorem Txt.f_LawShut (T : Txt w K mg) : ∃ fd, FunD K dLawShut.name dLawShut.qual dLawShut.params dLawShut.body dLawShut.scope (dLawShut.dvs K) (dLawShut.kws K) (He.fAd K ("_law_shut", none)) fd := T.def_ 61 rfl
theorem Txt.f_LawHoldsOne (T : Txt w K mg) : ∃ fd, FunD K dLawHoldsOne.name dLawHoldsOne.qual dLawHoldsOne.params dLawHoldsOne.body dLawHoldsOne.scope (dLawHoldsOne.dvs K) (dLawHoldsOne.kws K) (He.fAd K ("_law_holds_one", none)) fd := T.def_ 62 rfl
theorem Txt.f_LawRight (T : Txt w K mg) : ∃ fd, FunD K dLawRight.name dLawRight.qual dLawRight.params dLawRight.body dLawRight.scope (dLawRight.dvs K) (dLawRight.kws K) (He.fAd K ("_law_right", none)) fd := T.def_ 63 rfl
theorem Txt.f_Law (T : Txt w K mg) : ∃ fd, FunD K dLaw.name dLaw.qual dLaw.params dLaw.body dLaw.scope (dLaw.dvs K) (dLaw.kws K) (He.fAd K ("law", none)) fd := T.def_ 64 rfl
end
end Lb
set_option Elab.async false
set_option linter.all false
set_option maxRecDepth 100000
set_option maxHeartbeats 0
namespace Lb
open PySem PySem.Spec PyProof.Rows L2
abbrev rowL : PySem.W.OpenRow := PySem.W.OpenLaw.row PySem.Challenge.rw_leastblame_k94_whole_stages_opened_and_l
abbrev hk : PySem.W.Hook := He.hookX 6 faL fnL tsL [] exB
def ob (s : PySem.W.SharedT) : He.AlX := He.obsX 6 faL fnL tsL [] exB (HandSHeadRun.getT s)
theorem ob_eq (s : PySem.W.SharedT) : ob s = hk.obs s.abs := He.obsX_eq (HandSHeadRun.getT_eq s)
theorem run0 (w : World) : HandSHeadRun.RunEq rowL (PySem.W.view rowL.prog [83]) hk ob 6000 looseL (w.withFollow "special-get-raises" false) := by
  intro os
  kernel_rfl
theorem run1 (w : World) : HandSHeadRun.RunEq rowL (PySem.W.view rowL.prog [83]) hk ob 6000 looseL (w.withFollow "special-get-raises" true) := by
  intro os
  kernel_rfl
theorem run (w : World) : HandSHeadRun.RunEq rowL (PySem.W.view rowL.prog [83]) hk ob 6000 looseL w :=
  PySem.W.byRow2 "special-get-raises" (P := fun w => HandSHeadRun.RunEq rowL (PySem.W.view rowL.prog [83]) hk ob 6000 looseL w) run0 run1 w
end Lb
set_option Elab.async false
set_option linter.all false
set_option maxRecDepth 100000
set_option maxHeartbeats 4000000
/-! A calculus of values without the heap: what an expression is worth in slots that hold so described values. -/
namespace Da
open PySem PySem.Spec PyProof.Rows L2

/-- what is said of a value: it stays true while the heap grows (pl: the one list that may change) -/
structure As where
  is : Option Addr → Hp → V → Prop
  mono : ∀ {pl : Option Addr} {H H' : Hp} {v : V}, Same H H' → is pl H v → is pl H' v
abbrev Fits (pl : Option Addr) (H : Hp) (vs : List V) (Ps : List As) : Prop := Paired (fun v (P : As) => P.is pl H v) vs Ps
theorem Fits.mono {pl : Option Addr} {H H' : Hp} {vs : List V} {Ps : List As} (e : Same H H') (f : Fits pl H vs Ps) : Fits pl H' vs Ps := Paired.mapP f fun _ P h => P.mono e h
theorem same_t {K : PySem.W.Frag} {H H' : Hp} {a : Addr} {xs : List V} (e : Same H H') (h : SqT K H a xs) : SqT K H' a xs := by
  rcases h with (h | ⟨o, h⟩) | h
  · exact .inl (.inl (e _ _ h))
  · exact .inl (.inr ⟨o, e _ _ h⟩)
  · exact .inr h

def aV (v : V) : As := ⟨fun _ _ u => u = v, fun _ h => h⟩
abbrev aInt (i : Int) : As := aV (.int i)
abbrev aStr (x : Str) : As := aV (.str x)
abbrev aBl (b : Bool) : As := aV (.bl b)
abbrev aNon : As := aV .non
abbrev aTy (n : String) : As := aV (.ty n)
def aLst (Ps : List As) : As := ⟨fun pl H v => ∃ a vs, v = .ref a ∧ H a = some (.lst vs) ∧ Fits pl H vs Ps, fun e ⟨a, vs, h1, h2, h3⟩ => ⟨a, vs, h1, e _ _ h2, h3.mono e⟩⟩
def aTup (K : PySem.W.Frag) (Ps : List As) : As := ⟨fun pl H v => ∃ a vs, v = .ref a ∧ SqT K H a vs ∧ Fits pl H vs Ps, fun e ⟨a, vs, h1, h2, h3⟩ => ⟨a, vs, h1, same_t e h2, h3.mono e⟩⟩
/-- some x with c x -/
def aEx {α : Type} (c : α → Prop) (P : α → As) : As := ⟨fun pl H v => ∃ x, c x ∧ (P x).is pl H v, fun e ⟨x, h1, h2⟩ => ⟨x, h1, (P x).mono e h2⟩⟩
/-- the list that may change -/
def aPool : As := ⟨fun pl _ v => ∃ p, v = .ref p ∧ pl = some p, fun _ h => h⟩
/-- anything -/
def aAny : As := ⟨fun _ _ _ => True, fun _ h => h⟩

/-- Hc: the part of the heap that what the slots hold leans on; the pool stands outside it -/
structure Gd (pl : Option Addr) (H Hc : Hp) : Prop where
  sub : Same Hc H
  pool : ∀ p, pl = some p → Hc p = none ∧ ∃ a b : Int, H p = some (.lst [.int a, .int b]) ∧ 0 ≤ b ∧ b < 2147483647
/-- nothing stood there, or a tuple -/
def New (H : Hp) (a : Addr) : Prop := H a = none ∨ ∃ vs, H a = some (.tup vs)
structure Stp (pl : Option Addr) (H Hc H' Hc' : Hp) : Prop where
  keep : ∀ q o, pl ≠ some q → H q = some o → H' q = some o
  cl : Same Hc Hc'
  gd : Gd pl H' Hc'
  new : ∀ a o, Hc' a = some o → Hc a = some o ∨ New H a
section
variable {pl : Option Addr} {H Hc H1 Hc1 H2 Hc2 : Hp} {p : Addr} {o : HO}
theorem Stp.refl (g : Gd pl H Hc) : Stp pl H Hc H Hc := ⟨fun _ _ _ h => h, Same.refl _, g, fun _ _ h => .inl h⟩
theorem Stp.trans (a : Stp pl H Hc H1 Hc1) (b : Stp pl H1 Hc1 H2 Hc2) : Stp pl H Hc H2 Hc2 where
  keep := fun q o n h => b.keep q o n (a.keep q o n h)
  cl := a.cl.trans b.cl
  gd := b.gd
  new := fun q o h => by
    rcases b.new q o h with h1 | h1
    · exact a.new q o h1
    · by_cases hq : pl = some q
      · obtain ⟨h2, _⟩ := b.gd.pool q hq
        rw [h] at h2
        cases h2
      · cases e : H q with
        | none => exact .inr (.inl e)
        | some u =>
          have k := a.keep q u hq e
          rcases h1 with h1 | ⟨vs, h1⟩
          · rw [k] at h1
            cases h1
          · rw [k] at h1
            cases h1
            exact .inr (.inr ⟨vs, e⟩)
/-- a new object, of which the slots may speak -/
theorem Stp.alloc (g : Gd pl H Hc) (hp : H p = none) (o : HO) : Stp pl H Hc (upd H p o) (upd Hc p o) where
  keep := fun q u _ h => by rw [upd_ne (ne_of_none h hp)]; exact h
  cl := fun q u h => by rw [upd_ne (ne_of_none (g.sub _ _ h) hp)]; exact h
  gd := ⟨fun q u h => by
      by_cases e : q = p
      · subst e
        rw [upd_same] at h ⊢
        exact h
      · rw [upd_ne e] at h ⊢
        exact g.sub _ _ h, fun q hq => by
      obtain ⟨h1, a, b, h2, h3⟩ := g.pool q hq
      have e : q ≠ p := ne_of_none h2 hp
      rw [upd_ne e, upd_ne e]
      exact ⟨h1, a, b, h2, h3⟩⟩
  new := fun q u h => by
    by_cases e : q = p
    · subst e
      exact .inr (.inl hp)
    · rw [upd_ne e] at h
      exact .inl h
/-- a new object that stands apart -/
theorem Stp.apart (g : Gd pl H Hc) (hp : H p = none) (o : HO) : Stp pl H Hc (upd H p o) Hc where
  keep := fun q u _ h => by rw [upd_ne (ne_of_none h hp)]; exact h
  cl := Same.refl _
  gd := ⟨fun q u h => by rw [upd_ne (ne_of_none (g.sub _ _ h) hp)]; exact g.sub _ _ h, fun q hq => by
      obtain ⟨h1, a, b, h2, h3⟩ := g.pool q hq
      rw [upd_ne (ne_of_none h2 hp)]
      exact ⟨h1, a, b, h2, h3⟩⟩
  new := fun q u h => .inl h
theorem Stp.sub (a : Stp pl H Hc H1 Hc1) : Same Hc H1 := fun q o h => a.gd.sub q o (a.cl q o h)
end

/-! ### what the slots hold -/
abbrev Rho := List (Option As)
structure EnvOk (pl : Option Addr) (Hc : Hp) (σ : L2.St) (ρ : Rho) : Prop where
  len : σ.length = ρ.length
  at_ : ∀ (i : Nat) (P : As), ρ[i]? = some (some P) → ∃ v, σ[i]? = some (some v) ∧ P.is pl Hc v
theorem EnvOk.mono {pl : Option Addr} {H H' : Hp} {σ : L2.St} {ρ : Rho} (e : Same H H') (h : EnvOk pl H σ ρ) : EnvOk pl H' σ ρ := ⟨h.len, fun i P q => let ⟨v, a, b⟩ := h.at_ i P q; ⟨v, a, P.mono e b⟩⟩
theorem EnvOk.set {pl : Option Addr} {H : Hp} {σ : L2.St} {ρ : Rho} {v : V} {P : As} (h : EnvOk pl H σ ρ) (i : Nat) (q : P.is pl H v) : EnvOk pl H (σ.set i (some v)) (ρ.set i (some P)) := ⟨by rw [List.length_set, List.length_set, h.len], fun j P' e => by
  by_cases hj : i = j
  · subst hj
    by_cases hi : i < ρ.length
    · rw [List.getElem?_set_self hi] at e
      cases e
      exact ⟨v, by rw [List.getElem?_set_self (by rw [h.len]; exact hi)], q⟩
    · rw [List.getElem?_eq_none (by rw [List.length_set]; omega)] at e
      cases e
  · rw [List.getElem?_set_ne hj] at e ⊢
    exact h.at_ j P' e⟩

/-! ### the judgements, by the machine's own words -/
def tE (X : Cx) (e : Expr) : TE := fun σ H Q => ∀ pins s, Inv X pins σ H s → wpAny (model X.prog X.w) X.A (eval e X.env) (EP X pins σ Q) X.xe s
def tT (X : Cx) (e : Expr) : TT := fun σ H Q => ∀ pins s, Inv X pins σ H s → wpAny (model X.prog X.w) X.A (isTrue e X.env (eval e X.env)) (TP X pins σ Q) X.xe s
def tA (X : Cx) (es : List Expr) : TA := fun σ H Q => ∀ pos pins s, Inv X pins σ H s → wpAny (model X.prog X.w) X.A (spliced (backTo pos (starEach es X.env))) (AP X pins σ Q) X.xe s
def tS (X : Cx) (st : Stmt) : TS := fun D σ H => ∀ pins s, Inv X pins σ H s → wpAny (model X.prog X.w) X.A (exec st X.env) (SP X pins D) X.xe s
def tSs (X : Cx) (st : List Stmt) : TS := fun D σ H => ∀ pins s, Inv X pins σ H s → wpAny (model X.prog X.w) X.A (execs st X.env) (SP X pins D) X.xe s
theorem pe_can {X : Cx} {e : Expr} : PE X e (tE X e) := ⟨fun pins s _ _ _ I h => h pins s I⟩
theorem pt_can {X : Cx} {e : Expr} : PT X e (tT X e) := ⟨fun pins s _ _ _ I h => h pins s I⟩
theorem pa_can {X : Cx} {es : List Expr} : PA X es (tA X es) := ⟨fun pos pins s _ _ _ I h => h pos pins s I⟩
theorem ps_can {X : Cx} {st : Stmt} : PS X st (tS X st) := ⟨fun pins s _ _ _ I h => h pins s I⟩
theorem pss_can {X : Cx} {st : List Stmt} : PSs X st (tSs X st) := ⟨fun pins s _ _ _ I h => h pins s I⟩
theorem tE_of {X : Cx} {e : Expr} {t : TE} (p : PE X e t) {σ : L2.St} {H : Hp} {Q : VK} (h : t σ H Q) : tE X e σ H Q := fun pins s I => p.run pins s σ H Q I h
theorem tT_of {X : Cx} {e : Expr} {t : TT} (p : PT X e t) {σ : L2.St} {H : Hp} {Q : Bool → Hp → Prop} (h : t σ H Q) : tT X e σ H Q := fun pins s I => p.run pins s σ H Q I h
theorem tA_of {X : Cx} {es : List Expr} {t : TA} (p : PA X es t) {σ : L2.St} {H : Hp} {Q : List V → Hp → Prop} (h : t σ H Q) : tA X es σ H Q := fun pos pins s I => p.run pos pins s σ H Q I h
theorem tS_of {X : Cx} {st : Stmt} {t : TS} (p : PS X st t) {σ : L2.St} {H : Hp} {D : Ends} (h : t D σ H) : tS X st D σ H := fun pins s I => p.run pins s σ H D I h
theorem tSs_of {X : Cx} {st : List Stmt} {t : TS} (p : PSs X st t) {σ : L2.St} {H : Hp} {D : Ends} (h : t D σ H) : tSs X st D σ H := fun pins s I => p.run pins s σ H D I h

/-- behind (H, Hc): a value of which R holds -/
def Out (pl : Option Addr) (H Hc : Hp) (R : As) (Q : VK) : Prop := ∀ v H' Hc', Stp pl H Hc H' Hc' → R.is pl Hc' v → Q v H'
def De (X : Cx) (e : Expr) (ρ : Rho) (P : As) : Prop := ∀ pl σ H Hc, Gd pl H Hc → EnvOk pl Hc σ ρ → ∀ Q : VK, Out pl H Hc P Q → tE X e σ H Q
def Dt (X : Cx) (e : Expr) (ρ : Rho) (b : Bool) : Prop := ∀ pl σ H Hc, Gd pl H Hc → EnvOk pl Hc σ ρ → ∀ Q : Bool → Hp → Prop, (∀ H' Hc', Stp pl H Hc H' Hc' → Q b H') → tT X e σ H Q
def DeA (X : Cx) (es : List Expr) (ρ : Rho) (Ps : List As) : Prop := ∀ pl σ H Hc, Gd pl H Hc → EnvOk pl Hc σ ρ → ∀ Q : List V → Hp → Prop, (∀ vs H' Hc', Stp pl H Hc H' Hc' → Fits pl Hc' vs Ps → Q vs H') → tA X es σ H Q
/-- a list just made, which nothing else knows -/
def OutN (pl : Option Addr) (H Hc : Hp) (Ps : List As) (Q : VK) : Prop := ∀ p vs H' Hc', Stp pl H Hc H' Hc' → H' p = some (.lst vs) → Hc' p = none → pl ≠ some p → H p = none → Fits pl Hc' vs Ps → Q (.ref p) H'
def DeN (X : Cx) (e : Expr) (ρ : Rho) (Ps : List As) : Prop := ∀ pl σ H Hc, Gd pl H Hc → EnvOk pl Hc σ ρ → ∀ Q : VK, OutN pl H Hc Ps Q → tE X e σ H Q
section
variable {pl : Option Addr} {H Hc H1 Hc1 : Hp} {P P' R : As} {Q : VK} {Ps : List As}
theorem Out.imp (h : Out pl H Hc R Q) (i : ∀ {H v}, P.is pl H v → R.is pl H v) : Out pl H Hc P Q := fun v H' Hc' s q => h v H' Hc' s (i q)
theorem Out.step (h : Out pl H Hc R Q) (s : Stp pl H Hc H1 Hc1) : Out pl H1 Hc1 R Q := fun v H' Hc' s' q => h v H' Hc' (s.trans s') q
theorem Out.here (h : Out pl H Hc R Q) (g : Gd pl H Hc) {v : V} (q : R.is pl Hc v) : Q v H := h v H Hc (Stp.refl g) q
/-- a new object is the value -/
theorem Out.new (h : Out pl H Hc R Q) (g : Gd pl H Hc) {o : HO} {p : Addr} (hp : H p = none) (q : R.is pl (upd Hc p o) (.ref p)) : Q (.ref p) (upd H p o) := h _ _ _ (Stp.alloc g hp o) q
theorem OutN.step (h : OutN pl H Hc Ps Q) (s : Stp pl H Hc H1 Hc1) : OutN pl H1 Hc1 Ps Q := fun p vs H' Hc' s' h1 h2 h3 h4 h5 => h p vs H' Hc' (s.trans s') h1 h2 h3 (by
  cases e : H p with
  | none => rfl
  | some o =>
    rw [s.keep p o h3 e] at h4
    cases h4) h5
theorem OutN.new (h : OutN pl H Hc Ps Q) (g : Gd pl H Hc) {vs : List V} {p : Addr} (hp : H p = none) (q : Fits pl Hc vs Ps) : Q (.ref p) (upd H p (.lst vs)) := by
  refine h p vs _ Hc (Stp.apart g hp _) upd_same ?_ ?_ hp q
  · cases e : Hc p with
    | none => rfl
    | some o =>
      rw [g.sub _ _ e] at hp
      cases hp
  · intro e
    obtain ⟨_, a, b, h2, _⟩ := g.pool p e
    rw [hp] at h2
    cases h2
/-- a new list may be told as a value -/
theorem Out.ofN (h : Out pl H Hc (aLst Ps) Q) : OutN pl H Hc Ps Q := fun p vs H' Hc' s h1 h2 h3 h4 h5 => by
  have sub : Same Hc' (upd Hc' p (.lst vs)) := fun q o e => by
    rw [upd_ne (ne_of_none e h2)]
    exact e
  refine h (.ref p) H' (upd Hc' p (.lst vs)) ⟨s.keep, s.cl.trans sub, ⟨fun q o e => ?_, fun q hq => ?_⟩, fun q o e => ?_⟩ ⟨p, vs, rfl, upd_same, h5.mono sub⟩
  · by_cases hq : q = p
    · subst hq
      rw [upd_same] at e
      cases e
      exact h1
    · rw [upd_ne hq] at e
      exact s.gd.sub _ _ e
  · have hne : q ≠ p := fun z => h3 (z ▸ hq)
    rw [upd_ne hne]
    exact s.gd.pool q hq
  · by_cases hq : q = p
    · subst hq
      exact .inr (.inl h4)
    · rw [upd_ne hq] at e
      exact s.new _ _ e
end
theorem DeN.de {X : Cx} {e : Expr} {ρ : Rho} {Ps : List As} (h : DeN X e ρ Ps) : De X e ρ (aLst Ps) := fun pl σ H Hc g ev Q q => h pl σ H Hc g ev Q q.ofN
theorem De.imp {X : Cx} {e : Expr} {ρ : Rho} {P R : As} (h : De X e ρ P) (i : ∀ {pl H v}, P.is pl H v → R.is pl H v) : De X e ρ R := fun pl σ H Hc g ev Q q => h pl σ H Hc g ev Q (q.imp i)
theorem De.as {X : Cx} {e : Expr} {ρ : Rho} {P R : As} (h : De X e ρ P) (i : P = R) : De X e ρ R := i ▸ h
theorem Dt.as {X : Cx} {e : Expr} {ρ : Rho} {a b : Bool} (h : Dt X e ρ a) (i : a = b) : Dt X e ρ b := i ▸ h

/-! ### expressions -/
section
variable {X : Cx} {ρ : Rho} {pos : Pos} {P P' R : As} {a b c e : Expr} {es : List Expr} {Ps : List As}
theorem d_v (i : Nat) {x : Str} {P : As} (h : ρ[i]? = some (some P) := by rfl) (hN : X.N[i]? = some x := by rfl) (hv : Vis X.env.scope x := by first | exact Or.inl rfl | exact Or.inr (Or.inl rfl) | exact Or.inr (Or.inr rfl))
    (hd : (x == ("__debug__" : Str)) = false := by decide) (hcd : (x == ("__classdict__" : Str)) = false := by decide) : De X (.Name x pos) ρ P := fun pl σ H Hc g ev Q q => by
  obtain ⟨v, h1, h2⟩ := ev.at_ i P h
  exact tE_of (pe_var hN hv hd hcd) ⟨v, h1, q.here g h2⟩
theorem d_int {i : Int} {j} : De X (.Constant (.int i) j pos) ρ (aInt i) := fun _ _ _ _ g _ _ q => tE_of pe_int (q.here g rfl)
theorem d_str {x : Str} {j} : De X (.Constant (.str x) j pos) ρ (aStr x) := fun _ _ _ _ g _ _ q => tE_of pe_str (q.here g rfl)
theorem d_bl {x : Bool} {j} : De X (.Constant (.bool x) j pos) ρ (aBl x) := fun _ _ _ _ g _ _ q => tE_of pe_bl (q.here g rfl)
theorem d_non {j} : De X (.Constant .none j pos) ρ aNon := fun _ _ _ _ g _ _ q => tE_of pe_non (q.here g rfl)
/-- a constant of the module, a class -/
theorem d_glob {x : Str} {v : V} {u : Value} (hm : X.mg x = some u) (r : RelV v u) (hg : Gl X x := by rfl) (hd : (x == ("__debug__" : Str)) = false := by decide) : De X (.Name x pos) ρ (aV v) := fun _ _ _ _ g _ _ q => tE_of (pe_glob hg hm r hd) (q.here g rfl)
theorem d_globI {x : Str} {i : Int} (hm : ∃ t, X.mg x = some (.int i t)) (hg : Gl X x := by rfl) (hd : (x == ("__debug__" : Str)) = false := by decide) : De X (.Name x pos) ρ (aInt i) := let ⟨t, h⟩ := hm; d_glob h ⟨t, rfl⟩ hg hd
theorem d_globS {x : Str} {z : Str} (hm : ∃ t, X.mg x = some (.str z t)) (hg : Gl X x := by rfl) (hd : (x == ("__debug__" : Str)) = false := by decide) : De X (.Name x pos) ρ (aStr z) := let ⟨t, h⟩ := hm; d_glob h ⟨t, rfl⟩ hg hd
theorem d_globR {x : Str} {p : Addr} (hm : X.mg x = some (.ref p)) (hg : Gl X x := by rfl) (hd : (x == ("__debug__" : Str)) = false := by decide) : De X (.Name x pos) ρ (aV (.ref p)) := d_glob hm rfl hg hd
/-- a built-in type as a value -/
theorem d_bty {x : Str} {n : String} (hm : X.mg x = none) (hv : bootBuiltins x = some (.type n) := by decide +kernel) (hg : Gl X x := by rfl) (hn : x ≠ "__name__" := by decide) (hd : (x == ("__debug__" : Str)) = false := by decide) :
    De X (.Name x pos) ρ (aTy n) := fun _ _ _ _ g _ _ q => tE_of (pe_bltn (v := .ty n) hg hm hv rfl hn hd) (q.here g rfl)
theorem da_nil : DeA X [] ρ [] := fun _ _ _ _ g _ _ q => tA_of pa_nil (q [] _ _ (Stp.refl g) .nil)
theorem da_cons (ha : De X e ρ P) (hr : DeA X es ρ Ps) (hs : starEach (e :: es) X.env = (false, eval e X.env) :: starEach es X.env := by rfl) : DeA X (e :: es) ρ (P :: Ps) := fun pl σ H Hc g ev Q q =>
  tA_of (pa_cons pe_can pa_can hs) (ha pl σ H Hc g ev _ fun v H1 Hc1 s1 h1 => hr pl σ H1 Hc1 s1.gd (ev.mono s1.cl) _ fun vs H2 Hc2 s2 h2 => q _ H2 Hc2 (s1.trans s2) (.cons (P.mono s2.cl h1) h2))
theorem da1 (ha : De X e ρ P) (hs : starEach (e :: []) X.env = (false, eval e X.env) :: starEach [] X.env := by rfl) : DeA X [e] ρ [P] := da_cons ha da_nil hs
/-- a written list, a written tuple -/
theorem dn_lst (h : DeA X es ρ Ps) (hz : Ps.length ≤ 1000 := by first | decide | exact Nat.le_of_ble_eq_true rfl) : DeN X (.List es pos) ρ Ps := fun pl σ H Hc g ev Q q =>
  tE_of (pe_lst pa_can) (h pl σ H Hc g ev _ fun vs H1 Hc1 s1 h1 => ⟨Nat.le_trans (by rw [Paired.length h1]; exact hz) (by decide), fun p hp => (q.step s1).new s1.gd hp h1⟩)
theorem d_lst (h : DeA X es ρ Ps) (hz : Ps.length ≤ 1000 := by first | decide | exact Nat.le_of_ble_eq_true rfl) : De X (.List es pos) ρ (aLst Ps) := (dn_lst h hz).de
theorem same_new {H : Hp} {p : Addr} {o : HO} (hp : H p = none) : Same H (upd H p o) := fun q u e => by
  rw [upd_ne (ne_of_none e hp)]
  exact e
theorem clean_none {pl : Option Addr} {H Hc : Hp} {p : Addr} (g : Gd pl H Hc) (hp : H p = none) : Hc p = none := by
  cases e : Hc p with
  | none => rfl
  | some o =>
    rw [g.sub _ _ e] at hp
    cases hp
theorem d_tup {x1} (h : DeA X es ρ Ps) (hz : Ps.length ≤ 1000 := by first | decide | exact Nat.le_of_ble_eq_true rfl) : De X (.Tuple es x1 pos) ρ (aTup X.K Ps) := fun pl σ H Hc g ev Q q =>
  tE_of (pe_tup pa_can) (h pl σ H Hc g ev _ fun vs H1 Hc1 s1 h1 => ⟨Nat.le_trans (by rw [Paired.length h1]; exact hz) (by decide), fun p hp => (q.step s1).new s1.gd hp ⟨p, vs, rfl, SqT.of upd_same, h1.mono (same_new (clean_none s1.gd hp))⟩⟩)
/-- an operation upon values -/
def OpD (r : R2) (P P' R : As) : Prop := ∀ pl H Hc x y, Gd pl H Hc → P.is pl Hc x → P'.is pl Hc y → ∀ Q : VK, Out pl H Hc R Q → r x y H Q
theorem op_run {r : R2} (hr : OpD r P P' R) (ha : De X a ρ P) (hb : De X b ρ P') {pl : Option Addr} {σ : L2.St} {H Hc : Hp} (g : Gd pl H Hc) (ev : EnvOk pl Hc σ ρ) {Q : VK} (q : Out pl H Hc R Q) : tOp r (tE X a) (tE X b) σ H Q :=
  ha pl σ H Hc g ev _ fun v H1 Hc1 s1 h1 => hb pl σ H1 Hc1 s1.gd (ev.mono s1.cl) _ fun u H2 Hc2 s2 h2 => hr pl H2 Hc2 v u s2.gd (P.mono s2.cl h1) h2 Q (q.step (s1.trans s2))
theorem d_op {op : Operator} {r : R2} (ho : OpR X (binaryOp op) r) (hr : OpD r P P' R) (ha : De X a ρ P) (hb : De X b ρ P') : De X (.BinOp a op b pos) ρ R := fun _ _ _ _ g ev _ q => tE_of (pe_op ho pe_can pe_can) (op_run hr ha hb g ev q)
theorem d_cmp {op : CmpOp} {r : R2} (ho : OpR X (compareOp op) r) (hr : OpD r P P' R) (ha : De X a ρ P) (hb : De X b ρ P') (hm : behindInMarks op b = false := by first | exact nomark _ | rfl) : De X (.Compare a [op] [b] pos) ρ R := fun _ _ _ _ g ev _ q => tE_of (pe_cmpR ho pe_can pe_can hm) (op_run hr ha hb g ev q)
theorem dt_cmp {op : CmpOp} {r : R2} {k : Bool} (ho : OpR X (compareOp op) r) (hr : OpD r P P' (aBl k)) (ha : De X a ρ P) (hb : De X b ρ P') (hm : behindInMarks op b = false := by first | exact nomark _ | rfl) : Dt X (.Compare a [op] [b] pos) ρ k := fun _ _ _ _ g ev _ q =>
  tT_of (pt_cmpR ho pe_can pe_can hm) (op_run hr ha hb g ev fun v H' Hc' s h => ⟨k, h, q H' Hc' s⟩)
theorem opd_exR {α : Type} {c : α → Prop} {r : R2} {P' R : α → As} (h : ∀ x, c x → OpD r P (P' x) (R x)) : OpD r P (aEx c P') (aEx c R) := fun pl H Hc x y g h1 ⟨z, hz, h2⟩ Q q => h z hz pl H Hc x y g h1 h2 Q (q.imp fun w => ⟨z, hz, w⟩)
theorem opd_I0 {f : Int → Int → V} {i j : Int} : OpD (rI0 f) (aInt i) (aInt j) (aV (f i j)) := fun _ _ _ _ _ g h1 h2 Q q => ⟨i, j, h1, h2, q.here g rfl⟩
theorem opd_I {C : Int → Int → Prop} {f : Int → Int → V} {i j : Int} (hc : C i j) : OpD (rI C f) (aInt i) (aInt j) (aV (f i j)) := fun _ _ _ _ _ g h1 h2 Q q => ⟨i, j, h1, h2, hc, q.here g rfl⟩
theorem opd_eq {x y : V} (h : scal x y = true) : OpD rEq (aV x) (aV y) (aBl (decide (x = y))) := fun _ _ _ u v g h1 h2 Q q => by
  have e1 : u = x := h1
  have e2 : v = y := h2
  subst e1 e2
  exact ⟨h, q.here g rfl⟩
theorem opd_ne {x y : V} (h : scal x y = true) : OpD rNe (aV x) (aV y) (aBl (!decide (x = y))) := fun _ _ _ u v g h1 h2 Q q => by
  have e1 : u = x := h1
  have e2 : v = y := h2
  subst e1 e2
  exact ⟨h, q.here g rfl⟩
theorem d_add {i j : Int} (ha : De X a ρ (aInt i)) (hb : De X b ρ (aInt j)) : De X (.BinOp a .Add b pos) ρ (aInt (i + j)) := d_op op_add opd_I0 ha hb
theorem d_sub {i j : Int} (ha : De X a ρ (aInt i)) (hb : De X b ρ (aInt j)) : De X (.BinOp a .Sub b pos) ρ (aInt (i - j)) := d_op op_sub opd_I0 ha hb
theorem d_eqV {x y : V} (h : scal x y = true) (ha : De X a ρ (aV x)) (hb : De X b ρ (aV y)) : De X (.Compare a [.Eq] [b] pos) ρ (aBl (decide (x = y))) := d_cmp op_eq (opd_eq h) ha hb
theorem dt_eqV {x y : V} (h : scal x y = true) (ha : De X a ρ (aV x)) (hb : De X b ρ (aV y)) : Dt X (.Compare a [.Eq] [b] pos) ρ (decide (x = y)) := dt_cmp op_eq (opd_eq h) ha hb
theorem dt_neV {x y : V} (h : scal x y = true) (ha : De X a ρ (aV x)) (hb : De X b ρ (aV y)) : Dt X (.Compare a [.NotEq] [b] pos) ρ (!decide (x = y)) := dt_cmp op_ne (opd_ne h) ha hb
theorem d_lt {i j : Int} (ha : De X a ρ (aInt i)) (hb : De X b ρ (aInt j)) : De X (.Compare a [.Lt] [b] pos) ρ (aBl (decide (i < j))) := d_cmp op_lt opd_I0 ha hb
theorem dt_gt {i j : Int} (ha : De X a ρ (aInt i)) (hb : De X b ρ (aInt j)) : Dt X (.Compare a [.Gt] [b] pos) ρ (decide (j < i)) := dt_cmp op_gt opd_I0 ha hb
/-! ### tests -/
theorem dt_val {k : Bool} (h : De X e ρ (aBl k)) (he : ∀ whole, isTrue e X.env whole = (do let v ← whole; standAt e.pos; holding [v] (truthy v)) := by intro _; rfl) : Dt X e ρ k := fun _ _ _ _ g ev _ q =>
  tT_of (pt_val pe_can he) (h _ _ _ _ g ev _ fun v H' Hc' s hv => ⟨k, hv, q H' Hc' s⟩)
theorem dt_not {k : Bool} (h : Dt X a ρ k) : Dt X (.UnaryOp .Not a pos) ρ (!k) := fun _ _ _ _ g ev _ q => tT_of (pt_not pt_can) (h _ _ _ _ g ev _ fun H' Hc' s => q H' Hc' s)
theorem dt_and2 {x y : Bool} (h1 : Dt X a ρ x) (h2 : x = true → Dt X b ρ y) : Dt X (.BoolOp .And [a, b] pos) ρ (x && y) := fun _ _ _ _ g ev _ q => tT_of (PW.pt (pw_and pt_can (pw_and1 pt_can))) (h1 _ _ _ _ g ev _ fun H1 Hc1 s1 => by
  cases x with
  | true => exact iteT (h2 rfl _ _ _ _ s1.gd (ev.mono s1.cl) _ fun H2 Hc2 s2 => q H2 Hc2 (s1.trans s2))
  | false => exact iteF (q H1 Hc1 s1))
theorem dt_or2 {x y : Bool} (h1 : Dt X a ρ x) (h2 : x = false → Dt X b ρ y) : Dt X (.BoolOp .Or [a, b] pos) ρ (x || y) := fun _ _ _ _ g ev _ q => tT_of (PW.pt (pw_or pt_can (pw_or1 pt_can))) (h1 _ _ _ _ g ev _ fun H1 Hc1 s1 => by
  cases x with
  | true => exact iteT (q H1 Hc1 s1)
  | false => exact iteF (h2 rfl _ _ _ _ s1.gd (ev.mono s1.cl) _ fun H2 Hc2 s2 => q H2 Hc2 (s1.trans s2)))
theorem dt_or3 {x y z : Bool} (h1 : Dt X a ρ x) (h2 : x = false → Dt X b ρ y) (h3 : x = false → y = false → Dt X c ρ z) : Dt X (.BoolOp .Or [a, b, c] pos) ρ (x || (y || z)) := fun _ _ _ _ g ev _ q => tT_of (PW.pt (pw_or pt_can (pw_or pt_can (pw_or1 pt_can)))) (h1 _ _ _ _ g ev _ fun H1 Hc1 s1 => by
  cases x with
  | true => exact iteT (q H1 Hc1 s1)
  | false =>
    refine iteF (h2 rfl _ _ _ _ s1.gd (ev.mono s1.cl) _ fun H2 Hc2 s2 => ?_)
    cases y with
    | true => exact iteT (q H2 Hc2 (s1.trans s2))
    | false => exact iteF (h3 rfl rfl _ _ _ _ s2.gd (ev.mono (s1.trans s2).cl) _ fun H3 Hc3 s3 => q H3 Hc3 ((s1.trans s2).trans s3)))
/-- and, or, not of truth values, as values -/
theorem d_one {op} (h : De X a ρ P) : De X (.BoolOp op [a] pos) ρ P := fun _ _ _ _ g ev _ q => tE_of (pe_one pe_can) (h _ _ _ _ g ev _ q)
theorem d_and {x : Bool} {rest : List Expr} (h1 : De X a ρ (aBl x)) (h2 : x = true → De X (.BoolOp .And (b :: rest) pos) ρ P) (h0 : x = false → P = aBl false) : De X (.BoolOp .And (a :: b :: rest) pos) ρ P := fun _ _ _ _ g ev _ q => tE_of (pe_and pe_can pe_can) (h1 _ _ _ _ g ev _ fun v H1 Hc1 s1 hv => ⟨x, hv, by
  cases x with
  | true => exact iteT (h2 rfl _ _ _ _ s1.gd (ev.mono s1.cl) _ (q.step s1))
  | false =>
    rw [h0 rfl] at q
    exact iteF (q _ _ _ s1 rfl)⟩)
theorem d_and2 {x y : Bool} (h1 : De X a ρ (aBl x)) (h2 : x = true → De X b ρ (aBl y)) : De X (.BoolOp .And [a, b] pos) ρ (aBl (x && y)) := d_and h1 (fun e => d_one (by subst e; exact h2 rfl)) (fun e => by subst e; rfl)
theorem d_and3 {x y z : Bool} (h1 : De X a ρ (aBl x)) (h2 : x = true → De X b ρ (aBl y)) (h3 : x = true → y = true → De X c ρ (aBl z)) : De X (.BoolOp .And [a, b, c] pos) ρ (aBl (x && (y && z))) :=
  d_and h1 (fun e => by subst e; exact d_and (h2 rfl) (fun e => d_one (by subst e; exact h3 rfl rfl)) (fun e => by subst e; rfl)) (fun e => by subst e; rfl)
theorem d_not {x : Bool} (h : De X a ρ (aBl x)) : De X (.UnaryOp .Not a pos) ρ (aBl (!x)) := fun _ _ _ _ g ev _ q => tE_of (pe_not pe_can) (h _ _ _ _ g ev _ fun v H1 Hc1 s1 hv => ⟨x, hv, q _ _ _ s1 rfl⟩)
theorem d_ifx {k : Bool} (hc : Dt X c ρ k) (h1 : k = true → De X a ρ P) (h2 : k = false → De X b ρ P) : De X (.IfExp c a b pos) ρ P := fun _ _ _ _ g ev _ q => tE_of (pe_ifExp pt_can pe_can pe_can) (hc _ _ _ _ g ev _ fun H1 Hc1 s1 => by
  cases k with
  | true => exact iteT (h1 rfl _ _ _ _ s1.gd (ev.mono s1.cl) _ (q.step s1))
  | false => exact iteF (h2 rfl _ _ _ _ s1.gd (ev.mono s1.cl) _ (q.step s1)))
end
end Da
set_option Elab.async false
set_option linter.all false
set_option maxRecDepth 100000
set_option maxHeartbeats 4000000
namespace Da
open PySem PySem.Spec PyProof.Rows L2
/-! ### what is walked -/
def tI (X : Cx) (tg it : Expr) : TI := fun σ H R => ∀ pins s, Inv X pins σ H s → wpAny (model X.prog X.w) X.A (eval it X.env) (fun v s1 => wpAny (model X.prog X.w) X.A (pyIter v) (PIE X pins σ tg R) X.xe s1) X.xe s
theorem pi_can {X : Cx} {tg it : Expr} : PI X tg it (tI X tg it) := ⟨fun pins s _ _ _ I h => h pins s I⟩
theorem tI_of {X : Cx} {tg it : Expr} {t : TI} (p : PI X tg it t) {σ : L2.St} {H : Hp} {R : It → Hp → Prop} (h : t σ H R) : tI X tg it σ H R := fun pins s I => p.run pins s σ H R I h
/-- while the clean part keeps what stood in Hc1, J gives at turn i something of which the i-th holds, then stops -/
def Yields (pl : Option Addr) (J : It) (Hc1 : Hp) (Ps : List As) : Prop := ∀ i H2 Hc2, Same Hc1 Hc2 → Gd pl H2 Hc2 → (∀ P, Ps[i]? = some P → J.go i H2 ∧ ∀ x H3, J.yld i H2 x H3 → ∃ Hc3, Stp pl H2 Hc2 H3 Hc3 ∧ P.is pl Hc3 x) ∧ (Ps.length ≤ i → i = Ps.length → J.stop i H2)
def Di {α : Type} (X : Cx) (tg it : Expr) (ρ : Rho) (xs : List α) (P : α → As) : Prop := ∀ pl σ H Hc, Gd pl H Hc → EnvOk pl Hc σ ρ → ∀ R, (∀ J H1 Hc1, Stp pl H Hc H1 Hc1 → Yields pl J Hc1 (xs.map P) → R J H1) → tI X tg it σ H R
theorem Fits.get {pl : Option Addr} {H : Hp} : ∀ {vs : List V} {Ps : List As} {i : Nat} {P : As}, Fits pl H vs Ps → Ps[i]? = some P → ∃ v, vs[i]? = some v ∧ P.is pl H v
  | _, _, _, _, .nil, e => by simp at e
  | _, _, 0, _, .cons h _, e => by
    simp at e
    subst e
    exact ⟨_, rfl, h⟩
  | _, _, i + 1, _, .cons _ t, e => by
    obtain ⟨v, h1, h2⟩ := Fits.get (i := i) t (by simpa using e)
    exact ⟨v, by simpa using h1, h2⟩
theorem Fits.len {pl : Option Addr} {H : Hp} {vs : List V} {Ps : List As} (f : Fits pl H vs Ps) : vs.length = Ps.length := Paired.length f
section
variable {X : Cx} {ρ : Rho} {tg l e e2 : Expr} {pos p tpos : Pos} {elts : List Expr} {kk : Nat} {α β : Type} {xs : List α} {ys : List β} {P : α → As} {P' : β → As}
theorem di_list (h : De X l ρ (aLst (xs.map P))) : Di X tg l ρ xs P := fun pl σ H Hc g ev R q => by
  refine tI_of (pi_list pe_can) (h pl σ H Hc g ev _ fun v H1 Hc1 s1 ⟨a, vs, e1, e2, f⟩ => ⟨a, e1, ⟨vs, SqL.of (s1.gd.sub _ _ e2)⟩, q _ H1 Hc1 s1 fun i H2 Hc2 sm g2 => ?_⟩)
  have sq : SqL X.K H2 a vs := SqL.of (g2.sub _ _ (sm _ _ e2))
  refine ⟨fun Pi hi => ?_, fun h1 h2 => ⟨vs, sq, by rw [f.len]; exact h1⟩⟩
  obtain ⟨x, hx, hp⟩ := f.get hi
  refine ⟨⟨vs, x, sq, hx⟩, fun y H3 ⟨z1, z2⟩ => ⟨Hc2, by rw [z1]; exact Stp.refl g2, ?_⟩⟩
  have := z2 vs sq
  rw [hx] at this
  cases this
  exact Pi.mono sm hp
theorem di_tup (h : De X l ρ (aTup X.K (xs.map P))) : Di X tg l ρ xs P := fun pl σ H Hc g ev R q => by
  refine tI_of (pi_tup pe_can) (h pl σ H Hc g ev _ fun v H1 Hc1 s1 ⟨a, vs, e1, e2, f⟩ => ⟨a, e1, ⟨vs, same_t s1.gd.sub e2⟩, q _ H1 Hc1 s1 fun i H2 Hc2 sm g2 => ?_⟩)
  have sq : SqT X.K H2 a vs := same_t g2.sub (same_t sm e2)
  refine ⟨fun Pi hi => ?_, fun h1 h2 => ⟨vs, sq, by rw [f.len]; exact h1⟩⟩
  obtain ⟨x, hx, hp⟩ := f.get hi
  refine ⟨⟨vs, x, sq, hx⟩, fun y H3 ⟨z1, z2⟩ => ⟨Hc2, by rw [z1]; exact Stp.refl g2, ?_⟩⟩
  have := z2 vs sq
  rw [hx] at this
  cases this
  exact Pi.mono sm hp
theorem di_range {n : Nat} (hm : X.mg "range" = none) (h : De X e ρ (aInt (n : Int))) (hn : n < 1000000) (hg : Gl X "range" := by rfl) (hs : starEach [e] X.env = [(false, eval e X.env)] := by rfl) : Di X tg (.Call (.Name "range" p) [e] [] pos) ρ (List.range n) fun k => aInt (k : Int) := fun pl σ H Hc g ev R q =>
  tI_of (pi_range1 hg hm (pa_cons pe_can pa_nil hs) hs) (h pl σ H Hc g ev _ fun v H1 Hc1 s1 hv => ⟨(n : Int), by rw [show v = V.int (n : Int) from hv], by omega, by omega, q _ H1 Hc1 s1 fun i H2 Hc2 sm g2 => by
    rw [Int.toNat_natCast]
    refine ⟨fun Pi hi => ?_, fun h1 h2 => by rw [List.length_map, List.length_range] at h1; exact h1⟩
    have hlt : i < n := by
      have := (List.getElem?_eq_some_iff.mp hi).1
      rw [List.length_map, List.length_range] at this
      exact this
    refine ⟨hlt, fun y H3 ⟨z1, z2⟩ => ⟨Hc2, by rw [z1]; exact Stp.refl g2, ?_⟩⟩
    rw [List.getElem?_map, List.getElem?_range hlt] at hi
    cases hi
    rw [z2]
    show V.int (0 + (i : Int)) = V.int (i : Int)
    rw [Int.zero_add]⟩)
theorem pair_new {pl : Option Addr} {K : PySem.W.Frag} {H Hc : Hp} {T : Addr} {x y : V} {A B : As} (g : Gd pl H Hc) (hT : H T = none) (hx : A.is pl Hc x) (hy : B.is pl Hc y) : (aTup K [A, B]).is pl (upd Hc T (.tup [x, y])) (.ref T) :=
  ⟨T, _, rfl, SqT.of upd_same, .cons (A.mono (same_new (clean_none g hT)) hx) (.cons (B.mono (same_new (clean_none g hT)) hy) .nil)⟩
theorem di_enum (hm : X.mg "enumerate" = none) (h : De X e ρ (aLst (xs.map P))) (hg : Gl X "enumerate" := by rfl) (hs : starEach [e] X.env = [(false, eval e X.env)] := by rfl) : Di X (.Tuple elts kk tpos) (.Call (.Name "enumerate" p) [e] [] pos) ρ xs.zipIdx fun q => aTup X.K [aInt (q.2 : Int), P q.1] := fun pl σ H Hc g ev R q => by
  refine tI_of (pi_enum hg hm (pa_cons pe_can pa_nil hs) hs) (h pl σ H Hc g ev _ fun v H1 Hc1 s1 ⟨a, vs, e1, e2, f⟩ => ⟨a, vs, by rw [e1], SqL.of (s1.gd.sub _ _ e2), q _ H1 Hc1 s1 fun i H2 Hc2 sm g2 => ?_⟩)
  have sq : SqL X.K H2 a vs := SqL.of (g2.sub _ _ (sm _ _ e2))
  have hl := f.len
  rw [List.length_map] at hl
  refine ⟨fun Pi hi => ?_, fun h1 h2 => ⟨vs, sq, by rw [List.length_map, List.length_zipIdx] at h1; omega⟩⟩
  rw [List.getElem?_map, List.getElem?_zipIdx] at hi
  cases hx : xs[i]? with
  | none =>
    rw [hx] at hi
    cases hi
  | some x0 =>
    rw [hx] at hi
    have hi' : aTup X.K [aInt ((0 + i : Nat) : Int), P x0] = Pi := Option.some.inj hi
    subst hi'
    obtain ⟨x, hx2, hp⟩ := f.get (i := i) (P := P x0) (by rw [List.getElem?_map, hx]; rfl)
    refine ⟨⟨vs, x, sq, hx2⟩, fun y H3 ⟨T, x', z1, z2, z3, z4⟩ => ?_⟩
    have := z4 vs sq
    rw [hx2] at this
    cases this
    subst z1 z3
    refine ⟨upd Hc2 T (.tup [.int (i : Nat), x]), Stp.alloc g2 z2 _, ?_⟩
    rw [Nat.zero_add]
    exact pair_new g2 z2 rfl ((P x0).mono sm hp)
theorem di_zip (hm : X.mg "zip" = none) (h : De X e ρ (aLst (xs.map P))) (h2 : De X e2 ρ (aLst (ys.map P'))) (hg : Gl X "zip" := by rfl) (hs : starEach [e, e2] X.env = (false, eval e X.env) :: starEach [e2] X.env := by rfl) (hs2 : starEach [e2] X.env = (false, eval e2 X.env) :: starEach [] X.env := by rfl)
    (hpl : (backTo pos (starEach [e2] X.env)).any (·.1) = false := by rfl) : Di X (.Tuple elts kk tpos) (.Call (.Name "zip" p) [e, e2] [] pos) ρ (xs.zip ys) fun q => aTup X.K [P q.1, P' q.2] := fun pl σ H Hc g ev R q => by
  refine tI_of (pi_zip hg hm (pa_cons pe_can (pa_cons pe_can pa_nil hs2) hs) hs hpl) (h pl σ H Hc g ev _ fun v H1 Hc1 s1 ⟨a, vs, e1, e2, f⟩ => h2 pl σ H1 Hc1 s1.gd (ev.mono s1.cl) _ fun u H2 Hc2 s2 ⟨b, us, d1, d2, f'⟩ =>
    ⟨a, b, vs, us, by rw [e1, d1], SqL.of (s2.gd.sub _ _ (s2.cl _ _ e2)), SqL.of (s2.gd.sub _ _ d2), q _ H2 Hc2 (s1.trans s2) fun i H3 Hc3 sm g2 => ?_⟩)
  have sq : SqL X.K H3 a vs := SqL.of (g2.sub _ _ (sm _ _ (s2.cl _ _ e2)))
  have sq' : SqL X.K H3 b us := SqL.of (g2.sub _ _ (sm _ _ d2))
  have hl := f.len
  have hl' := f'.len
  rw [List.length_map] at hl hl'
  refine ⟨fun Pi hi => ?_, fun h1 h2 => ⟨vs, us, sq, sq', by rw [List.length_map, List.length_zip] at h1; omega⟩⟩
  rw [List.getElem?_map] at hi
  cases hx : (xs.zip ys)[i]? with
  | none =>
    rw [hx] at hi
    cases hi
  | some x0 =>
    rw [hx] at hi
    have hi' : aTup X.K [P x0.1, P' x0.2] = Pi := Option.some.inj hi
    subst hi'
    obtain ⟨hx1, hx2⟩ := List.getElem?_zip_eq_some.mp hx
    obtain ⟨x, hx3, hp⟩ := f.get (i := i) (P := P x0.1) (by rw [List.getElem?_map, hx1]; rfl)
    obtain ⟨y, hy3, hp'⟩ := f'.get (i := i) (P := P' x0.2) (by rw [List.getElem?_map, hx2]; rfl)
    refine ⟨⟨vs, us, x, y, sq, sq', hx3, hy3⟩, fun z H4 ⟨T, x', y', z1, z2, z3, z4, z5⟩ => ?_⟩
    have t1 := z4 vs sq
    rw [hx3] at t1
    cases t1
    have t2 := z5 us sq'
    rw [hy3] at t2
    cases t2
    subst z1 z3
    exact ⟨upd Hc3 T (.tup [x, y]), Stp.alloc g2 z2 _, pair_new g2 z2 ((P x0.1).mono (s2.cl.trans sm) hp) ((P' x0.2).mono sm hp')⟩
theorem di_zipT (hm : X.mg "zip" = none) (h : De X e ρ (aTup X.K (xs.map P))) (h2 : De X e2 ρ (aTup X.K (ys.map P'))) (hg : Gl X "zip" := by rfl) (hs : starEach [e, e2] X.env = (false, eval e X.env) :: starEach [e2] X.env := by rfl) (hs2 : starEach [e2] X.env = (false, eval e2 X.env) :: starEach [] X.env := by rfl)
    (hpl : (backTo pos (starEach [e2] X.env)).any (·.1) = false := by rfl) : Di X (.Tuple elts kk tpos) (.Call (.Name "zip" p) [e, e2] [] pos) ρ (xs.zip ys) fun q => aTup X.K [P q.1, P' q.2] := fun pl σ H Hc g ev R q => by
  refine tI_of (RZ.pi_zipA hg hm (pa_cons pe_can (pa_cons pe_can pa_nil hs2) hs) hs hpl) (h pl σ H Hc g ev _ fun v H1 Hc1 s1 ⟨a, vs, e1, e2, f⟩ => h2 pl σ H1 Hc1 s1.gd (ev.mono s1.cl) _ fun u H2 Hc2 s2 ⟨b, us, d1, d2, f'⟩ =>
    ⟨a, b, vs, us, by rw [e1, d1], .inr ⟨same_t s2.gd.sub (same_t s2.cl e2), same_t s2.gd.sub d2, q _ H2 Hc2 (s1.trans s2) fun i H3 Hc3 sm g2 => ?_⟩⟩)
  have sq : SqT X.K H3 a vs := same_t g2.sub (same_t sm (same_t s2.cl e2))
  have sq' : SqT X.K H3 b us := same_t g2.sub (same_t sm d2)
  have hl := f.len
  have hl' := f'.len
  rw [List.length_map] at hl hl'
  refine ⟨fun Pi hi => ?_, fun h1 h2 => ⟨vs, us, sq, sq', by rw [List.length_map, List.length_zip] at h1; omega⟩⟩
  rw [List.getElem?_map] at hi
  cases hx : (xs.zip ys)[i]? with
  | none =>
    rw [hx] at hi
    cases hi
  | some x0 =>
    rw [hx] at hi
    have hi' : aTup X.K [P x0.1, P' x0.2] = Pi := Option.some.inj hi
    subst hi'
    obtain ⟨hx1, hx2⟩ := List.getElem?_zip_eq_some.mp hx
    obtain ⟨x, hx3, hp⟩ := f.get (i := i) (P := P x0.1) (by rw [List.getElem?_map, hx1]; rfl)
    obtain ⟨y, hy3, hp'⟩ := f'.get (i := i) (P := P' x0.2) (by rw [List.getElem?_map, hx2]; rfl)
    refine ⟨⟨vs, us, x, y, sq, sq', hx3, hy3⟩, fun z H4 ⟨T, x', y', z1, z2, z3, z4, z5⟩ => ?_⟩
    have t1 := z4 vs sq
    rw [hx3] at t1
    cases t1
    have t2 := z5 us sq'
    rw [hy3] at t2
    cases t2
    subst z1 z3
    exact ⟨upd Hc3 T (.tup [x, y]), Stp.alloc g2 z2 _, pair_new g2 z2 ((P x0.1).mono (s2.cl.trans sm) hp) ((P' x0.2).mono sm hp')⟩
end

/-! ### targets -/
def tG (X : Cx) (tg : Expr) : TG := fun v σ H Q => ∀ pins s u, Inv X pins σ H s → RelV v u → wpAny (model X.prog X.w) X.A (assign tg X.env u) (fun _ s' => ∃ σ' H', Inv X pins σ' H' s' ∧ Q σ' H') X.xe s
def tGs (X : Cx) (ts : List Expr) : TGs := fun vs σ H Q => ∀ pins s us, Inv X pins σ H s → Vals vs us → wpAny (model X.prog X.w) X.A (assignInOrder ((assignEach ts X.env).map (·.2)) us) (fun _ s' => ∃ σ' H', Inv X pins σ' H' s' ∧ Q σ' H') X.xe s
theorem pg_can {X : Cx} {tg : Expr} : PG X tg (tG X tg) := ⟨fun pins s _ _ _ u _ I r h => h pins s u I r⟩
theorem pgs_can {X : Cx} {ts : List Expr} : PGs X ts (tGs X ts) := ⟨fun pins s _ _ _ us _ I r h => h pins s us I r⟩
theorem tG_of {X : Cx} {tg : Expr} {t : TG} (p : PG X tg t) {v : V} {σ : L2.St} {H : Hp} {Q : L2.St → Hp → Prop} (h : t v σ H Q) : tG X tg v σ H Q := fun pins s u I r => p.run pins s σ H v u Q I r h
theorem tGs_of {X : Cx} {ts : List Expr} {t : TGs} (p : PGs X ts t) {vs : List V} {σ : L2.St} {H : Hp} {Q : L2.St → Hp → Prop} (h : t vs σ H Q) : tGs X ts vs σ H Q := fun pins s us I r => p.run pins s σ H vs us Q I r h
def setAll : L2.St → List Nat → List V → L2.St
  | σ, i :: is, v :: vs => setAll (σ.set i (some v)) is vs
  | σ, _, _ => σ
def setRho : Rho → List Nat → List As → Rho
  | ρ, i :: is, P :: Ps => setRho (ρ.set i (some P)) is Ps
  | ρ, _, _ => ρ
/-- a target: which slots are set, and what holds of them, where P holds of what is stored -/
def Dg (X : Cx) (tg : Expr) (P : As) (is : List Nat) (Ps : List As) : Prop := ∀ pl σ H Hc v, Gd pl H Hc → P.is pl Hc v → ∀ Q : L2.St → Hp → Prop, (∀ vs, Fits pl Hc vs Ps → vs.length = is.length → Q (setAll σ is vs) H) → tG X tg v σ H Q
def DgS (X : Cx) (ts : List Expr) (Ps0 : List As) (is : List Nat) (Ps : List As) : Prop := ∀ pl σ H Hc us, Gd pl H Hc → Fits pl Hc us Ps0 → ∀ Q : L2.St → Hp → Prop, (∀ vs, Fits pl Hc vs Ps → vs.length = is.length → Q (setAll σ is vs) H) → tGs X ts us σ H Q
theorem setAll_app : ∀ {is js : List Nat} {vs us : List V} {σ : L2.St}, vs.length = is.length → setAll σ (is ++ js) (vs ++ us) = setAll (setAll σ is vs) js us
  | [], _, [], _, _, _ => rfl
  | [], _, _ :: _, _, _, h => by cases h
  | _ :: _, _, [], _, _, h => by cases h
  | i :: is, js, v :: vs, us, σ, h => setAll_app (is := is) (vs := vs) (σ := σ.set i (some v)) (by simpa using h)
theorem Fits.app {pl : Option Addr} {H : Hp} : ∀ {vs us : List V} {Ps Qs : List As}, Fits pl H vs Ps → Fits pl H us Qs → Fits pl H (vs ++ us) (Ps ++ Qs)
  | _, _, _, _, .nil, h => h
  | _, _, _, _, .cons a t, h => .cons a (Fits.app t h)
theorem EnvOk.setAll {pl : Option Addr} {H : Hp} : ∀ {is : List Nat} {vs : List V} {Ps : List As} {σ : L2.St} {ρ : Rho}, EnvOk pl H σ ρ → Fits pl H vs Ps → vs.length = is.length → EnvOk pl H (setAll σ is vs) (setRho ρ is Ps)
  | [], _, _, _, _, e, .nil, _ => e
  | [], _, _, _, _, e, .cons _ _, h => by cases h
  | _ :: _, _, _, _, _, e, .nil, h => by cases h
  | i :: is, _, _, _, _, e, .cons a t, h => EnvOk.setAll (is := is) (e.set i a) t (by simpa using h)
section
variable {X : Cx} {P : As} {Ps Qs : List As} {is js : List Nat} {pos : Pos} {t : Expr} {ts : List Expr} {k : Nat}
theorem dg_name (i : Nat) {x : Str} (hN : X.N.Nodup) (hi : X.N[i]? = some x := by rfl) (hx : Loc X.env.scope x := by first | exact Or.inl rfl | exact Or.inr rfl) (hf : X.fn x = true ∨ X.env.scope.names.lookup x = some .local := by first | exact .inl rfl | exact .inr rfl | assumption) : Dg X (.Name x pos) P [i] [P] := fun pl σ H Hc v g h Q q =>
  tG_of (pg_name hN hi hx hf) (q [v] (.cons h .nil) rfl)
theorem dgs_nil : DgS X [] [] [] [] := fun pl σ H Hc us g h Q q => by
  cases h
  exact tGs_of pgs_nil ⟨rfl, q [] .nil rfl⟩
theorem dgs_cons {P0 : As} {Ps0 : List As} (h1 : Dg X t P0 is Ps) (h2 : DgS X ts Ps0 js Qs) (hs : (assignEach (t :: ts) X.env).map (·.2) = assign t X.env :: (assignEach ts X.env).map (·.2) := by rfl) : DgS X (t :: ts) (P0 :: Ps0) (is ++ js) (Ps ++ Qs) := fun pl σ H Hc us g h Q q => by
  cases h with
  | cons a r =>
    refine tGs_of (pgs_cons pg_can pgs_can hs) ⟨_, _, rfl, h1 pl σ H Hc _ g a _ fun vs f l => h2 pl _ H Hc _ g r _ fun vs' f' l' => ?_⟩
    have := q (vs ++ vs') (f.app f') (by rw [List.length_append, List.length_append, l, l'])
    rw [setAll_app l] at this
    exact this
theorem dg_tup {Ps0 : List As} (hc : X.calm = true) (h : DgS X ts Ps0 is Ps) (hn : (assignEach ts X.env).length = Ps0.length := by rfl) (hst : (assignEach ts X.env).findIdx? (·.1) = none := by rfl) : Dg X (.Tuple ts k pos) (aTup X.K Ps0) is Ps := fun pl σ H Hc v g ⟨a, vs, e1, e2, f⟩ Q q =>
  tG_of (pg_tup hc pgs_can hn hst) ⟨a, vs, e1, same_t g.sub e2, f.len, h pl σ H Hc vs g f Q q⟩
/-- two names, three with the latter two in a pair -/
theorem dg_two (i j : Nat) {A B : As} {x y : Str} {p1 p2 : Pos} (hc : X.calm = true) (hN : X.N.Nodup) (hi : X.N[i]? = some x := by rfl) (hx : Loc X.env.scope x := by first | exact Or.inl rfl | exact Or.inr rfl) (hf : X.fn x = true ∨ X.env.scope.names.lookup x = some .local := by first | exact .inl rfl | exact .inr rfl | assumption)
    (hj : X.N[j]? = some y := by rfl) (hy : Loc X.env.scope y := by first | exact Or.inl rfl | exact Or.inr rfl) (hf' : X.fn y = true ∨ X.env.scope.names.lookup y = some .local := by first | exact .inl rfl | exact .inr rfl | assumption)
    (hs : (assignEach [.Name x p1, .Name y p2] X.env).map (·.2) = assign (.Name x p1) X.env :: (assignEach [.Name y p2] X.env).map (·.2) := by rfl) (hs2 : (assignEach [.Name y p2] X.env).map (·.2) = assign (.Name y p2) X.env :: (assignEach [] X.env).map (·.2) := by rfl)
    (hn : (assignEach [.Name x p1, .Name y p2] X.env).length = 2 := by rfl) (hst : (assignEach [.Name x p1, .Name y p2] X.env).findIdx? (·.1) = none := by rfl) : Dg X (.Tuple [.Name x p1, .Name y p2] k pos) (aTup X.K [A, B]) [i, j] [A, B] :=
  dg_tup (Ps0 := [A, B]) hc (dgs_cons (dg_name i hN hi hx hf) (dgs_cons (dg_name j hN hj hy hf') dgs_nil hs2) hs) hn hst
end
end Da
set_option Elab.async false
set_option linter.all false
set_option maxRecDepth 100000
set_option maxHeartbeats 4000000
namespace Da
open PySem PySem.Spec PyProof.Rows L2
/-! ### comprehensions -/
def wipeR : Rho → List Nat → Rho
  | ρ, [] => ρ
  | ρ, v :: vs => (wipeR ρ vs).set v none
theorem EnvOk.wipe {pl : Option Addr} {H : Hp} {σ : L2.St} {ρ : Rho} (e : EnvOk pl H σ ρ) : ∀ vs : List Nat, EnvOk pl H (wipe σ vs) (wipeR ρ vs)
  | [] => e
  | v :: vs => by
    have ih := EnvOk.wipe e vs
    refine ⟨by unfold L2.wipe wipeR; rw [List.length_set, List.length_set, ih.len], fun i P q => ?_⟩
    unfold wipeR at q
    by_cases hi : v = i
    · subst hi
      by_cases hl : v < (wipeR ρ vs).length
      · rw [List.getElem?_set_self hl] at q
        cases q
      · rw [List.getElem?_eq_none (by rw [List.length_set]; omega)] at q
        cases q
    · rw [List.getElem?_set_ne hi] at q
      obtain ⟨x, h1, h2⟩ := ih.at_ i P q
      refine ⟨x, ?_, h2⟩
      unfold L2.wipe
      rw [List.getElem?_set_ne hi]
      exact h1
theorem wipe_in {σ : L2.St} {i : Nat} : ∀ {vs : List Nat}, i ∈ vs → (wipe σ vs)[i]? = if i < σ.length then some none else none
  | [], h => by cases h
  | v :: vs, h => by
    unfold L2.wipe
    by_cases hv : v = i
    · subst hv
      by_cases hl : v < σ.length
      · rw [if_pos hl, List.getElem?_set_self (by rw [wipe_length]; exact hl)]
      · rw [if_neg hl, List.getElem?_eq_none (by rw [List.length_set, wipe_length]; omega)]
    · rw [List.getElem?_set_ne hv]
      exact wipe_in (by
        rcases List.mem_cons.mp h with e | e
        · exact absurd e.symm hv
        · exact e)
theorem wipe_set {σ : L2.St} {i : Nat} {x : Option V} {vs : List Nat} (h : i ∈ vs) : wipe (σ.set i x) vs = wipe σ vs := by
  refine List.ext_getElem? fun j => ?_
  by_cases hj : j ∈ vs
  · rw [wipe_in hj, wipe_in hj, List.length_set]
  · rw [wipe_out hj, wipe_out hj, List.getElem?_set_ne (fun e => hj (by rw [← e]; exact h))]
theorem wipe_wipe {σ : L2.St} {vs : List Nat} : wipe (wipe σ vs) vs = wipe σ vs := by
  refine List.ext_getElem? fun j => ?_
  by_cases hj : j ∈ vs
  · rw [wipe_in hj, wipe_in hj, wipe_length]
  · rw [wipe_out hj]
theorem wipe_setAll : ∀ {is : List Nat} {vs : List V} {σ : L2.St} {ws : List Nat}, (∀ i ∈ is, i ∈ ws) → wipe (setAll σ is vs) ws = wipe σ ws
  | [], _, _, _, _ => by
    unfold setAll
    rfl
  | _ :: _, [], _, _, _ => rfl
  | i :: is, v :: vs, σ, ws, h => by
    show wipe (setAll (σ.set i (some v)) is vs) ws = _
    rw [wipe_setAll fun j hj => h j (List.mem_cons_of_mem _ hj)]
    exact wipe_set (h i (List.mem_cons_self ..))
theorem Stp.mut {pl : Option Addr} {H Hc H1 Hc1 : Hp} {p : Addr} (s : Stp pl H Hc H1 Hc1) (h0 : H p = none) (hc : Hc1 p = none) (hp : pl ≠ some p) (o : HO) : Stp pl H Hc (upd H1 p o) Hc1 where
  keep := fun q u n h => by rw [upd_ne (ne_of_none h h0)]; exact s.keep q u n h
  cl := s.cl
  gd := ⟨fun q u h => by rw [upd_ne (ne_of_none h hc)]; exact s.gd.sub _ _ h, fun q hq => by
    rw [upd_ne (fun e : q = p => hp (e ▸ hq))]
    exact s.gd.pool q hq⟩
  new := s.new
theorem Stp.clean {pl : Option Addr} {H Hc H1 Hc1 : Hp} {p : Addr} {o : HO} (s : Stp pl H Hc H1 Hc1) (h0 : H p = some o) (hc : Hc p = none) (hn : ∀ vs, o ≠ .tup vs := by intro _ h; cases h) : Hc1 p = none := by
  cases e : Hc1 p with
  | none => rfl
  | some u =>
    rcases s.new p u e with z | z | ⟨vs, z⟩
    · rw [hc] at z
      cases z
    · rw [h0] at z
      cases z
    · rw [h0] at z
      cases z
      exact absurd rfl (hn vs)
/-- in the block of a comprehension, wherever it starts -/
abbrev InBlk (X : Cx) (scope : Scope) (G : Cx → Prop) : Prop := ∀ (s : Shared) (H : Hp) (C : Addr) (cl : List (Str × Addr)) (fp : List Addr), G (X.blk s H scope (compEnvC scope cl C X.env) fp)
/-- a clause's tests -/
def tTs (X : Cx) (ifs : List Expr) : TT := fun σ H Q => ∀ pins s, Inv X pins σ H s →
  wpAny (model X.prog X.w) X.A (forIn ifs true fun c r => if r = true then do let ok ← isTrue c X.env (eval c X.env); pure (ForInStep.yield ok) else pure (ForInStep.yield r)) (TP X pins σ Q) X.xe s
def DtS (X : Cx) (ifs : List Expr) (ρ : Rho) (b : Bool) : Prop := ∀ pl σ H Hc, Gd pl H Hc → EnvOk pl Hc σ ρ → ∀ Q : Bool → Hp → Prop, (∀ H' Hc', Stp pl H Hc H' Hc' → Q b H') → tTs X ifs σ H Q
theorem tTs_of {X : Cx} {ifs : List Expr} {t : TT} (p : PTs X ifs t) {σ : L2.St} {H : Hp} {Q : Bool → Hp → Prop} (h : t σ H Q) : tTs X ifs σ H Q := fun pins s I => p.run pins s σ H Q I h
theorem dts_nil {X : Cx} {ρ : Rho} : DtS X [] ρ true := fun _ _ _ _ g _ _ q => tTs_of pts_nil (q _ _ (Stp.refl g))
theorem dts_one {X : Cx} {ρ : Rho} {c : Expr} {b : Bool} (h : Dt X c ρ b) : DtS X [c] ρ b := fun _ _ _ _ g ev _ q => tTs_of (pts_one pt_can) (h _ _ _ _ g ev _ q)
/-- the readings of all blocks at once -/
def gB (X : Cx) (scope : Scope) (tg : Expr) : TG := fun v σ H Q => InBlk X scope fun Y => tG Y tg v σ H Q
def tB' (X : Cx) (scope : Scope) (ifs : List Expr) : TT := fun σ H Q => InBlk X scope fun Y => tTs Y ifs σ H Q
def eB (X : Cx) (scope : Scope) (e : Expr) : TE := fun σ H Q => InBlk X scope fun Y => tE Y e σ H Q
def iB (X : Cx) (scope : Scope) (tg it : Expr) : TI := fun σ H R => InBlk X scope fun Y => tI Y tg it σ H R
section
variable {X : Cx} {ρ : Rho} {pos : Pos} {elt tg it tg1 it1 : Expr} {ifs : List Expr} {scope : Scope} {own : List (Str × Nat)} {α β : Type} {xs : List α} {P : α → As} {is is1 : List Nat} {Ps : α → List As} {b : α → Bool} {F : α → As}
theorem pg_B : InBlk X scope fun Y => PG Y tg (gB X scope tg) := fun s H C cl fp => ⟨fun pins s' σ H' v u Q I r h => h s H C cl fp pins s' u I r⟩
theorem pts_B : InBlk X scope fun Y => PTs Y ifs (tB' X scope ifs) := fun s H C cl fp => ⟨fun pins s' σ H' Q I h => h s H C cl fp pins s' I⟩
theorem pe_B : InBlk X scope fun Y => PE Y elt (eB X scope elt) := fun s H C cl fp => ⟨fun pins s' σ H' Q I h => h s H C cl fp pins s' I⟩
theorem pi_B : InBlk X scope fun Y => PI Y tg it (iB X scope tg it) := fun s H C cl fp => ⟨fun pins s' σ H' R I h => h s H C cl fp pins s' I⟩
theorem take_more {α : Type} : ∀ {l : List α} {i : Nat} {x : α}, l[i]? = some x → l.take (i + 1) = l.take i ++ [x]
  | [], i, x, h => by simp at h
  | a :: l, 0, x, h => by
    have e : a = x := Option.some.inj h
    subst e
    rfl
  | a :: l, i + 1, x, h => congrArg (List.cons a) (take_more (l := l) (i := i) (x := x) h)
/-- the new list while it grows: behind (H1, Hc1) it stands at D, apart, and Ps hold of its items -/
def Grow (pl : Option Addr) (H1 Hc1 : Hp) (D : Addr) (Ps : List As) (H : Hp) : Prop := ∃ Hc acc, Stp pl H1 Hc1 H Hc ∧ H D = some (.lst acc) ∧ Hc D = none ∧ Fits pl Hc acc Ps
theorem Grow.start {pl : Option Addr} {H1 Hc1 : Hp} {D : Addr} (g : Gd pl H1 Hc1) (hD : H1 D = none) : Grow pl H1 Hc1 D [] (upd H1 D (.lst [])) := ⟨Hc1, [], Stp.apart g hD _, upd_same, clean_none g hD, .nil⟩
theorem not_pool {pl : Option Addr} {H Hc : Hp} {p : Addr} (g : Gd pl H Hc) (hp : H p = none) : pl ≠ some p := fun e => by
  obtain ⟨_, a, b, h2, _⟩ := g.pool p e
  rw [hp] at h2
  cases h2
/-- an item more: behind a step from a state in which it grew -/
theorem Grow.more {pl : Option Addr} {H1 Hc1 H Hc H' Hc' : Hp} {D : Addr} {Qs : List As} {R : As} {acc : List V} {y : V} (hD : H1 D = none) (hp : pl ≠ some D) (s : Stp pl H1 Hc1 H Hc) (h1 : H D = some (.lst acc)) (h2 : Hc D = none) (f : Fits pl Hc acc Qs) (s' : Stp pl H Hc H' Hc') (hy : R.is pl Hc' y) :
    H' D = some (.lst acc) ∧ Grow pl H1 Hc1 D (Qs ++ [R]) (upd H' D (.lst (acc ++ [y]))) := by
  have c' := s'.clean h1 h2
  exact ⟨s'.keep D _ hp h1, Hc', acc ++ [y], (s.trans s').mut hD c' hp _, upd_same, c', (f.mono s'.cl).app (.cons hy .nil)⟩
theorem Grow.same {pl : Option Addr} {H1 Hc1 H Hc H' Hc' : Hp} {D : Addr} {Qs : List As} {acc : List V} (hp : pl ≠ some D) (s : Stp pl H1 Hc1 H Hc) (h1 : H D = some (.lst acc)) (h2 : Hc D = none) (f : Fits pl Hc acc Qs) (s' : Stp pl H Hc H' Hc') : Grow pl H1 Hc1 D Qs H' :=
  ⟨Hc', acc, s.trans s', s'.keep D _ hp h1, s'.clean h1 h2, f.mono s'.cl⟩
theorem yesT {σ : L2.St} {H : Hp} {Q : Bool → Hp → Prop} (h : Q true H) : tYes σ H Q := h
theorem small_of {n : Nat} (h : n < 1000000) : n < sizeLine := Nat.lt_of_lt_of_le h (by decide)
theorem lc_read (own : List (Str × Nat)) (hi : Di X tg it ρ xs P) (hg : InBlk X scope fun Y => ∀ x ∈ xs, Dg Y tg (P x) is (Ps x))
    (ht : InBlk X scope fun Y => ∀ x ∈ xs, DtS Y ifs (setRho (wipeR ρ (own.map (·.2))) is (Ps x)) (b x)) (he : InBlk X scope fun Y => ∀ x ∈ xs, b x = true → De Y elt (setRho (wipeR ρ (own.map (·.2))) is (Ps x)) (F x))
    (hz : xs.length < 1000000) (hw : ∀ i ∈ is, i ∈ own.map (·.2)) {pl : Option Addr} {σ : L2.St} {H Hc : Hp} (g : Gd pl H Hc) (ev : EnvOk pl Hc σ ρ) {Q : VK} (q : OutN pl H Hc ((xs.filter b).map F) Q) : tLc (tI X tg it) (gB X scope tg) (tB' X scope ifs) (eB X scope elt) (own.map (·.2)) σ H Q := by
  refine hi pl σ H Hc g ev _ fun J H1 Hc1 s1 y D hD => ?_
  have hp := not_pool s1.gd hD
  refine ⟨fun i m H' => m = xs.length - i ∧ i ≤ xs.length ∧ Grow pl H1 Hc1 D (((xs.take i).filter b).map F) H', ⟨xs.length, by simp, Nat.zero_le _, Grow.start s1.gd hD⟩, ?_⟩
  rintro i m H' ⟨rfl, hle, Hc', acc, s2, hacc, hcD, f⟩
  obtain ⟨y1, y2⟩ := y i H' Hc' s2.cl s2.gd
  have hlen : acc.length ≤ i := by
    rw [f.len, List.length_map]
    exact Nat.le_trans (List.length_filter_le _ _) (by rw [List.length_take]; omega)
  by_cases hlt : i < xs.length
  · have hx : xs[i]? = some xs[i] := by simp [hlt]
    have hm : xs[i] ∈ xs := List.getElem_mem hlt
    obtain ⟨go, yl⟩ := y1 (P xs[i]) (by rw [List.getElem?_map, hx]; rfl)
    refine .inr ⟨go, Grow pl H1 Hc1 D (((xs.take (i + 1)).filter b).map F), fun H2 n2 => ⟨xs.length - (i + 1), by omega, rfl, hlt, n2⟩, fun v H3 hv => ?_⟩
    obtain ⟨Hc3, s3, pv⟩ := yl v H3 hv
    intro a1 a2 a3 a4 a5
    refine hg a1 a2 a3 a4 a5 _ hm pl _ H3 Hc3 v s3.gd pv _ fun vs f3 l3 => ⟨(wipe_setAll hw).trans wipe_wipe, ?_⟩
    have ev3 : EnvOk pl Hc3 (setAll (wipe σ (own.map (·.2))) is vs) (setRho (wipeR ρ (own.map (·.2))) is (Ps xs[i])) := EnvOk.setAll ((ev.mono ((s1.cl.trans s2.cl).trans s3.cl)).wipe _) f3 l3
    intro b1 b2 b3 b4 b5
    refine ht b1 b2 b3 b4 b5 _ hm pl _ H3 Hc3 s3.gd ev3 _ fun H4 Hc4 s4 => ?_
    cases hb : b xs[i] with
    | false =>
      refine iteF ?_
      rw [take_more hx, List.filter_append, List.filter_cons, if_neg (by rw [hb]; decide), List.filter_nil, List.append_nil]
      exact Grow.same hp s2 hacc hcD f (s3.trans s4)
    | true =>
      refine iteT ?_
      intro c1 c2 c3 c4 c5
      refine he c1 c2 c3 c4 c5 _ hm hb pl _ H4 Hc4 s4.gd (ev3.mono s4.cl) _ fun v5 H5 Hc5 s5 hv5 => ?_
      obtain ⟨k1, k2⟩ := Grow.more hD hp s2 hacc hcD f ((s3.trans s4).trans s5) hv5
      refine ⟨acc, k1, small_of (by omega), ?_⟩
      rw [take_more hx, List.filter_append, List.map_append, List.filter_cons, if_pos hb]
      exact k2
  · have e : i = xs.length := by omega
    subst e
    refine .inl ⟨y2 (by rw [List.length_map]; exact Nat.le_refl _) (by rw [List.length_map]), ?_⟩
    rw [List.take_length] at f
    exact q D acc H' Hc' (s1.trans s2) hacc hcD hp (by
      cases e : H D with
      | none => rfl
      | some o =>
        rw [s1.keep D o hp e] at hD
        cases hD) f
theorem dn_lc (own : List (Str × Nat)) (hc : X.calm = true) (hN : X.N.Nodup) (ok : BlkOk X.N X.env.scope scope own) (hi : Di X tg it ρ xs P) (hg : InBlk X scope fun Y => ∀ x ∈ xs, Dg Y tg (P x) is (Ps x))
    (ht : InBlk X scope fun Y => ∀ x ∈ xs, DtS Y ifs (setRho (wipeR ρ (own.map (·.2))) is (Ps x)) (b x)) (he : InBlk X scope fun Y => ∀ x ∈ xs, b x = true → De Y elt (setRho (wipeR ρ (own.map (·.2))) is (Ps x)) (F x))
    (hz : xs.length < 1000000) (hw : ∀ i ∈ is, i ∈ own.map (·.2) := by decide) (hs : ∀ x, foldedSetIterable it X.env x = pure x := by intro _; rfl) : DeN X (.ListComp elt [⟨tg, it, ifs, 0⟩] scope pos) ρ ((xs.filter b).map F) := fun pl σ H Hc g ev Q q =>
  tE_of (pe_lc hc hN pi_can ok pg_B pts_B pe_B hs) (lc_read own hi hg ht he hz hw g ev q)
theorem d_lc (own : List (Str × Nat)) (hc : X.calm = true) (hN : X.N.Nodup) (ok : BlkOk X.N X.env.scope scope own) (hi : Di X tg it ρ xs P) (hg : InBlk X scope fun Y => ∀ x ∈ xs, Dg Y tg (P x) is (Ps x))
    (ht : InBlk X scope fun Y => ∀ x ∈ xs, DtS Y ifs (setRho (wipeR ρ (own.map (·.2))) is (Ps x)) (b x)) (he : InBlk X scope fun Y => ∀ x ∈ xs, b x = true → De Y elt (setRho (wipeR ρ (own.map (·.2))) is (Ps x)) (F x))
    (hz : xs.length < 1000000) (hw : ∀ i ∈ is, i ∈ own.map (·.2) := by decide) (hs : ∀ x, foldedSetIterable it X.env x = pure x := by intro _; rfl) : De X (.ListComp elt [⟨tg, it, ifs, 0⟩] scope pos) ρ (aLst ((xs.filter b).map F)) := (dn_lc own hc hN ok hi hg ht he hz hw hs).de
/-- two clauses without tests -/
theorem lc2_read {ys : α → List β} {P1 : α → β → As} {Ps1 : α → β → List As} {F : α → β → As} (own : List (Str × Nat)) (vs1 : List Nat) (hi : Di X tg it ρ xs P) (hg : InBlk X scope fun Y => ∀ x ∈ xs, Dg Y tg (P x) is (Ps x))
    (hi1 : InBlk X scope fun Y => ∀ x ∈ xs, Di Y tg1 it1 (setRho (wipeR ρ (own.map (·.2))) is (Ps x)) (ys x) (P1 x)) (hg1 : InBlk X scope fun Y => ∀ x ∈ xs, ∀ z ∈ ys x, Dg Y tg1 (P1 x z) is1 (Ps1 x z))
    (he : InBlk X scope fun Y => ∀ x ∈ xs, ∀ z ∈ ys x, De Y elt (setRho (wipeR (setRho (wipeR ρ (own.map (·.2))) is (Ps x)) vs1) is1 (Ps1 x z)) (F x z))
    (hz : (xs.flatMap ys).length < 1000000) (hw : ∀ i ∈ is, i ∈ own.map (·.2)) (hw1 : ∀ i ∈ is1, i ∈ vs1) {pl : Option Addr} {σ : L2.St} {H Hc : Hp} (g : Gd pl H Hc) (ev : EnvOk pl Hc σ ρ) {Q : VK} (q : OutN pl H Hc (xs.flatMap fun x => (ys x).map (F x)) Q) :
    tLc2 (tI X tg it) (gB X scope tg) tYes (iB X scope tg1 it1) (gB X scope tg1) tYes (eB X scope elt) (own.map (·.2)) vs1 σ H Q := by
  refine hi pl σ H Hc g ev _ fun J H1 Hc1 s1 y D hD => ?_
  have hp := not_pool s1.gd hD
  have lenB : ∀ l : List α, (l.flatMap fun x => (ys x).map (F x)).length = (l.flatMap ys).length := fun l => by
    induction l with
    | nil => rfl
    | cons a r ih => rw [List.flatMap_cons, List.flatMap_cons, List.length_append, List.length_append, ih, List.length_map]
  refine ⟨fun i m H' => m = xs.length - i ∧ i ≤ xs.length ∧ Grow pl H1 Hc1 D ((xs.take i).flatMap fun x => (ys x).map (F x)) H', ⟨xs.length, by simp, Nat.zero_le _, Grow.start s1.gd hD⟩, ?_⟩
  rintro i m H' ⟨rfl, hle, Hc', acc, s2, hacc, hcD, f⟩
  obtain ⟨y1, y2⟩ := y i H' Hc' s2.cl s2.gd
  by_cases hlt : i < xs.length
  · have hx : xs[i]? = some xs[i] := by simp [hlt]
    have hm : xs[i] ∈ xs := List.getElem_mem hlt
    obtain ⟨go, yl⟩ := y1 (P xs[i]) (by rw [List.getElem?_map, hx]; rfl)
    refine .inr ⟨go, Grow pl H1 Hc1 D ((xs.take (i + 1)).flatMap fun x => (ys x).map (F x)), fun H2 n2 => ⟨xs.length - (i + 1), by omega, rfl, hlt, n2⟩, fun v H3 hv => ?_⟩
    obtain ⟨Hc3, s3, pv⟩ := yl v H3 hv
    intro a1 a2 a3 a4 a5
    refine hg a1 a2 a3 a4 a5 _ hm pl _ H3 Hc3 v s3.gd pv _ fun vs f3 l3 => ⟨(wipe_setAll hw).trans wipe_wipe, ?_⟩
    refine yesT (iteT ?_)
    have ev3 : EnvOk pl Hc3 (setAll (wipe σ (own.map (·.2))) is vs) (setRho (wipeR ρ (own.map (·.2))) is (Ps xs[i])) := EnvOk.setAll ((ev.mono ((s1.cl.trans s2.cl).trans s3.cl)).wipe _) f3 l3
    intro b1 b2 b3 b4 b5
    refine hi1 b1 b2 b3 b4 b5 _ hm pl _ H3 Hc3 s3.gd ev3 _ fun J1 H4 Hc4 s4 yy => ?_
    have k0 : Grow pl H1 Hc1 D (((xs.take i).flatMap fun x => (ys x).map (F x)) ++ ((ys xs[i]).take 0).map (F xs[i])) H4 := by
      rw [List.take_zero, List.map_nil, List.append_nil]
      exact Grow.same hp s2 hacc hcD f (s3.trans s4)
    refine ⟨fun j k H5 => k = (ys xs[i]).length - j ∧ j ≤ (ys xs[i]).length ∧ Same Hc4 H5 ∧ ∃ Hc5 acc5, Stp pl H1 Hc1 H5 Hc5 ∧ Same Hc4 Hc5 ∧ H5 D = some (.lst acc5) ∧ Hc5 D = none ∧ Fits pl Hc5 acc5 (((xs.take i).flatMap fun x => (ys x).map (F x)) ++ ((ys xs[i]).take j).map (F xs[i])), ⟨(ys xs[i]).length, by simp, Nat.zero_le _, s4.gd.sub, ?_⟩, ?_⟩
    · have s34 := s3.trans s4
      refine ⟨Hc4, acc, s2.trans s34, Same.refl _, s34.keep D _ hp hacc, s34.clean hacc hcD, ?_⟩
      rw [List.take_zero, List.map_nil, List.append_nil]
      exact f.mono s34.cl
    · rintro j k H5 ⟨rfl, hjle, _, Hc5, acc5, s5, sm5, hacc5, hcD5, f5⟩
      obtain ⟨z1, z2⟩ := yy j H5 Hc5 sm5 s5.gd
      by_cases hjlt : j < (ys xs[i]).length
      · have hxj : (ys xs[i])[j]? = some (ys xs[i])[j] := by simp [hjlt]
        have hmj : (ys xs[i])[j] ∈ ys xs[i] := List.getElem_mem hjlt
        obtain ⟨go1, yl1⟩ := z1 (P1 xs[i] (ys xs[i])[j]) (by rw [List.getElem?_map, hxj]; rfl)
        refine .inr ⟨go1, fun H6 => Same Hc4 H6 ∧ ∃ Hc6 acc6, Stp pl H1 Hc1 H6 Hc6 ∧ Same Hc4 Hc6 ∧ H6 D = some (.lst acc6) ∧ Hc6 D = none ∧ Fits pl Hc6 acc6 (((xs.take i).flatMap fun x => (ys x).map (F x)) ++ ((ys xs[i]).take (j + 1)).map (F xs[i])), fun H6 n6 => ⟨(ys xs[i]).length - (j + 1), by omega, rfl, hjlt, n6⟩, fun v6 H6 hv6 => ?_⟩
        obtain ⟨Hc6, s6, pv6⟩ := yl1 v6 H6 hv6
        intro c1 c2 c3 c4 c5
        refine hg1 c1 c2 c3 c4 c5 _ hm _ hmj pl _ H6 Hc6 v6 s6.gd pv6 _ fun vs6 f6 l6 => ⟨(wipe_setAll hw1).trans wipe_wipe, ?_⟩
        refine yesT (iteT ?_)
        have ev6 : EnvOk pl Hc6 (setAll (wipe (setAll (wipe σ (own.map (·.2))) is vs) vs1) is1 vs6) (setRho (wipeR (setRho (wipeR ρ (own.map (·.2))) is (Ps xs[i])) vs1) is1 (Ps1 xs[i] (ys xs[i])[j])) := EnvOk.setAll ((ev3.mono ((s4.cl.trans sm5).trans s6.cl)).wipe _) f6 l6
        intro d1 d2 d3 d4 d5
        refine he d1 d2 d3 d4 d5 _ hm _ hmj pl _ H6 Hc6 s6.gd ev6 _ fun v7 H7 Hc7 s7 hv7 => ?_
        have s67 := s6.trans s7
        have c7 := s67.clean hacc5 hcD5
        refine ⟨acc5, s67.keep D _ hp hacc5, small_of ?_, ?_, ?_⟩
        · rw [f5.len, List.length_append, lenB, List.length_map]
          have e1 : xs.flatMap ys = (xs.take i).flatMap ys ++ (ys xs[i] ++ (xs.drop (i + 1)).flatMap ys) := by
            conv => lhs; rw [← List.take_append_drop i xs]
            rw [List.flatMap_append, List.drop_eq_getElem_cons hlt, List.flatMap_cons]
          rw [e1, List.length_append, List.length_append] at hz
          have := List.length_take_le j (ys xs[i])
          have h8 : ((ys xs[i]).take j).length ≤ (ys xs[i]).length := by rw [List.length_take]; omega
          omega
        · have c4' : Hc4 D = none := by
            cases e : Hc4 D with
            | none => rfl
            | some o =>
              rw [sm5 _ _ e] at hcD5
              cases hcD5
          exact fun q' o' e' => by
            rw [upd_ne (ne_of_none e' c4')]
            exact s7.gd.sub _ _ ((s67.cl) _ _ (sm5 _ _ e'))
        · refine ⟨Hc7, acc5 ++ [v7], (s5.trans s67).mut hD c7 hp _, sm5.trans s67.cl, upd_same, c7, ?_⟩
          rw [take_more hxj, List.map_append, ← List.append_assoc]
          exact (f5.mono s67.cl).app (.cons hv7 .nil)
      · have e : j = (ys xs[i]).length := by omega
        subst e
        refine .inl ⟨z2 (by rw [List.length_map]; exact Nat.le_refl _) (by rw [List.length_map]), ?_⟩
        rw [List.take_length] at f5
        refine ⟨Hc5, acc5, s5, hacc5, hcD5, ?_⟩
        rw [take_more hx, List.flatMap_append, List.flatMap_cons, List.flatMap_nil, List.append_nil]
        exact f5
  · have e : i = xs.length := by omega
    subst e
    refine .inl ⟨y2 (by rw [List.length_map]; exact Nat.le_refl _) (by rw [List.length_map]), ?_⟩
    rw [List.take_length] at f
    exact q D acc H' Hc' (s1.trans s2) hacc hcD hp (by
      cases e : H D with
      | none => rfl
      | some o =>
        rw [s1.keep D o hp e] at hD
        cases hD) f
theorem dn_lc2 {ys : α → List β} {P1 : α → β → As} {Ps1 : α → β → List As} {F : α → β → As} (own : List (Str × Nat)) (vs1 : List Nat) (hc : X.calm = true) (hN : X.N.Nodup) (ok : BlkOk X.N X.env.scope scope own) (hi : Di X tg it ρ xs P) (hg : InBlk X scope fun Y => ∀ x ∈ xs, Dg Y tg (P x) is (Ps x))
    (hi1 : InBlk X scope fun Y => ∀ x ∈ xs, Di Y tg1 it1 (setRho (wipeR ρ (own.map (·.2))) is (Ps x)) (ys x) (P1 x)) (hg1 : InBlk X scope fun Y => ∀ x ∈ xs, ∀ z ∈ ys x, Dg Y tg1 (P1 x z) is1 (Ps1 x z))
    (he : InBlk X scope fun Y => ∀ x ∈ xs, ∀ z ∈ ys x, De Y elt (setRho (wipeR (setRho (wipeR ρ (own.map (·.2))) is (Ps x)) vs1) is1 (Ps1 x z)) (F x z))
    (hz : (xs.flatMap ys).length < 1000000) (hw : ∀ i ∈ is, i ∈ own.map (·.2) := by decide) (hw1 : ∀ i ∈ is1, i ∈ vs1 := by decide) (hv1 : ∀ i ∈ vs1, i ∈ own.map (·.2) := by decide) (hs : ∀ x, foldedSetIterable it X.env x = pure x := by intro _; rfl) (hs1 : ∀ env x, foldedSetIterable it1 env x = pure x := by intro _ _; rfl) :
    DeN X (.ListComp elt [⟨tg, it, [], 0⟩, ⟨tg1, it1, [], 0⟩] scope pos) ρ (xs.flatMap fun x => (ys x).map (F x)) := fun pl σ H Hc g ev Q q =>
  tE_of (pe_lc2 (vs1 := vs1) hc hN pi_can ok hv1 pg_B (fun _ _ _ _ _ => pts_nil) pi_B pg_B (fun _ _ _ _ _ => pts_nil) pe_B hs hs1) (lc2_read own vs1 hi hg hi1 hg1 he hz hw hw1 g ev q)
end
end Da
set_option Elab.async false
set_option linter.all false
set_option maxRecDepth 100000
set_option maxHeartbeats 4000000
namespace Da
open PySem PySem.Spec PyProof.Rows L2
/-! ### calls -/
/-- a def that allocates alone: with arguments as args x says (x with ok) it hands back what res x says -/
def spF {α : Type} (ok : α → Prop) (args : α → List As) (res : α → As) : Sp := fun vs H Q _ => ∃ pl Hc x, Gd pl H Hc ∧ ok x ∧ Fits pl Hc vs (args x) ∧ Out pl H Hc (res x) Q
/-- a global def keeps a promise -/
structure Fok (P : Program) (w : World) (K : PySem.W.Frag) (mg : Str → Option Value) (base : Heap) (k : Nat) (x : Str) (ps : List Str) (sp : Sp) : Prop where
  ex : ∃ fd, FnOk P w K mg base CX0 k (He.ga K x) fd ps sp ∧ Binds K fd ps []
  mg : mg x = some (.ref (He.ga K x))
  kp : PySem.W.keepIn K (.ref (He.ga K x)) = true
theorem Fok.mono {P : Program} {w : World} {K : PySem.W.Frag} {mg : Str → Option Value} {base : Heap} {j k : Nat} {x : Str} {ps : List Str} {sp : Sp} (F : Fok P w K mg base j x ps sp) (h : j ≤ k) : Fok P w K mg base k x ps sp :=
  ⟨let ⟨fd, f, b⟩ := F.ex; ⟨fd, f.mono h, b⟩, F.mg, F.kp⟩
section
variable {X : Cx} {ρ : Rho} {pos p apos cpos : Pos} {P P' R : As} {a b c e o : Expr} {es : List Expr} {Ps Qs : List As} {x : Str} {k : Nat} {ps : List Str}
theorem d_call {α : Type} {ok : α → Prop} {args : α → List As} {res : α → As} (F : Fok X.prog X.w X.K X.mg X.base k x ps (spF ok args res)) (hr : Room k X.A) (y : α) (hy : ok y) (ha : DeA X (e :: es) ρ (args y)) (hg : Gl X x := by rfl)
    (hdb : (x == ("__debug__" : Str)) = false := by decide) (he : starEach (e :: es) X.env = (false, eval e X.env) :: starEach es X.env := by rfl) (hpl : (backTo pos (starEach es X.env)).any (·.1) = false := by rfl) : De X (.Call (.Name x p) (e :: es) [] pos) ρ (res y) := fun pl σ H Hc g ev Q q => by
  obtain ⟨fd, f, hb⟩ := F.ex
  refine tE_of (pe_call f hr hg F.mg F.kp hb .nil pass0 pa_can hdb he hpl) (ha pl σ H Hc g ev _ fun vs H1 Hc1 s1 h1 => ?_)
  show spF ok args res (vs ++ []) H1 Q E0
  rw [List.append_nil]
  exact ⟨pl, Hc1, y, s1.gd, hy, h1, q.step s1⟩
/-- an own object: its attributes by name, in order -/
def aObj (C : Addr) (fs : List (Str × As)) : As := ⟨fun pl H v => ∃ a dx ws, v = .ref a ∧ H a = some (.ins C dx ws) ∧ ws.map Prod.fst = fs.map Prod.fst ∧ Fits pl H (ws.map Prod.snd) (fs.map Prod.snd), fun e ⟨a, dx, ws, h1, h2, h3, h4⟩ => ⟨a, dx, ws, h1, e _ _ h2, h3, h4.mono e⟩⟩
theorem lookup_names : ∀ {ws : List (Str × V)} {fs : List (Str × As)} {m : Str}, ws.map Prod.fst = fs.map Prod.fst → fs.lookup m = none → ws.lookup m = none
  | [], _, _, _, _ => rfl
  | _ :: _, [], _, h, _ => by cases h
  | (x, v) :: ws, (y, P) :: fs, m, h, h2 => by
    have e : x = y := (List.cons.inj h).1
    subst e
    rw [List.lookup_cons] at h2 ⊢
    cases q : m == x with
    | true =>
      rw [q] at h2
      cases h2
    | false =>
      rw [q] at h2
      exact lookup_names (List.cons.inj h).2 h2
theorem lookup_fits {pl : Option Addr} {H : Hp} : ∀ {ws : List (Str × V)} {fs : List (Str × As)} {m : Str} {P : As}, ws.map Prod.fst = fs.map Prod.fst → Fits pl H (ws.map Prod.snd) (fs.map Prod.snd) → fs.lookup m = some P → ∃ v, ws.lookup m = some v ∧ P.is pl H v
  | _, [], _, _, _, _, h => by cases h
  | [], _ :: _, _, _, h, _, _ => by cases h
  | (x, v) :: ws, (y, A) :: fs, m, P, h, f, h2 => by
    have e : x = y := (List.cons.inj h).1
    subst e
    rw [List.lookup_cons] at h2 ⊢
    cases f with
    | cons f1 f2 =>
      cases q : m == x with
      | true =>
        rw [q] at h2
        cases h2
        exact ⟨v, rfl, f1⟩
      | false =>
        rw [q] at h2
        exact lookup_fits (List.cons.inj h).2 f2 h2
/-- o.f -/
theorem d_fld {C : Addr} {fs : List (Str × As)} {f : Str} (cl : Cls X.K C) (na : NoAttr X.K C f) (ho : De X o ρ (aObj C fs)) (hl : fs.lookup f = some P) (hb : attributeBase o f X.env (eval o X.env) = eval o X.env := by rfl) : De X (.Attribute o f pos) ρ P := fun pl σ H Hc g ev Q q =>
  tE_of (pe_fld pe_can hb) (ho pl σ H Hc g ev _ fun v H1 Hc1 s1 ⟨a, dx, ws, h1, h2, h3, h4⟩ => let ⟨v, k1, k2⟩ := lookup_fits h3 h4 hl; ⟨a, C, dx, ws, v, h1, s1.gd.sub _ _ h2, cl, na, k1, q v H1 Hc1 s1 k2⟩)
/-- o.m() -/
structure Mok (P : Program) (w : World) (K : PySem.W.Frag) (mg : Str → Option Value) (base : Heap) (k : Nat) (C : Addr) (m : Str) (sp : Sp) : Prop where
  ex : ∃ f fd, Meth K C m f ∧ FnOk P w K mg base CX0 k f fd ["self"] sp ∧ Binds K fd ["self"] []
theorem d_meth0 {α : Type} {ok : α → Prop} {args : α → List As} {res : α → As} {C : Addr} {fs : List (Str × As)} {m : Str} {pl0 : Sem Bool} (M : Mok X.prog X.w X.K X.mg X.base k C m (spF ok args res)) (cl : Cls X.K C) (hr : Room k X.A) (y : α) (hy : ok y) (ho : De X o ρ (aObj C fs)) (hargs : args y = [aObj C fs]) (hm : fs.lookup m = none)
    (ht : eval (.Call (.Attribute o m apos) [] [] pos) X.env = (do
      let ov ← eval o X.env
      standAt apos.atName
      let (f, first) ← holding [ov] (getMethod ov m pl0)
      callWith pos f first (backTo pos (starEach [] X.env)) (backToKw pos (keywordEach [] X.env))) := by rfl) : De X (.Call (.Attribute o m apos) [] [] pos) ρ (res y) := fun pl σ H Hc g ev Q q => by
  obtain ⟨f, fd, me, F, B⟩ := M.ex
  refine tE_of (pe_meth0 (pl := pl0) pe_can cl me F hr B .nil pass0 ht) (ho pl σ H Hc g ev _ fun v H1 Hc1 s1 h0 => ?_)
  obtain ⟨a, dx, ws, h1, h2, h3, h4⟩ := id h0
  refine ⟨a, dx, ws, h1, s1.gd.sub _ _ h2, lookup_names h3 hm, ?_⟩
  refine ⟨pl, Hc1, y, s1.gd, hy, ?_, q.step s1⟩
  rw [hargs]
  exact .cons h0 .nil

/-! ### subscripts -/
theorem d_ix {r : R2} (ho : IxR X r) (hr : OpD r P P' R) (ha : De X a ρ P) (hb : De X b ρ P') (hs : PlainIx b := by exact fun _ _ => rfl) : De X (.Subscript a b pos) ρ R := fun _ _ _ _ g ev _ q => tE_of (pe_ix ho pe_can pe_can hs) (op_run hr ha hb g ev q)
theorem opd_ixL {K : PySem.W.Frag} {i : Nat} (h : Ps[i]? = some P) : OpD (rIxL K) (aLst Ps) (aInt (i : Int)) P := fun pl H Hc x y g ⟨p, vs, h1, h2, f⟩ hy Q q => by
  obtain ⟨v, k1, k2⟩ := f.get h
  exact ⟨p, vs, (i : Int), v, h1, hy, SqL.of (g.sub _ _ h2), atI_nat k1, q.here g k2⟩
theorem opd_ixT {K : PySem.W.Frag} {i : Nat} (h : Ps[i]? = some P) : OpD (rIxT K) (aTup K Ps) (aInt (i : Int)) P := fun pl H Hc x y g ⟨p, vs, h1, h2, f⟩ hy Q q => by
  obtain ⟨v, k1, k2⟩ := f.get h
  exact ⟨p, vs, (i : Int), v, h1, hy, same_t g.sub h2, atI_nat k1, q.here g k2⟩
theorem d_ixL (i : Nat) {P : As} (ha : De X a ρ (aLst Ps)) (hb : De X b ρ (aInt (i : Int))) (h : Ps[i]? = some P := by rfl) (hs : PlainIx b := by exact fun _ _ => rfl) : De X (.Subscript a b pos) ρ P := d_ix ix_list (opd_ixL h) ha hb hs
theorem d_ixT (i : Nat) {P : As} (ha : De X a ρ (aTup X.K Ps)) (hb : De X b ρ (aInt (i : Int))) (h : Ps[i]? = some P := by rfl) (hs : PlainIx b := by exact fun _ _ => rfl) : De X (.Subscript a b pos) ρ P := d_ix ix_tup (opd_ixT h) ha hb hs
/-- by a drawn place -/
theorem d_ixLx {α : Type} {c : α → Prop} {n : α → Nat} {R : α → As} (ha : De X a ρ (aLst Ps)) (hb : De X b ρ (aEx c fun z => aInt (n z : Int))) (h : ∀ z, c z → Ps[n z]? = some (R z)) (hs : PlainIx b := by exact fun _ _ => rfl) : De X (.Subscript a b pos) ρ (aEx c R) := d_ix ix_list (opd_exR fun z hz => opd_ixL (h z hz)) ha hb hs
theorem cut_take {α : Type} (xs : List α) (n : Nat) : (xs.drop 0).take (min n xs.length - 0) = xs.take n := by
  rw [List.drop_zero, Nat.sub_zero]
  by_cases h : n ≤ xs.length
  · rw [Nat.min_eq_left h]
  · rw [Nat.min_eq_right (by omega), List.take_length, List.take_of_length_le (by omega)]
theorem Fits.take {pl : Option Addr} {H : Hp} : ∀ {vs : List V} {Ps : List As} (n : Nat), Fits pl H vs Ps → Fits pl H (vs.take n) (Ps.take n)
  | _, _, 0, _ => by rw [List.take_zero, List.take_zero]; exact .nil
  | _, _, _ + 1, .nil => .nil
  | _, _, n + 1, .cons h t => .cons h (Fits.take n t)
theorem Fits.drop {pl : Option Addr} {H : Hp} : ∀ {vs : List V} {Ps : List As} (n : Nat), Fits pl H vs Ps → Fits pl H (vs.drop n) (Ps.drop n)
  | _, _, 0, h => h
  | _, _, _ + 1, .nil => .nil
  | _, _, n + 1, .cons h t => Fits.drop n t
/-- xs[:n], a list's -/
theorem dn_slTake {p2 : Pos} (n : Nat) (ha : De X a ρ (aLst Ps)) (hb : De X b ρ (aInt (n : Int))) : DeN X (.Subscript a (.Slice none (some b) none p2) pos) ρ (Ps.take n) := fun pl σ H Hc g ev Q q =>
  tE_of (pe_slice sl_list pe_can po_none (po_some pe_can)) (ha pl σ H Hc g ev _ fun v H1 Hc1 s1 ⟨d, vs, h1, h2, f⟩ => hb pl σ H1 Hc1 s1.gd (ev.mono s1.cl) _ fun u H2 Hc2 s2 hu => ⟨(n : Int), hu, d, vs, h1, SqL.of (s2.gd.sub _ _ (s2.cl _ _ h2)), fun p hp => by
    have e : cutV vs none (some (n : Int)) = vs.take n := by
      unfold cutV
      rw [HT.sIx_none, HT.sIx_nat]
      exact cut_take vs n
    rw [e]
    exact ((q.step s1).step s2).new s2.gd hp ((f.mono s2.cl).take n)⟩)
/-- t[:n], a tuple's -/
theorem d_slTakeT {p2 : Pos} (n : Nat) (ha : De X a ρ (aTup X.K Ps)) (hb : De X b ρ (aInt (n : Int))) : De X (.Subscript a (.Slice none (some b) none p2) pos) ρ (aTup X.K (Ps.take n)) := fun pl σ H Hc g ev Q q =>
  tE_of (pe_slice sl_tupA pe_can po_none (po_some pe_can)) (ha pl σ H Hc g ev _ fun v H1 Hc1 s1 ⟨d, vs, h1, h2, f⟩ => hb pl σ H1 Hc1 s1.gd (ev.mono s1.cl) _ fun u H2 Hc2 s2 hu => by
    have e : cutV vs none (some (n : Int)) = vs.take n := by
      unfold cutV
      rw [HT.sIx_none, HT.sIx_nat]
      exact cut_take vs n
    refine ⟨(n : Int), hu, d, vs, h1, same_t s2.gd.sub (same_t s2.cl h2), fun ⟨_, hw⟩ => ?_, fun _ p hp => ?_⟩
    · rw [HT.sIx_nat] at hw
      have hn : vs.length ≤ n := by omega
      refine q (.ref d) H2 Hc2 (s1.trans s2) ⟨d, vs, rfl, same_t s2.cl h2, ?_⟩
      rw [List.take_of_length_le (by rw [← f.len]; exact hn)]
      exact f.mono s2.cl
    · rw [e]
      exact ((q.step s1).step s2).new s2.gd hp ⟨p, _, rfl, SqT.of upd_same, ((f.mono s2.cl).take n).mono (same_new (clean_none s2.gd hp))⟩)
/-- t[1:], a tuple's -/
theorem d_slDrop1 {p2 p3 : Pos} {j} (ha : De X a ρ (aTup X.K Ps)) : De X (.Subscript a (.Slice (some (.Constant (.int 1) j p3)) none none p2) pos) ρ (aTup X.K (Ps.drop 1)) := fun pl σ H Hc g ev Q q =>
  tE_of (pe_slice sl_tupA pe_can (po_some pe_int) po_none) (ha pl σ H Hc g ev _ fun v H1 Hc1 s1 ⟨d, vs, h1, h2, f⟩ => by
    have e : cutV vs (some 1) none = vs.drop 1 := by
      unfold cutV
      rw [HT.sIx_none, show (1 : Int) = ((1 : Nat) : Int) from rfl, HT.sIx_nat]
      cases vs with
      | nil => rfl
      | cons y r =>
        rw [List.length_cons, Nat.min_eq_left (by omega)]
        exact List.take_of_length_le (by rw [List.length_drop, List.length_cons]; omega)
    refine ⟨1, rfl, d, vs, h1, same_t s1.gd.sub h2, fun ⟨hw, _⟩ => ?_, fun _ p hp => ?_⟩
    · rw [show (1 : Int) = ((1 : Nat) : Int) from rfl, HT.sIx_nat] at hw
      have hn : vs = [] := List.eq_nil_of_length_eq_zero (by omega)
      subst hn
      have hp : Ps = [] := by
        have := f.len
        exact List.eq_nil_of_length_eq_zero (by simpa using this.symm)
      subst hp
      exact q (.ref d) H1 Hc1 s1 ⟨d, [], rfl, h2, .nil⟩
    · rw [e]
      exact (q.step s1).new s1.gd hp ⟨p, _, rfl, SqT.of upd_same, (f.drop 1).mono (same_new (clean_none s1.gd hp))⟩)

/-! ### built-ins by values -/
def CD (r : List V → Hp → VK → Prop) (Ps : List As) (R : As) : Prop := ∀ pl H Hc vs, Gd pl H Hc → Fits pl Hc vs Ps → ∀ Q : VK, Out pl H Hc R Q → r vs H Q
def CDN (r : List V → Hp → VK → Prop) (Ps Qs : List As) : Prop := ∀ pl H Hc vs, Gd pl H Hc → Fits pl Hc vs Ps → ∀ Q : VK, OutN pl H Hc Qs Q → r vs H Q
theorem CDN.cd {r : List V → Hp → VK → Prop} (h : CDN r Ps Qs) : CD r Ps (aLst Qs) := fun pl H Hc vs g f Q q => h pl H Hc vs g f Q q.ofN
theorem d_cb {id : String} {r : List V → Hp → VK → Prop} (hc : CallR X (.builtin id) r) (hd : CD r Ps R) (hm : X.mg x = none) (ha : DeA X (e :: es) ρ Ps) (hv : bootBuiltins x = some (.builtin id) := by decide +kernel) (hg : Gl X x := by rfl) (hn : x ≠ "__name__" := by decide) (hdb : (x == ("__debug__" : Str)) = false := by decide)
    (he : starEach (e :: es) X.env = (false, eval e X.env) :: starEach es X.env := by rfl) (hpl : (backTo pos (starEach es X.env)).any (·.1) = false := by rfl) : De X (.Call (.Name x p) (e :: es) [] pos) ρ R := fun pl σ H Hc g ev Q q =>
  tE_of (pe_callB hc hg hm hv pa_can hn hdb he hpl) (ha pl σ H Hc g ev _ fun vs H1 Hc1 s1 h1 => hd pl H1 Hc1 vs s1.gd h1 Q (q.step s1))
theorem d_ct {T : String} {r : List V → Hp → VK → Prop} (hc : CallR X (.type T) r) (hd : CD r Ps R) (hm : X.mg x = none) (ha : DeA X (e :: es) ρ Ps) (hv : bootBuiltins x = some (.type T) := by decide +kernel) (hg : Gl X x := by rfl) (hn : x ≠ "__name__" := by decide) (hdb : (x == ("__debug__" : Str)) = false := by decide)
    (he : starEach (e :: es) X.env = (false, eval e X.env) :: starEach es X.env := by rfl) (hpl : (backTo pos (starEach es X.env)).any (·.1) = false := by rfl) : De X (.Call (.Name x p) (e :: es) [] pos) ρ R := fun pl σ H Hc g ev Q q =>
  tE_of (pe_callTy hc hg hm hv pa_can hn hdb he hpl) (ha pl σ H Hc g ev _ fun vs H1 Hc1 s1 h1 => hd pl H1 Hc1 vs s1.gd h1 Q (q.step s1))
theorem dn_ct {T : String} {r : List V → Hp → VK → Prop} (hc : CallR X (.type T) r) (hd : CDN r Ps Qs) (hm : X.mg x = none) (ha : DeA X (e :: es) ρ Ps) (hv : bootBuiltins x = some (.type T) := by decide +kernel) (hg : Gl X x := by rfl) (hn : x ≠ "__name__" := by decide) (hdb : (x == ("__debug__" : Str)) = false := by decide)
    (he : starEach (e :: es) X.env = (false, eval e X.env) :: starEach es X.env := by rfl) (hpl : (backTo pos (starEach es X.env)).any (·.1) = false := by rfl) : DeN X (.Call (.Name x p) (e :: es) [] pos) ρ Qs := fun pl σ H Hc g ev Q q =>
  tE_of (pe_callTy hc hg hm hv pa_can hn hdb he hpl) (ha pl σ H Hc g ev _ fun vs H1 Hc1 s1 h1 => hd pl H1 Hc1 vs s1.gd h1 Q (q.step s1))
theorem dn_cb {id : String} {r : List V → Hp → VK → Prop} (hc : CallR X (.builtin id) r) (hd : CDN r Ps Qs) (hm : X.mg x = none) (ha : DeA X (e :: es) ρ Ps) (hv : bootBuiltins x = some (.builtin id) := by decide +kernel) (hg : Gl X x := by rfl) (hn : x ≠ "__name__" := by decide) (hdb : (x == ("__debug__" : Str)) = false := by decide)
    (he : starEach (e :: es) X.env = (false, eval e X.env) :: starEach es X.env := by rfl) (hpl : (backTo pos (starEach es X.env)).any (·.1) = false := by rfl) : DeN X (.Call (.Name x p) (e :: es) [] pos) ρ Qs := fun pl σ H Hc g ev Q q =>
  tE_of (pe_callB hc hg hm hv pa_can hn hdb he hpl) (ha pl σ H Hc g ev _ fun vs H1 Hc1 s1 h1 => hd pl H1 Hc1 vs s1.gd h1 Q (q.step s1))
theorem one {pl : Option Addr} {H : Hp} {vs : List V} (f : Fits pl H vs [P]) : ∃ v, vs = [v] ∧ P.is pl H v := by
  cases f with
  | cons h t =>
    cases t
    exact ⟨_, rfl, h⟩
theorem two {pl : Option Addr} {H : Hp} {vs : List V} (f : Fits pl H vs [P, P']) : ∃ v u, vs = [v, u] ∧ P.is pl H v ∧ P'.is pl H u := by
  cases f with
  | cons h t =>
    obtain ⟨u, e, hu⟩ := one t
    subst e
    exact ⟨_, _, rfl, h, hu⟩
theorem fits_map {α : Type} {f : α → V} {pl : Option Addr} {H : Hp} : ∀ {xs : List α} {vs : List V}, Fits pl H vs (xs.map fun y => aV (f y)) → vs = xs.map f
  | [], _, .nil => rfl
  | y :: ys, _, .cons h t => by
    rw [fits_map t]
    exact congrArg (· :: ys.map f) h
theorem fits_of {α : Type} {f : α → V} {pl : Option Addr} {H : Hp} : ∀ (xs : List α), Fits pl H (xs.map f) (xs.map fun y => aV (f y))
  | [] => .nil
  | y :: ys => .cons rfl (fits_of ys)
theorem d_lenL (hm : X.mg "len" = none) (h : De X e ρ (aLst Ps)) (hs : starEach (e :: []) X.env = (false, eval e X.env) :: starEach [] X.env := by rfl) (hg : Gl X "len" := by rfl) : De X (.Call (.Name "len" p) [e] [] pos) ρ (aInt (Ps.length : Int)) :=
  d_cb call_len_seq (fun pl H Hc vs g f Q q => by
    obtain ⟨v, e1, a, ws, h1, h2, f2⟩ := one f
    subst e1 h1
    refine ⟨a, ws, rfl, .inl (SqL.of (g.sub _ _ h2)), ?_⟩
    rw [f2.len]
    exact q.here g rfl) hm (da1 h hs) PySem.boot_len hg (by decide) (by decide) hs rfl
theorem d_lenT (hm : X.mg "len" = none) (h : De X e ρ (aTup X.K Ps)) (hs : starEach (e :: []) X.env = (false, eval e X.env) :: starEach [] X.env := by rfl) (hg : Gl X "len" := by rfl) : De X (.Call (.Name "len" p) [e] [] pos) ρ (aInt (Ps.length : Int)) :=
  d_cb call_len_seq (fun pl H Hc vs g f Q q => by
    obtain ⟨v, e1, a, ws, h1, h2, f2⟩ := one f
    subst e1 h1
    refine ⟨a, ws, rfl, .inr (same_t g.sub h2), ?_⟩
    rw [f2.len]
    exact q.here g rfl) hm (da1 h hs) PySem.boot_len hg (by decide) (by decide) hs rfl
theorem d_lenS {z : Str} (hm : X.mg "len" = none) (h : De X e ρ (aStr z)) (hz : z.length ≤ sizeLine) (hs : starEach (e :: []) X.env = (false, eval e X.env) :: starEach [] X.env := by rfl) (hg : Gl X "len" := by rfl) : De X (.Call (.Name "len" p) [e] [] pos) ρ (aInt (z.length : Int)) :=
  d_cb call_len_str (fun pl H Hc vs g f Q q => by
    obtain ⟨v, e1, h1⟩ := one f
    subst e1
    exact ⟨z, by rw [show v = V.str z from h1], hz, q.here g rfl⟩) hm (da1 h hs) PySem.boot_len hg (by decide) (by decide) hs rfl
theorem d_all {bs : List Bool} (hc : X.calm = true) (hm : X.mg "all" = none) (h : De X e ρ (aLst (bs.map aBl))) (hs : starEach (e :: []) X.env = (false, eval e X.env) :: starEach [] X.env := by rfl) (hg : Gl X "all" := by rfl) : De X (.Call (.Name "all" p) [e] [] pos) ρ (aBl (bs.all id)) :=
  d_cb (cr_all hc) (fun pl H Hc vs g f Q q => by
    obtain ⟨v, e1, a, ws, h1, h2, f2⟩ := one f
    subst e1 h1
    have e2 := fits_map (f := V.bl) f2
    subst e2
    exact ⟨a, bs, rfl, SqL.of (g.sub _ _ h2), q.here g rfl⟩) hm (da1 h hs) (by decide +kernel) hg (by decide) (by decide) hs rfl
theorem d_any {bs : List Bool} (hc : X.calm = true) (hm : X.mg "any" = none) (h : De X e ρ (aLst (bs.map aBl))) (hs : starEach (e :: []) X.env = (false, eval e X.env) :: starEach [] X.env := by rfl) (hg : Gl X "any" := by rfl) : De X (.Call (.Name "any" p) [e] [] pos) ρ (aBl (bs.any id)) :=
  d_cb (cr_any hc) (fun pl H Hc vs g f Q q => by
    obtain ⟨v, e1, a, ws, h1, h2, f2⟩ := one f
    subst e1 h1
    have e2 := fits_map (f := V.bl) f2
    subst e2
    exact ⟨a, bs, rfl, SqL.of (g.sub _ _ h2), q.here g rfl⟩) hm (da1 h hs) (by decide +kernel) hg (by decide) (by decide) hs rfl
/-- list(xs), list(t) -/
theorem dn_listL (hm : X.mg "list" = none) (h : De X e ρ (aLst Ps)) (hs : starEach (e :: []) X.env = (false, eval e X.env) :: starEach [] X.env := by rfl) (hg : Gl X "list" := by rfl) : DeN X (.Call (.Name "list" p) [e] [] pos) ρ Ps :=
  dn_ct call_list_of (fun pl H Hc vs g f Q q => by
    obtain ⟨v, e1, a, ws, h1, h2, f2⟩ := one f
    subst e1 h1
    exact ⟨a, ws, rfl, .inl (SqL.of (g.sub _ _ h2)), fun l hl => q.new g hl f2⟩) hm (da1 h hs) (by decide +kernel) hg (by decide) (by decide) hs rfl
theorem dn_listT (hm : X.mg "list" = none) (h : De X e ρ (aTup X.K Ps)) (hs : starEach (e :: []) X.env = (false, eval e X.env) :: starEach [] X.env := by rfl) (hg : Gl X "list" := by rfl) : DeN X (.Call (.Name "list" p) [e] [] pos) ρ Ps :=
  dn_ct call_list_of (fun pl H Hc vs g f Q q => by
    obtain ⟨v, e1, a, ws, h1, h2, f2⟩ := one f
    subst e1 h1
    exact ⟨a, ws, rfl, .inr (same_t g.sub h2), fun l hl => q.new g hl f2⟩) hm (da1 h hs) (by decide +kernel) hg (by decide) (by decide) hs rfl
/-- tuple(xs) of a list -/
theorem d_tupleL (hm : X.mg "tuple" = none) (h : De X e ρ (aLst Ps)) (hs : starEach (e :: []) X.env = (false, eval e X.env) :: starEach [] X.env := by rfl) (hg : Gl X "tuple" := by rfl) : De X (.Call (.Name "tuple" p) [e] [] pos) ρ (aTup X.K Ps) :=
  d_ct call_tuple_of (fun pl H Hc vs g f Q q => by
    obtain ⟨v, e1, a, ws, h1, h2, f2⟩ := one f
    subst e1 h1
    exact ⟨a, ws, rfl, .inl ⟨SqL.of (g.sub _ _ h2), fun l hl => q.new g hl ⟨l, ws, rfl, SqT.of upd_same, f2.mono (same_new (clean_none g hl))⟩⟩⟩) hm (da1 h hs) (by decide +kernel) hg (by decide) (by decide) hs rfl
theorem d_sum {ns : List Int} (hc : X.calm = true) (hm : X.mg "sum" = none) (h : De X e ρ (aLst (ns.map aInt))) (hs : starEach (e :: []) X.env = (false, eval e X.env) :: starEach [] X.env := by rfl) (hg : Gl X "sum" := by rfl) : De X (.Call (.Name "sum" p) [e] [] pos) ρ (aInt ns.sum) :=
  d_cb (cr_sum hc) (fun pl H Hc vs g f Q q => by
    obtain ⟨v, e1, a, ws, h1, h2, f2⟩ := one f
    subst e1 h1
    have e2 := fits_map (f := V.int) f2
    subst e2
    exact ⟨a, ns, rfl, SqL.of (g.sub _ _ h2), q.here g rfl⟩) hm (da1 h hs) (by decide +kernel) hg (by decide) (by decide) hs rfl
/-- max, min of one list: the one that is in it and has none above, below -/
theorem d_maxL {ns : List Int} {m : Int} (hc : X.calm = true) (hm : X.mg "max" = none) (h : De X e ρ (aLst (ns.map aInt))) (h0 : 0 < ns.length) (hu : ∀ k, k ∈ ns → (∀ y, y ∈ ns → y ≤ k) → k = m) (hs : starEach (e :: []) X.env = (false, eval e X.env) :: starEach [] X.env := by rfl) (hg : Gl X "max" := by rfl) : De X (.Call (.Name "max" p) [e] [] pos) ρ (aInt m) :=
  d_cb (cr_max hc) (fun pl H Hc vs g f Q q => by
    obtain ⟨v, e1, a, ws, h1, h2, f2⟩ := one f
    subst e1 h1
    have e2 := fits_map (f := V.int) f2
    subst e2
    exact ⟨a, ns, rfl, SqL.of (g.sub _ _ h2), h0, fun k k1 k2 => by rw [hu k k1 k2]; exact q.here g rfl⟩) hm (da1 h hs) (by decide +kernel) hg (by decide) (by decide) hs rfl
theorem d_minL {ns : List Int} {m : Int} (hc : X.calm = true) (hm : X.mg "min" = none) (h : De X e ρ (aLst (ns.map aInt))) (h0 : 0 < ns.length) (hu : ∀ k, k ∈ ns → (∀ y, y ∈ ns → k ≤ y) → k = m) (hs : starEach (e :: []) X.env = (false, eval e X.env) :: starEach [] X.env := by rfl) (hg : Gl X "min" := by rfl) : De X (.Call (.Name "min" p) [e] [] pos) ρ (aInt m) :=
  d_cb (cr_min hc) (fun pl H Hc vs g f Q q => by
    obtain ⟨v, e1, a, ws, h1, h2, f2⟩ := one f
    subst e1 h1
    have e2 := fits_map (f := V.int) f2
    subst e2
    exact ⟨a, ns, rfl, SqL.of (g.sub _ _ h2), h0, fun k k1 k2 => by rw [hu k k1 k2]; exact q.here g rfl⟩) hm (da1 h hs) (by decide +kernel) hg (by decide) (by decide) hs rfl
theorem da2 (ha : De X a ρ P) (hb : De X b ρ P') (hs : starEach (a :: [b]) X.env = (false, eval a X.env) :: starEach [b] X.env := by rfl) (hs2 : starEach (b :: []) X.env = (false, eval b X.env) :: starEach [] X.env := by rfl) : DeA X [a, b] ρ [P, P'] := da_cons ha (da1 hb hs2) hs
theorem d_min2 {i j : Int} (hc : X.calm = true) (hm : X.mg "min" = none) (ha : De X a ρ (aInt i)) (hb : De X b ρ (aInt j)) (hs : starEach (a :: [b]) X.env = (false, eval a X.env) :: starEach [b] X.env := by rfl) (hs2 : starEach (b :: []) X.env = (false, eval b X.env) :: starEach [] X.env := by rfl) (hpl : (backTo pos (starEach [b] X.env)).any (·.1) = false := by rfl) (hg : Gl X "min" := by rfl) : De X (.Call (.Name "min" p) [a, b] [] pos) ρ (aInt (min i j)) :=
  d_cb (call_min2 hc) (fun pl H Hc vs g f Q q => by
    obtain ⟨v, u, e1, h1, h2⟩ := two f
    subst e1
    exact ⟨i, j, by rw [show v = V.int i from h1, show u = V.int j from h2], by
      have e : (if j < i then j else i) = min i j := by rw [Int.min_def]; split <;> split <;> omega
      rw [e]
      exact q.here g rfl⟩) hm (da2 ha hb hs hs2) (by decide +kernel) hg (by decide) (by decide) hs hpl
theorem d_max2 {i j : Int} (hc : X.calm = true) (hm : X.mg "max" = none) (ha : De X a ρ (aInt i)) (hb : De X b ρ (aInt j)) (hs : starEach (a :: [b]) X.env = (false, eval a X.env) :: starEach [b] X.env := by rfl) (hs2 : starEach (b :: []) X.env = (false, eval b X.env) :: starEach [] X.env := by rfl) (hpl : (backTo pos (starEach [b] X.env)).any (·.1) = false := by rfl) (hg : Gl X "max" := by rfl) : De X (.Call (.Name "max" p) [a, b] [] pos) ρ (aInt (max i j)) :=
  d_cb (call_max2 hc) (fun pl H Hc vs g f Q q => by
    obtain ⟨v, u, e1, h1, h2⟩ := two f
    subst e1
    exact ⟨i, j, by rw [show v = V.int i from h1, show u = V.int j from h2], by
      have e : (if j > i then j else i) = max i j := by rw [Int.max_def]; split <;> split <;> omega
      rw [e]
      exact q.here g rfl⟩) hm (da2 ha hb hs hs2) (by decide +kernel) hg (by decide) (by decide) hs hpl
/-- isinstance(v, T): T a built-in type (or an own class) -/
def IsTy (K : PySem.W.Frag) (P : As) (t : Value) : Prop := ∀ pl H v, P.is pl H v → TyX K H v t
theorem d_isi {t u : Value} {cv : V} {k : Bool} (hm : X.mg "isinstance" = none) (ha : De X a ρ P) (hb : De X b ρ (aV cv)) (hc : ClsV cv u) (hty : IsTy X.K P t) (hk : PySem.W.kitOne X.K t u = some k) (hs : starEach (a :: [b]) X.env = (false, eval a X.env) :: starEach [b] X.env := by rfl) (hs2 : starEach (b :: []) X.env = (false, eval b X.env) :: starEach [] X.env := by rfl) (hpl : (backTo pos (starEach [b] X.env)).any (·.1) = false := by rfl) (hg : Gl X "isinstance" := by rfl) :
    De X (.Call (.Name "isinstance" p) [a, b] [] pos) ρ (aBl k) :=
  d_cb call_isi (fun pl H Hc vs g f Q q => by
    obtain ⟨v, z, e1, h1, h2⟩ := two f
    subst e1
    have e2 : z = cv := h2
    subst e2
    exact ⟨v, z, t, u, k, rfl, hc, hty pl H v (P.mono g.sub h1), hk, q.here g rfl⟩) hm (da2 ha hb hs hs2) (by decide +kernel) hg (by decide) (by decide) hs hpl
theorem ist_int {K : PySem.W.Frag} {i : Int} : IsTy K (aInt i) (.type "int") := fun _ _ v h => by
  have e : v = V.int i := h
  subst e
  exact .base (.int i)
theorem ist_str {K : PySem.W.Frag} {z : Str} : IsTy K (aStr z) (.type "str") := fun _ _ v h => by
  have e : v = V.str z := h
  subst e
  exact .base (.str z)
theorem ist_lst {K : PySem.W.Frag} : IsTy K (aLst Ps) (.type "list") := fun _ H v ⟨a, ws, h1, h2, _⟩ => by
  subst h1
  exact .base (.lst h2)
theorem ist_tup {K : PySem.W.Frag} : IsTy K (aTup K Ps) (.type "tuple") := fun _ H v ⟨a, ws, h1, h2, _⟩ => by
  subst h1
  rcases h2 with (h | ⟨o, h⟩) | ⟨o, its, n, h, hc, _⟩
  · exact .base (.tup h)
  · exact .fTuple h
  · exact .kTuple h hc
theorem ist_obj {K : PySem.W.Frag} {C : Addr} {fs : List (Str × As)} (c : C8.InsC K C) : IsTy K (aObj C fs) (.ref C) := fun _ H v ⟨a, dx, ws, h1, h2, _⟩ => by
  subst h1
  exact .base (.ins h2 c.cl c.ha c.hn c.htk c.hm)
/-- isinstance(v, T) of a written built-in type T -/
theorem d_isT (S T : String) (k : Bool) {z : Str} {p2 : Pos} (hm : X.mg "isinstance" = none) (hmT : X.mg z = none) (ha : De X a ρ P) (hty : IsTy X.K P (.type S)) (hk : kitB S T = some k := by decide +kernel) (hv : bootBuiltins z = some (.type T) := by decide +kernel) (hgT : Gl X z := by rfl) (hn : z ≠ "__name__" := by decide) (hd : (z == ("__debug__" : Str)) = false := by decide)
    (hs : starEach (a :: [.Name z p2]) X.env = (false, eval a X.env) :: starEach [.Name z p2] X.env := by rfl) (hs2 : starEach (.Name z p2 :: []) X.env = (false, eval (.Name z p2) X.env) :: starEach [] X.env := by rfl) (hpl : (backTo pos (starEach [.Name z p2] X.env)).any (·.1) = false := by rfl) (hg : Gl X "isinstance" := by rfl) :
    De X (.Call (.Name "isinstance" p) [a, .Name z p2] [] pos) ρ (aBl k) := d_isi hm ha (d_bty hmT hv hgT hn hd) (.ty T) hty (kit_ty hk) hs hs2 hpl hg
end
end Da
set_option Elab.async false
set_option linter.all false
set_option maxRecDepth 100000
set_option maxHeartbeats 4000000
namespace Da
open PySem PySem.Spec PyProof.Rows L2
/-! ### statements: slots hold values so described, or lists of the def's own that it still changes -/
inductive Sl where
  | no | v (P : As) | own (Ps : List As)
abbrev Slots := List Sl
def Sl.e : Sl → Option As
  | .v P => some P
  | _ => none
def Sl.f : Sl → Option As
  | .v P => some P
  | .own Ps => some (aLst Ps)
  | .no => none
def exR (ρ : Slots) : Rho := ρ.map Sl.e
def frR (ρ : Slots) : Rho := ρ.map Sl.f
structure SOk (pl : Option Addr) (H0 Hc0 : Hp) (ρ : Slots) (σ : L2.St) (H Hc : Hp) : Prop where
  stp : Stp pl H0 Hc0 H Hc
  len : σ.length = ρ.length
  val : ∀ (i : Nat) (P : As), ρ[i]? = some (.v P) → ∃ v, σ[i]? = some (some v) ∧ P.is pl Hc v
  own : ∀ (i : Nat) (Ps : List As), ρ[i]? = some (.own Ps) → ∃ p vs, σ[i]? = some (some (.ref p)) ∧ H p = some (.lst vs) ∧ Hc p = none ∧ pl ≠ some p ∧ H0 p = none ∧ Fits pl Hc vs Ps
  ne : ∀ (i j : Nat) (Ps Qs : List As) (p : Addr), i ≠ j → ρ[i]? = some (.own Ps) → ρ[j]? = some (.own Qs) → σ[i]? = some (some (.ref p)) → σ[j]? ≠ some (some (.ref p))
def St1 (pl : Option Addr) (H0 Hc0 : Hp) (ρ : Slots) : L2.St → Hp → Prop := fun σ H => ∃ Hc, SOk pl H0 Hc0 ρ σ H Hc
section
variable {pl : Option Addr} {H0 Hc0 H Hc H' Hc' : Hp} {ρ : Slots} {σ : L2.St}
theorem SOk.env (s : SOk pl H0 Hc0 ρ σ H Hc) : EnvOk pl Hc σ (exR ρ) := ⟨by unfold exR; rw [List.length_map, s.len], fun i P h => by
  unfold exR at h
  rw [List.getElem?_map] at h
  cases e : ρ[i]? with
  | none =>
    rw [e] at h
    cases h
  | some z =>
    rw [e] at h
    cases z with
    | no => cases h
    | own Ps => cases h
    | v P' =>
      have h' : P' = P := Option.some.inj (Option.some.inj h)
      subst h'
      exact s.val i P' e⟩
theorem SOk.step (s : SOk pl H0 Hc0 ρ σ H Hc) (t : Stp pl H Hc H' Hc') : SOk pl H0 Hc0 ρ σ H' Hc' where
  stp := s.stp.trans t
  len := s.len
  val := fun i P h => let ⟨v, h1, h2⟩ := s.val i P h; ⟨v, h1, P.mono t.cl h2⟩
  own := fun i Ps h => let ⟨p, vs, h1, h2, h3, h4, h5, h6⟩ := s.own i Ps h; ⟨p, vs, h1, t.keep p _ h4 h2, t.clean h2 h3, h4, h5, h6.mono t.cl⟩
  ne := s.ne
theorem get_set {α : Type} {l : List α} {i j : Nat} {x y : α} (h : (l.set i x)[j]? = some y) : (i = j ∧ x = y ∧ i < l.length) ∨ (i ≠ j ∧ l[j]? = some y) := by
  by_cases e : i = j
  · subst e
    by_cases hl : i < l.length
    · rw [List.getElem?_set_self hl] at h
      exact .inl ⟨rfl, Option.some.inj h, hl⟩
    · rw [List.getElem?_eq_none (by rw [List.length_set]; omega)] at h
      cases h
  · rw [List.getElem?_set_ne e] at h
    exact .inr ⟨e, h⟩
theorem SOk.setV (s : SOk pl H0 Hc0 ρ σ H Hc) (i : Nat) {v : V} {P : As} (h : P.is pl Hc v) : SOk pl H0 Hc0 (ρ.set i (.v P)) (σ.set i (some v)) H Hc where
  stp := s.stp
  len := by rw [List.length_set, List.length_set, s.len]
  val := fun j Q e => by
    rcases get_set e with ⟨rfl, e2, hl⟩ | ⟨ne, e2⟩
    · have e3 : P = Q := by
        injection e2
      subst e3
      exact ⟨v, List.getElem?_set_self (by rw [s.len]; exact hl), h⟩
    · rw [List.getElem?_set_ne ne]
      exact s.val j Q e2
  own := fun j Ps e => by
    rcases get_set e with ⟨rfl, e2, hl⟩ | ⟨ne, e2⟩
    · cases e2
    · rw [List.getElem?_set_ne ne]
      exact s.own j Ps e2
  ne := fun j k Ps Qs p hjk e1 e2 => by
    rcases get_set e1 with ⟨rfl, e3, hl⟩ | ⟨ne1, e3⟩
    · cases e3
    · rcases get_set e2 with ⟨rfl, e4, hl⟩ | ⟨ne2, e4⟩
      · cases e4
      · rw [List.getElem?_set_ne ne1, List.getElem?_set_ne ne2]
        exact s.ne j k Ps Qs p hjk e3 e4
/-- a slot is forgotten -/
theorem SOk.forget (s : SOk pl H0 Hc0 ρ σ H Hc) (i : Nat) (x : Option V) : SOk pl H0 Hc0 (ρ.set i .no) (σ.set i x) H Hc where
  stp := s.stp
  len := by rw [List.length_set, List.length_set, s.len]
  val := fun j Q e => by
    rcases get_set e with ⟨rfl, e2, hl⟩ | ⟨ne, e2⟩
    · cases e2
    · rw [List.getElem?_set_ne ne]
      exact s.val j Q e2
  own := fun j Ps e => by
    rcases get_set e with ⟨rfl, e2, hl⟩ | ⟨ne, e2⟩
    · cases e2
    · rw [List.getElem?_set_ne ne]
      exact s.own j Ps e2
  ne := fun j k Ps Qs p hjk e1 e2 => by
    rcases get_set e1 with ⟨rfl, e3, hl⟩ | ⟨ne1, e3⟩
    · cases e3
    · rcases get_set e2 with ⟨rfl, e4, hl⟩ | ⟨ne2, e4⟩
      · cases e4
      · rw [List.getElem?_set_ne ne1, List.getElem?_set_ne ne2]
        exact s.ne j k Ps Qs p hjk e3 e4
/-- a new list becomes the def's own -/
theorem SOk.setOwn (s : SOk pl H0 Hc0 ρ σ H Hc) (i : Nat) {p : Addr} {vs : List V} {Ps : List As} (t : Stp pl H Hc H' Hc') (h1 : H' p = some (.lst vs)) (h2 : Hc' p = none) (h3 : pl ≠ some p) (h4 : H p = none) (h5 : Fits pl Hc' vs Ps) : SOk pl H0 Hc0 (ρ.set i (.own Ps)) (σ.set i (some (.ref p))) H' Hc' := by
  have s' := s.step t
  have n0 : H0 p = none := by
    cases e : H0 p with
    | none => rfl
    | some o =>
      rw [s.stp.keep p o h3 e] at h4
      cases h4
  have apart : ∀ (j : Nat) (Qs : List As), ρ[j]? = some (.own Qs) → σ[j]? ≠ some (some (.ref p)) := fun j Qs e z => by
    obtain ⟨q, ws, k1, k2, _⟩ := s.own j Qs e
    rw [z] at k1
    cases k1
    rw [h4] at k2
    cases k2
  refine ⟨s'.stp, by rw [List.length_set, List.length_set, s.len], fun j Q e => ?_, fun j Qs e => ?_, fun j k Qs Rs q hjk e1 e2 => ?_⟩
  · rcases get_set e with ⟨rfl, e2, hl⟩ | ⟨ne, e2⟩
    · cases e2
    · rw [List.getElem?_set_ne ne]
      exact s'.val j Q e2
  · rcases get_set e with ⟨rfl, e2, hl⟩ | ⟨ne, e2⟩
    · have e3 : Ps = Qs := by injection e2
      subst e3
      exact ⟨p, vs, List.getElem?_set_self (by rw [s.len]; exact hl), h1, h2, h3, n0, h5⟩
    · rw [List.getElem?_set_ne ne]
      exact s'.own j Qs e2
  · rcases get_set e1 with ⟨rfl, e3, hl⟩ | ⟨ne1, e3⟩
    · rcases get_set e2 with ⟨rfl, e4, hl2⟩ | ⟨ne2, e4⟩
      · exact absurd rfl hjk
      · rw [List.getElem?_set_self (by rw [s.len]; exact hl), List.getElem?_set_ne ne2]
        intro z z2
        cases z
        exact apart k Rs e4 z2
    · rcases get_set e2 with ⟨rfl, e4, hl2⟩ | ⟨ne2, e4⟩
      · rw [List.getElem?_set_ne ne1, List.getElem?_set_self (by rw [s.len]; exact hl2)]
        intro z z2
        cases z2
        exact apart j Qs e3 z
      · rw [List.getElem?_set_ne ne1, List.getElem?_set_ne ne2]
        exact s.ne j k Qs Rs q hjk e3 e4
/-- the def's own list changes -/
theorem SOk.mut (s : SOk pl H0 Hc0 ρ σ H Hc) {i : Nat} {p : Addr} {Ps Qs : List As} (hi : ρ[i]? = some (.own Ps)) (hp : σ[i]? = some (some (.ref p))) {ws : List V} (f : Fits pl Hc ws Qs) : SOk pl H0 Hc0 (ρ.set i (.own Qs)) σ (upd H p (.lst ws)) Hc := by
  obtain ⟨q, vs, k1, k2, k3, k4, k5, k6⟩ := s.own i Ps hi
  rw [hp] at k1
  cases k1
  refine ⟨s.stp.mut k5 k3 k4 _, by rw [List.length_set, s.len], fun j Q e => ?_, fun j Rs e => ?_, fun j k Rs Ts r hjk e1 e2 => ?_⟩
  · rcases get_set e with ⟨rfl, e2, hl⟩ | ⟨ne, e2⟩
    · cases e2
    · exact s.val j Q e2
  · rcases get_set e with ⟨rfl, e2, hl⟩ | ⟨ne, e2⟩
    · have e3 : Qs = Rs := by injection e2
      subst e3
      exact ⟨p, ws, hp, upd_same, k3, k4, k5, f⟩
    · obtain ⟨r, us, a1, a2, a3, a4, a5, a6⟩ := s.own j Rs e2
      have hne : r ≠ p := fun z => by
        subst z
        exact s.ne i j Ps Rs r ne hi e2 hp a1
      exact ⟨r, us, a1, by rw [upd_ne hne]; exact a2, a3, a4, a5, a6⟩
  · have old : ∀ {j : Nat} {Rs : List As}, (ρ.set i (.own Qs))[j]? = some (.own Rs) → ∃ Rs', ρ[j]? = some (.own Rs') := fun {j Rs} e => by
      rcases get_set e with ⟨rfl, e2, hl⟩ | ⟨ne, e2⟩
      · exact ⟨Ps, hi⟩
      · exact ⟨Rs, e2⟩
    obtain ⟨R1, w1⟩ := old e1
    obtain ⟨R2, w2⟩ := old e2
    exact s.ne j k R1 R2 r hjk w1 w2
/-- the own lists told as values: a larger clean part -/
theorem SOk.freeze (s : SOk pl H0 Hc0 ρ σ H Hc) : ∃ Hc1, Stp pl H0 Hc0 H Hc1 ∧ Same Hc Hc1 ∧ EnvOk pl Hc1 σ (frR ρ) := by
  classical
  let O : Addr → Prop := fun a => ∃ (i : Nat) (Ps : List As), ρ[i]? = some (.own Ps) ∧ σ[i]? = some (some (.ref a))
  have hO : ∀ a, O a → Hc a = none ∧ pl ≠ some a ∧ H0 a = none := fun a ⟨i, Ps, h1, h2⟩ => by
    obtain ⟨p, vs, k1, k2, k3, k4, k5, _⟩ := s.own i Ps h1
    rw [h2] at k1
    cases k1
    exact ⟨k3, k4, k5⟩
  let Hc1 : Hp := fun a => if O a then H a else Hc a
  have yes : ∀ a, O a → Hc1 a = H a := fun a h => if_pos h
  have no : ∀ a, ¬ O a → Hc1 a = Hc a := fun a h => if_neg h
  have sm : Same Hc Hc1 := fun a o e => by
    have hn : ¬ O a := fun z => by
      rw [(hO a z).1] at e
      cases e
    rw [no a hn]
    exact e
  refine ⟨Hc1, ⟨s.stp.keep, s.stp.cl.trans sm, ⟨fun a o e => ?_, fun p hp => ?_⟩, fun a o e => ?_⟩, sm, ⟨by unfold frR; rw [List.length_map, s.len], fun i P h => ?_⟩⟩
  · by_cases hn : O a
    · rw [yes a hn] at e
      exact e
    · rw [no a hn] at e
      exact s.stp.gd.sub _ _ e
  · have hn : ¬ O p := fun z => (hO p z).2.1 hp
    rw [no p hn]
    exact s.stp.gd.pool p hp
  · by_cases hn : O a
    · exact .inr (.inl (hO a hn).2.2)
    · rw [no a hn] at e
      exact s.stp.new a o e
  · unfold frR at h
    rw [List.getElem?_map] at h
    cases e : ρ[i]? with
    | none =>
      rw [e] at h
      cases h
    | some z =>
      rw [e] at h
      cases z with
      | no => cases h
      | v P' =>
        have h' : P' = P := Option.some.inj (Option.some.inj h)
        subst h'
        obtain ⟨v, k1, k2⟩ := s.val i P' e
        exact ⟨v, k1, P'.mono sm k2⟩
      | own Ps =>
        have h' : aLst Ps = P := Option.some.inj (Option.some.inj h)
        subst h'
        obtain ⟨p, vs, k1, k2, k3, k4, k5, k6⟩ := s.own i Ps e
        exact ⟨_, k1, p, vs, rfl, by rw [yes p ⟨i, Ps, e, k1⟩]; exact k2, k6.mono sm⟩
/-- behind a step that was taken with the own lists told as values, they are the def's own as before -/
theorem SOk.thaw (s : SOk pl H0 Hc0 ρ σ H Hc) {Hc1 : Hp} (sm : Same Hc Hc1) (t : Stp pl H Hc1 H' Hc') : SOk pl H0 Hc0 ρ σ H' Hc where
  stp := ⟨fun q o n h => t.keep q o n (s.stp.keep q o n h), s.stp.cl, ⟨fun q o h => t.gd.sub _ _ (t.cl _ _ (sm _ _ h)), fun p hp => ⟨(s.stp.gd.pool p hp).1, (t.gd.pool p hp).2⟩⟩, s.stp.new⟩
  len := s.len
  val := s.val
  own := fun i Ps h => let ⟨p, vs, h1, h2, h3, h4, h5, h6⟩ := s.own i Ps h; ⟨p, vs, h1, t.keep p _ h4 h2, h3, h4, h5, h6⟩
  ne := s.ne
/-- an entry anew: all that isn't the def's own now is kept from here on -/
theorem SOk.rebase (s : SOk pl H0 Hc0 ρ σ H Hc) : ∃ H9, SOk pl H9 Hc ρ σ H Hc ∧ (∀ H' Hc', Stp pl H9 Hc H' Hc' → Stp pl H0 Hc0 H' Hc') ∧ (∀ p, pl ≠ some p → H9 p = none → H0 p = none) := by
  classical
  let O : Addr → Prop := fun a => ∃ (i : Nat) (Ps : List As), ρ[i]? = some (.own Ps) ∧ σ[i]? = some (some (.ref a))
  have hO : ∀ a, O a → H0 a = none := fun a ⟨i, Ps, h1, h2⟩ => by
    obtain ⟨p, vs, k1, k2, k3, k4, k5, _⟩ := s.own i Ps h1
    rw [h2] at k1
    cases k1
    exact k5
  let H9 : Hp := fun a => if O a then none else H a
  have yes : ∀ a, O a → H9 a = none := fun a h => if_pos h
  have no : ∀ a, ¬ O a → H9 a = H a := fun a h => if_neg h
  have sub : Same H9 H := fun a o e => by
    by_cases hn : O a
    · rw [yes a hn] at e
      cases e
    · rw [no a hn] at e
      exact e
  have up : ∀ a o, pl ≠ some a → H0 a = some o → H9 a = some o := fun a o n e => by
    have hn : ¬ O a := fun z => by
      rw [hO a z] at e
      cases e
    rw [no a hn]
    exact s.stp.keep a o n e
  have back : ∀ p, pl ≠ some p → H9 p = none → H0 p = none := fun p n e => by
    cases h : H0 p with
    | none => rfl
    | some o =>
      rw [up p o n h] at e
      cases e
  refine ⟨H9, ⟨⟨fun q o _ h => sub q o h, Same.refl _, s.stp.gd, fun a o h => .inl h⟩, s.len, s.val, fun i Ps h => ?_, s.ne⟩, fun H' Hc' t => ⟨fun q o n h => t.keep q o n (up q o n h), s.stp.cl.trans t.cl, t.gd, fun a o h => ?_⟩, back⟩
  · obtain ⟨p, vs, k1, k2, k3, k4, k5, k6⟩ := s.own i Ps h
    exact ⟨p, vs, k1, k2, k3, k4, yes p ⟨i, Ps, h, k1⟩, k6⟩
  · by_cases hp : pl = some a
    · rw [(t.gd.pool a hp).1] at h
      cases h
    · rcases t.new a o h with z | z
      · exact s.stp.new a o z
      · cases e : H0 a with
        | none => exact .inr (.inl e)
        | some u =>
          have k := up a u hp e
          rcases z with z | ⟨vs, z⟩
          · rw [k] at z
            cases z
          · rw [k] at z
            cases z
            exact .inr (.inr ⟨vs, e⟩)
theorem SOk.unbase {H9 : Hp} {ρ' : Slots} {σ' : L2.St} (h1 : ∀ H' Hc', Stp pl H9 Hc H' Hc' → Stp pl H0 Hc0 H' Hc') (h2 : ∀ p, pl ≠ some p → H9 p = none → H0 p = none) (s : SOk pl H9 Hc ρ' σ' H' Hc') : SOk pl H0 Hc0 ρ' σ' H' Hc' :=
  ⟨h1 _ _ s.stp, s.len, s.val, fun i Ps h => let ⟨p, vs, k1, k2, k3, k4, k5, k6⟩ := s.own i Ps h; ⟨p, vs, k1, k2, k3, k4, h2 p k4 k5, k6⟩, s.ne⟩
end
/-- the rest of a block: N, the slots that may be left at its end; R, what may be handed back -/
def Ds (X : Cx) (sts : List Stmt) (ρ : Slots) (N : Slots → Prop) (R : As → Prop) : Prop := ∀ pl H0 Hc0 σ H (D : Ends), St1 pl H0 Hc0 ρ σ H → (∀ ρ' σ' H', N ρ' → St1 pl H0 Hc0 ρ' σ' H' → D.nx σ' H') → (∀ P v H' Hc', R P → Stp pl H0 Hc0 H' Hc' → P.is pl Hc' v → D.rt v H') → tSs X sts D σ H
section
variable {X : Cx} {ρ : Slots} {N M : Slots → Prop} {R : As → Prop} {pos p' pos' : Pos} {e c : Expr} {P : As} {Ps : List As} {rest A B body : List Stmt} {st : Stmt}
theorem ds_nil (h : N ρ) : Ds X [] ρ N R := fun pl H0 Hc0 σ H D s hn hr => tSs_of pss_nil (hn ρ σ H h s)
theorem ds_set (i : Nat) {x : Str} (hN : X.N.Nodup) (he : De X e (exR ρ) P) (k : Ds X rest (ρ.set i (.v P)) N R) (hi : X.N[i]? = some x := by rfl) (hx : Loc X.env.scope x := by first | exact Or.inl rfl | exact Or.inr rfl) (hs : swapsWith e (some (.Name x p')) pos.line X.env = pure false := by rfl) (hf : X.fn x = true ∨ X.env.scope.names.lookup x = some .local := by first | exact .inl rfl | exact .inr rfl | assumption) :
    Ds X (.Assign [.Name x p'] e pos :: rest) ρ N R := fun pl H0 Hc0 σ H D ⟨Hc, s⟩ hn hr =>
  tSs_of (pss_cons (ps_set hN hi hx pe_can hs hf) pss_can) (he pl σ H Hc s.stp.gd s.env _ fun v H1 Hc1 t hv => k pl H0 Hc0 _ H1 D ⟨Hc1, (s.step t).setV i hv⟩ hn hr)
/-- .. of a value that leans on no object, whatever it was reckoned from -/
theorem ds_setV (i : Nat) {x : Str} {z : V} (hN : X.N.Nodup) (he : De X e (frR ρ) (aV z)) (k : Ds X rest (ρ.set i (.v (aV z))) N R) (hi : X.N[i]? = some x := by rfl) (hx : Loc X.env.scope x := by first | exact Or.inl rfl | exact Or.inr rfl) (hs : swapsWith e (some (.Name x p')) pos.line X.env = pure false := by rfl) (hf : X.fn x = true ∨ X.env.scope.names.lookup x = some .local := by first | exact .inl rfl | exact .inr rfl | assumption) :
    Ds X (.Assign [.Name x p'] e pos :: rest) ρ N R := fun pl H0 Hc0 σ H D ⟨Hc, s⟩ hn hr => by
  obtain ⟨Hc1, t1, sm, ev⟩ := s.freeze
  exact tSs_of (pss_cons (ps_set hN hi hx pe_can hs hf) pss_can) (he pl σ H Hc1 t1.gd ev _ fun v H1 Hc2 t hv => k pl H0 Hc0 _ H1 D ⟨Hc, (s.thaw sm t).setV i (show v = z from hv)⟩ hn hr)
theorem ds_setOwn (i : Nat) {x : Str} (hN : X.N.Nodup) (he : DeN X e (exR ρ) Ps) (k : Ds X rest (ρ.set i (.own Ps)) N R) (hi : X.N[i]? = some x := by rfl) (hx : Loc X.env.scope x := by first | exact Or.inl rfl | exact Or.inr rfl) (hs : swapsWith e (some (.Name x p')) pos.line X.env = pure false := by rfl) (hf : X.fn x = true ∨ X.env.scope.names.lookup x = some .local := by first | exact .inl rfl | exact .inr rfl | assumption) :
    Ds X (.Assign [.Name x p'] e pos :: rest) ρ N R := fun pl H0 Hc0 σ H D ⟨Hc, s⟩ hn hr =>
  tSs_of (pss_cons (ps_set hN hi hx pe_can hs hf) pss_can) (he pl σ H Hc s.stp.gd s.env _ fun p vs H1 Hc1 t h1 h2 h3 h4 h5 => k pl H0 Hc0 _ H1 D ⟨Hc1, s.setOwn i t h1 h2 h3 h4 h5⟩ hn hr)
theorem ds_ret (he : De X e (frR ρ) P) (hR : R P) : Ds X (.Return (some e) pos :: rest) ρ N R := fun pl H0 Hc0 σ H D ⟨Hc, s⟩ hn hr => by
  obtain ⟨Hc1, t1, sm, ev⟩ := s.freeze
  exact tSs_of (pss_cons (ps_ret pe_can) pss_can) (he pl σ H Hc1 t1.gd ev _ fun v H1 Hc2 t hv => hr P v H1 Hc2 hR (t1.trans t) hv)
theorem ds_if {b : Bool} (hc : Dt X c (frR ρ) b) (h1 : b = true → Ds X A ρ M R) (h2 : b = false → Ds X B ρ M R) (k : ∀ ρ', M ρ' → Ds X rest ρ' N R) : Ds X (.If c A B pos :: rest) ρ N R := fun pl H0 Hc0 σ H D ⟨Hc, s⟩ hn hr => by
  obtain ⟨Hc1, t1, sm, ev⟩ := s.freeze
  refine tSs_of (pss_cons (ps_if pt_can pss_can pss_can) pss_can) (hc pl σ H Hc1 t1.gd ev _ fun H1 Hc2 t => ?_)
  have s' : St1 pl H0 Hc0 ρ σ H1 := ⟨Hc, s.thaw sm t⟩
  cases b with
  | true => exact iteT (h1 rfl pl H0 Hc0 σ H1 _ s' (fun ρ' σ' H' m st => k ρ' m pl H0 Hc0 σ' H' D st hn hr) hr)
  | false => exact iteF (h2 rfl pl H0 Hc0 σ H1 _ s' (fun ρ' σ' H' m st => k ρ' m pl H0 Hc0 σ' H' D st hn hr) hr)
/-- if c: .. return; the rest -/
theorem ds_ifR {b : Bool} (hc : Dt X c (frR ρ) b) (h1 : b = true → Ds X A ρ (fun _ => False) R) (k : b = false → Ds X rest ρ N R) : Ds X (.If c A [] pos :: rest) ρ N R := fun pl H0 Hc0 σ H D ⟨Hc, s⟩ hn hr => by
  obtain ⟨Hc1, t1, sm, ev⟩ := s.freeze
  refine tSs_of (pss_cons (ps_if pt_can pss_can pss_can) pss_can) (hc pl σ H Hc1 t1.gd ev _ fun H1 Hc2 t => ?_)
  have s' : St1 pl H0 Hc0 ρ σ H1 := ⟨Hc, s.thaw sm t⟩
  cases b with
  | true => exact iteT (h1 rfl pl H0 Hc0 σ H1 _ s' (fun ρ' σ' H' m st => m.elim) hr)
  | false => exact iteF (tSs_of pss_nil (k rfl pl H0 Hc0 σ H1 D s' hn hr))
/-- if c: what is never reached; the rest -/
theorem ds_ifN (hc : Dt X c (frR ρ) false) (k : Ds X rest ρ N R) : Ds X (.If c A [] pos :: rest) ρ N R := ds_ifR hc (fun h => by cases h) fun _ => k
theorem ds_expr (he : De X e (exR ρ) P) (k : Ds X rest ρ N R) (hs : swapsWith e none pos.line X.env = pure false := by rfl) : Ds X (.Expr e pos :: rest) ρ N R := fun pl H0 Hc0 σ H D ⟨Hc, s⟩ hn hr =>
  tSs_of (pss_cons (ps_expr pe_can hs) pss_can) (he pl σ H Hc s.stp.gd s.env _ fun v H1 Hc1 t hv => k pl H0 Hc0 _ H1 D ⟨Hc1, s.step t⟩ hn hr)
/-- xs.append(e), xs the def's own list -/
theorem ds_app (i : Nat) {x : Str} {pn apos cpos : Pos} (hi : ρ[i]? = some (.own Ps)) (he : De X e (exR ρ) P) (k : Ds X rest (ρ.set i (.own (Ps ++ [P]))) N R) (hz : Ps.length < 100000) (hN : X.N[i]? = some x := by rfl) (hv : Vis X.env.scope x := by first | exact Or.inl rfl | exact Or.inr (Or.inl rfl) | exact Or.inr (Or.inr rfl))
    (hd : (x == ("__debug__" : Str)) = false := by decide) (hcd : (x == ("__classdict__" : Str)) = false := by decide) (hb : attributeBase (.Name x pn) "append" X.env (eval (.Name x pn) X.env) = eval (.Name x pn) X.env := by rfl)
    (hfew : ((backTo cpos (starEach (e :: []) X.env)).all (fun x => !x.1) && (backToKw cpos (keywordEach [] X.env)).all (fun x => x.1.isSome)
      && decide ((e :: []).length + ([] : List Keyword).length + (if ([] : List Keyword).isEmpty then 0 else 1) < 30)) = true := by rfl)
    (hline : (apos.endLine == cpos.line) = true := by rfl) (hs : starEach (e :: []) X.env = (false, eval e X.env) :: starEach [] X.env := by rfl) (hplain : (backTo cpos (starEach [] X.env)).any (·.1) = false := by rfl)
    (hsw : swapsWith (.Call (.Attribute (.Name x pn) "append" apos) [e] [] cpos) none pos.line X.env = pure false := by rfl) : Ds X (.Expr (.Call (.Attribute (.Name x pn) "append" apos) [e] [] cpos) pos :: rest) ρ N R := fun pl H0 Hc0 σ H D ⟨Hc, s⟩ hn hr => by
  obtain ⟨q, vs, k1, k2, k3, k4, k5, k6⟩ := s.own i Ps hi
  refine tSs_of (pss_cons (ps_expr (pe_bm PySem.F.plainAttrs_list PySem.F.slot_list_append PySem.F.type_list_append mt_append (pe_var hN hv hd hcd) (pa_cons pe_can pa_nil hs) hb hfew hline hs hplain) hsw) pss_can) ⟨_, k1, .inl ⟨rfl, _, SqL.of k2⟩, ?_⟩
  refine he pl σ H Hc s.stp.gd s.env _ fun v H1 Hc1 t hvv => ⟨q, vs, v, rfl, rfl, t.keep q _ k4 k2, small_of (by rw [k6.len]; omega), ?_⟩
  exact k pl H0 Hc0 σ _ D ⟨Hc1, (s.step t).mut hi k1 ((k6.mono t.cl).app (.cons hvv .nil))⟩ hn hr
/-- for target in it: I, what the slots hold ahead of each turn -/
theorem ds_for {α : Type} {tg it : Expr} {xs : List α} {Pt : α → As} {is : List Nat} {Ts : α → List As} (I : Nat → Slots → Prop) (hp : PassesOwn (model X.prog X.w) X.A X.env X.xe) (hc : X.calm = true) (hi : Di X tg it (exR ρ) xs Pt) (h0 : I 0 ρ) (hg : ∀ x ∈ xs, Dg X tg (Pt x) is (Ts x))
    (hb : ∀ i x, xs[i]? = some x → ∀ ρ', I i ρ' → Ds X body (is.zip (Ts x) |>.foldl (fun r q => r.set q.1 (.v q.2)) ρ') (I (i + 1)) R) (k : ∀ ρ', I xs.length ρ' → Ds X rest ρ' N R) (hl : ∀ x ∈ xs, (Ts x).length = is.length) (hs : ∀ x, foldedSetIterable it X.env x = pure x := by intro _; rfl) :
    Ds X (.For tg it body [] pos :: rest) ρ N R := fun pl H0 Hc0 σ H D ⟨Hc, s⟩ hn hr => by
  refine tSs_of (pss_cons (ps_for hp hc pi_can pg_can pss_can hs) pss_can) (hi pl σ H Hc s.stp.gd s.env _ fun J H1 Hc1 t y => ?_)
  refine ⟨fun i m σ' H' => m = xs.length - i ∧ i ≤ xs.length ∧ ∃ ρ' Hc', I i ρ' ∧ SOk pl H0 Hc0 ρ' σ' H' Hc' ∧ Same Hc1 Hc', ⟨xs.length, by simp, Nat.zero_le _, ρ, Hc1, h0, s.step t, Same.refl _⟩, ?_⟩
  rintro i m σ' H' ⟨rfl, hle, ρ', Hc', hI, s', sm⟩
  obtain ⟨y1, y2⟩ := y i H' Hc' sm s'.stp.gd
  by_cases hlt : i < xs.length
  · have hx : xs[i]? = some xs[i] := by simp [hlt]
    have hm : xs[i] ∈ xs := List.getElem_mem hlt
    obtain ⟨go, yl⟩ := y1 (Pt xs[i]) (by rw [List.getElem?_map, hx]; rfl)
    refine .inr ⟨go, fun σ2 H2 => ∃ ρ' Hc', I (i + 1) ρ' ∧ SOk pl H0 Hc0 ρ' σ2 H2 Hc' ∧ Same Hc1 Hc', fun σ2 H2 n2 => ⟨xs.length - (i + 1), by omega, rfl, hlt, n2⟩, fun v H3 hv => ?_⟩
    obtain ⟨Hc3, s3, pv⟩ := yl v H3 hv
    refine hg _ hm pl σ' H3 Hc3 v s3.gd pv _ fun vs f3 l3 => ?_
    have sA : ∀ (is : List Nat) (vs : List V) (Qs : List As) (r : Slots) (τ : L2.St), SOk pl H0 Hc0 r τ H3 Hc3 → Fits pl Hc3 vs Qs → vs.length = is.length → SOk pl H0 Hc0 (is.zip Qs |>.foldl (fun r q => r.set q.1 (.v q.2)) r) (setAll τ is vs) H3 Hc3 := by
      intro is
      induction is with
      | nil =>
        intro vs Qs r τ h f l
        cases f with
        | nil => exact h
        | cons a b => cases l
      | cons a as ih =>
        intro vs Qs r τ h f l
        cases f with
        | nil => cases l
        | cons f1 f2 => exact ih _ _ _ _ (h.setV a f1) f2 (by simpa using l)
    have s4 := sA is vs (Ts xs[i]) ρ' σ' (s'.step s3) f3 l3
    -- what the loop walks stays: the body is run from an entry of its own
    obtain ⟨H9, s9, u1, u2⟩ := s4.rebase
    exact hb i _ hx ρ' hI pl H9 Hc3 _ H3 _ ⟨Hc3, s9⟩ (fun ρ2 σ2 H2 n2 ⟨Hc2, st2⟩ => ⟨ρ2, Hc2, n2, SOk.unbase u1 u2 st2, (sm.trans s3.cl).trans st2.stp.cl⟩) fun P v H2 Hc2 r2 t2 h2 => hr P v H2 Hc2 r2 (u1 _ _ t2) h2
  · have e : i = xs.length := by omega
    subst e
    exact .inl ⟨y2 (by rw [List.length_map]; exact Nat.le_refl _) (by rw [List.length_map]), k ρ' hI pl H0 Hc0 σ' H' D ⟨Hc', s'⟩ hn hr⟩
/-- list comprehensions stored in a local name at once -/
theorem ds_setLc {α : Type} {elt tg it : Expr} {ifs : List Expr} {scope : Scope} {xs : List α} {Pt : α → As} {is : List Nat} {Ts : α → List As} {b : α → Bool} {F : α → As} {pos2 : Pos} (i : Nat) {x : Str} (own : List (Str × Nat)) (hN : X.N.Nodup) (ok : BlkOk X.N X.env.scope scope own) (hi : Di X tg it (exR ρ) xs Pt) (hg : InBlk X scope fun Y => ∀ x ∈ xs, Dg Y tg (Pt x) is (Ts x))
    (ht : InBlk X scope fun Y => ∀ x ∈ xs, DtS Y ifs (setRho (wipeR (exR ρ) (own.map (·.2))) is (Ts x)) (b x)) (he : InBlk X scope fun Y => ∀ x ∈ xs, b x = true → De Y elt (setRho (wipeR (exR ρ) (own.map (·.2))) is (Ts x)) (F x))
    (hz : xs.length < 1000000) (k : Ds X rest (ρ.set i (.v (aLst ((xs.filter b).map F)))) N R) (hsw : swapsWith (.ListComp elt [⟨tg, it, ifs, 0⟩] scope pos2) (some (.Name x p')) pos.line X.env = pure true) (hc : X.calm = true := by rfl) (hni : X.N[i]? = some x := by rfl) (hyl : X.env.scope.names.lookup x = some .local := by rfl)
    (hw : ∀ i ∈ is, i ∈ own.map (·.2) := by decide) (hs : ∀ x, foldedSetIterable it X.env x = pure x := by intro _; rfl) : Ds X (.Assign [.Name x p'] (.ListComp elt [⟨tg, it, ifs, 0⟩] scope pos2) pos :: rest) ρ N R := fun pl H0 Hc0 σ H D ⟨Hc, s⟩ hn hr =>
  tSs_of (pss_cons (ps_setLc hc hN hni hyl hsw pi_can ok pg_B pts_B pe_B hs) pss_can) (lc_read own hi hg ht he hz hw s.stp.gd s.env (Q := fun v H1 => tSs X rest D (σ.set i (some v)) H1) (Out.ofN fun v H1 Hc1 t hv => k pl H0 Hc0 _ H1 D ⟨Hc1, (s.step t).setV i hv⟩ hn hr))
theorem ds_setLc2 {α β : Type} {elt tg it tg1 it1 : Expr} {scope : Scope} {xs : List α} {Pt : α → As} {is is1 : List Nat} {Ts : α → List As} {ys : α → List β} {P1 : α → β → As} {Ts1 : α → β → List As} {F : α → β → As} {pos2 : Pos} (i : Nat) {x : Str} (own : List (Str × Nat)) (vs1 : List Nat) (hN : X.N.Nodup) (ok : BlkOk X.N X.env.scope scope own) (hi : Di X tg it (exR ρ) xs Pt)
    (hg : InBlk X scope fun Y => ∀ x ∈ xs, Dg Y tg (Pt x) is (Ts x)) (hi1 : InBlk X scope fun Y => ∀ x ∈ xs, Di Y tg1 it1 (setRho (wipeR (exR ρ) (own.map (·.2))) is (Ts x)) (ys x) (P1 x)) (hg1 : InBlk X scope fun Y => ∀ x ∈ xs, ∀ z ∈ ys x, Dg Y tg1 (P1 x z) is1 (Ts1 x z))
    (he : InBlk X scope fun Y => ∀ x ∈ xs, ∀ z ∈ ys x, De Y elt (setRho (wipeR (setRho (wipeR (exR ρ) (own.map (·.2))) is (Ts x)) vs1) is1 (Ts1 x z)) (F x z))
    (hz : (xs.flatMap ys).length < 1000000) (k : Ds X rest (ρ.set i (.v (aLst (xs.flatMap fun x => (ys x).map (F x))))) N R) (hsw : swapsWith (.ListComp elt [⟨tg, it, [], 0⟩, ⟨tg1, it1, [], 0⟩] scope pos2) (some (.Name x p')) pos.line X.env = pure true) (hc : X.calm = true := by rfl) (hni : X.N[i]? = some x := by rfl) (hyl : X.env.scope.names.lookup x = some .local := by rfl)
    (hw : ∀ i ∈ is, i ∈ own.map (·.2) := by decide) (hw1 : ∀ i ∈ is1, i ∈ vs1 := by decide) (hv1 : ∀ i ∈ vs1, i ∈ own.map (·.2) := by decide) (hs : ∀ x, foldedSetIterable it X.env x = pure x := by intro _; rfl) (hs1 : ∀ env x, foldedSetIterable it1 env x = pure x := by intro _ _; rfl) :
    Ds X (.Assign [.Name x p'] (.ListComp elt [⟨tg, it, [], 0⟩, ⟨tg1, it1, [], 0⟩] scope pos2) pos :: rest) ρ N R := fun pl H0 Hc0 σ H D ⟨Hc, s⟩ hn hr =>
  tSs_of (pss_cons (ps_setLc2 (vs1 := vs1) hc hN hni hyl hsw pi_can ok hv1 pg_B (fun _ _ _ _ _ => pts_nil) pi_B pg_B (fun _ _ _ _ _ => pts_nil) pe_B hs hs1) pss_can)
    (lc2_read own vs1 hi hg hi1 hg1 he hz hw hw1 s.stp.gd s.env (Q := fun v H1 => tSs X rest D (σ.set i (some v)) H1) (Out.ofN fun v H1 Hc1 t hv => k pl H0 Hc0 _ H1 D ⟨Hc1, (s.step t).setV i hv⟩ hn hr))
/-- name op= e, ints -/
theorem ds_aug (i : Nat) {x : Str} {op : Operator} {r : R2} {z v : V} (hN : X.N.Nodup) (ho : OpR X (inplaceOp op) r) (hx0 : ρ[i]? = some (.v (aV z))) (he : De X e (exR ρ) (aV v)) {y : V} (hr0 : OpD r (aV z) (aV v) (aV y)) (k : Ds X rest (ρ.set i (.v (aV y))) N R) (hi : X.N[i]? = some x := by rfl) (hx : Loc X.env.scope x := by first | exact Or.inl rfl | exact Or.inr rfl) (hf : X.fn x = true ∨ X.env.scope.names.lookup x = some .local := by first | exact .inl rfl | exact .inr rfl | assumption) :
    Ds X (.AugAssign (.Name x p') op e pos :: rest) ρ N R := fun pl H0 Hc0 σ H D ⟨Hc, s⟩ hn hr => by
  obtain ⟨u, h1, h2⟩ := s.val i _ hx0
  refine tSs_of (pss_cons (ps_aug (ti := r) hN hi hx pe_can (fun pins s0 σ0 H1 a b v0 u0 Q I r1 r2 q => ho pins s0 σ0 H1 a b v0 u0 Q I r1 r2 q) hf) pss_can) ⟨u, h1, he pl σ H Hc s.stp.gd s.env _ fun w H1 Hc1 t hw => ?_⟩
  exact hr0 pl H1 Hc1 u w t.gd h2 hw _ fun a H2 Hc2 t2 ha => k pl H0 Hc0 _ H2 D ⟨Hc2, ((s.step t).step t2).setV i ha⟩ hn hr
end

/-! ### defs -/
/-- the slots at a def's entry -/
def inSl (ps : List As) (n : Nat) : Slots := ps.map Sl.v ++ List.replicate (n - ps.length) .no
theorem inSl_own {ps : List As} {n i : Nat} {Qs : List As} (h : (inSl ps n)[i]? = some (.own Qs)) : False := by
  unfold inSl at h
  rcases List.mem_append.mp (List.mem_of_getElem? h) with m | m
  · obtain ⟨P, _, e⟩ := List.mem_map.mp m
    cases e
  · cases List.eq_of_mem_replicate m
theorem start_ok {pl : Option Addr} {H Hc : Hp} {N : List Str} {vs : List V} {ps : List As} (g : Gd pl H Hc) (f : Fits pl Hc vs ps) : SOk pl H Hc (inSl ps N.length) (L2.start N vs) H Hc := by
  have e := f.len
  refine ⟨Stp.refl g, by unfold inSl L2.start; rw [List.length_append, List.length_append, List.length_map, List.length_map, List.length_replicate, List.length_replicate, e], fun i P h => ?_, fun i Ps h => (inSl_own h).elim, fun i j Ps Qs p hij h1 h2 => (inSl_own h1).elim⟩
  unfold inSl at h
  by_cases hi : i < ps.length
  · rw [List.getElem?_append_left (by rw [List.length_map]; exact hi), List.getElem?_map] at h
    cases q : ps[i]? with
    | none =>
      rw [q] at h
      cases h
    | some P' =>
      rw [q] at h
      have h3 : Sl.v P' = Sl.v P := Option.some.inj h
      injection h3 with h4
      subst h4
      obtain ⟨v, k1, k2⟩ := f.get q
      refine ⟨v, ?_, k2⟩
      unfold L2.start
      rw [List.getElem?_append_left (by rw [List.length_map, e]; exact hi), List.getElem?_map, k1]
      rfl
  · rw [List.getElem?_append_right (by rw [List.length_map]; omega), List.getElem?_replicate] at h
    split at h <;> cases h
def Imp (P R : As) : Prop := ∀ {pl : Option Addr} {H : Hp} {v : V}, P.is pl H v → R.is pl H v
theorem Imp.rfl' {P : As} : Imp P P := fun h => h
theorem Imp.of {P R : As} (e : P = R) : Imp P R := fun h => e ▸ h
section
variable {P : Program} {w : World} {K : PySem.W.Frag} {mg : Str → Option Value} {base : Heap} {x qual : Str} {params : Arguments} {body : List Stmt} {scope : Scope} {dvs : List V} {kws : List (Str × V)} {f : Addr} {fd : FuncData} {N ps : List Str} {k : Nat}
/-- a def that allocates alone -/
theorem def_ok {α : Type} {ok : α → Prop} {args : α → List As} {res : α → As} (F : FunD K x qual params body scope dvs kws f fd) (S : FnScope N ps scope) (hl : ∀ y, (args y).length = ps.length)
    (hb : ∀ (y : α), ok y → ∀ (cdv : Value) (A : Around) (outer : List Env) (s : Shared) (H : Hp) (E : XK), Room k (A.deeper (envOfC qual scope s.heap.objs.size f cdv)) →
      Ds (cxOf CX0 P w K mg base N qual scope f cdv A outer s H E).nox body (inSl (args y) N.length) (fun _ => res y = aNon) (fun R => Imp R (res y))) : FnOk P w K mg base CX0 (k + 1) f fd ps (spF ok args res) := by
  refine F.ok S (fun vs H Q E ⟨pl, Hc, y, g, hy, f, q⟩ => by rw [f.len, hl]) fun cdv A outer s H vs Q E hr ⟨pl, Hc, y, g, hy, f, q⟩ => ⟨_, PSs.nox pss_can, ?_⟩
  refine hb y hy cdv A outer s H E hr pl H Hc _ H _ ⟨Hc, start_ok g f⟩ (fun ρ' σ' H' e ⟨Hc', s'⟩ => q _ _ _ s'.stp (by rw [e]; exact rfl)) fun R v H' Hc' i t h => q v H' Hc' t (i h)
end
end Da
set_option Elab.async false
set_option linter.all false
set_option maxRecDepth 100000
set_option maxHeartbeats 4000000
namespace Da
open PySem PySem.Spec PyProof.Rows L2
/-! ### starred targets -/
/-- all of a heap but one object -/
def allBut (h : Heap) (L : Addr) : List (Addr × Obj) := (List.range h.objs.size).filterMap fun a => if a = L then none else (h.get? a).map fun o => (a, o)
theorem allBut_mem {h : Heap} {L a : Addr} {o : Obj} : (a, o) ∈ allBut h L ↔ a ≠ L ∧ h.get? a = some o := by
  unfold allBut
  rw [List.mem_filterMap]
  constructor
  · rintro ⟨b, _, e⟩
    by_cases hb : b = L
    · rw [if_pos hb] at e
      cases e
    · rw [if_neg hb] at e
      cases q : h.get? b with
      | none =>
        rw [q] at e
        cases e
      | some u =>
        rw [q] at e
        cases e
        exact ⟨hb, q⟩
  · rintro ⟨hb, e⟩
    exact ⟨a, List.mem_range.mpr (Heap.lt_size e), by rw [if_neg hb, e]; rfl⟩
def noHeap : Heap := { (default : Heap) with objs := #[] }
theorem noHeap_get {b : Addr} : noHeap.get? b = none := by
  cases e : noHeap.get? b with
  | none => rfl
  | some o => exact absurd (Heap.lt_size e) (Nat.not_lt_zero _)
theorem objOk_there {P : Program} {w : World} {H : Hp} {h : Heap} {a : Addr} {o : HO} (x : ObjOk P w H h a o) : ∃ u, h.get? a = some u := by
  cases o with
  | lst _ => exact ⟨_, x.2.choose_spec.choose_spec.2⟩
  | tup _ => obtain ⟨_, _, _, o, e, _⟩ := x; exact ⟨o, e⟩
  | dK _ => obtain ⟨_, _, _, _, o, _, _, e, _⟩ := x; exact ⟨o, e⟩
  | dT _ => obtain ⟨_, _, _, _, o, _, _, e, _⟩ := x; exact ⟨o, e⟩
  | set _ _ => obtain ⟨o, _, _, _, e, _⟩ := x; exact ⟨o, e⟩
  | ins _ _ _ => obtain ⟨_, _, _, e, _⟩ := x; exact ⟨_, e⟩
  | own _ => exact x
  | xd _ => obtain ⟨_, ⟨o, _, _, e, _⟩, _⟩ := x; exact ⟨o, e⟩
  | rng _ _ => obtain ⟨_, _, _, e⟩ := x; exact ⟨_, e⟩
  | frz _ _ => exact ⟨_, x.1⟩
  | tbl _ => exact ⟨_, x⟩
  | met _ _ => exact ⟨_, x⟩
  | ext _ => exact x.2.1
/-- behind a change in which all but the namespace is as it was, and the namespace reads the same -/
theorem inv_star {X : Cx} {pins : List (Addr × Obj)} {σ : L2.St} {H : Hp} {s : Shared} (I : Inv X pins σ H s) {D : Addr} {h' : Heap} {tk : Nat} {m : Str → Option Value} {xs : List V} {us : List Value} (hm : s.heap.Ns X.env.locals m) (hn : h'.Ns X.env.locals m)
    (k : ∀ b o, b ≠ X.env.locals → s.heap.get? b = some o → h'.get? b = some o) (hD : H D = none) (hDL : D ≠ X.env.locals) (hs : s.heap.get? D = none) (hl : h'.get? D = some (PySem.W.listOf us.toArray 0)) (r : Vals xs us) (hz : xs.length ≤ sizeLine) : Inv X pins σ (upd H D (.lst xs)) { s with heap := h', toks := tk } := by
  have nL : ∀ b u, H b = some u → b ≠ X.env.locals := fun b u e z => by
    rw [z, I.free] at e
    cases e
  refine I.step (g' := s.gens) (d' := s.drawn) (ch := []) (fun b hb => by cases hb) (fun b o h1 _ _ e _ => k b o h1 e) (fun b o h1 _ _ e _ => ⟨o.slots, k b o h1 e⟩) (fun b o _ e n => ?_) (fun b o _ e => ?_) (fun b xs e => ?_) (fun b o u e => ?_) (fun b ps e => ?_) (fun m' hm' => ?_) (fun b u e => ?_) I.bare
  · rw [upd_ne (fun z => by rw [z, hs] at e; cases e)]
    exact n
  · by_cases hb : b = X.env.locals
    · rw [hb]
      obtain ⟨o', _, _, e', _⟩ := hn
      exact ⟨o', e'⟩
    · exact ⟨o, k b o hb e⟩
  · rw [upd_ne (ne_of_none e hD)]
    exact e
  · rw [upd_ne (ne_of_none e hD)]
    exact e
  · rw [upd_ne (ne_of_none e hD)]
    exact ⟨#[], by rw [e]; simp⟩
  · obtain ⟨o, es, ep, e1, e2, e3, e4⟩ := hm
    obtain ⟨o', es', ep', f1, f2, f3, f4⟩ := hm'
    obtain ⟨o2, es2, ep2, g1, g2, g3, g4⟩ := hn
    rw [e1] at f1
    cases f1
    rw [e2] at f2
    cases f2
    exact ⟨o2, es2, ep2, g1, g2, g3, fun nm => (g4 nm).trans ((e4 nm).symm.trans (f4 nm))⟩
  · by_cases hb : b = D
    · subst hb
      rw [upd_same] at e
      cases e
      exact ⟨hz, us, 0, r, hl⟩
    · rw [upd_ne hb] at e
      refine (I.hok b u e).stay (fun c v hc q => k c v ?_ q) (fun c q => by rw [upd_ne (ne_of_none q hD)]; exact q) fun c xs q => by rw [upd_ne (ne_of_none q hD)]; exact q
      rcases hc with z | z
      · rw [z]
        exact nL b u e
      · exact nL c _ z
theorem vals_take {xs : List V} {us : List Value} (r : Vals xs us) (n : Nat) : Vals (xs.take n) (us.take n) := r.take n
/-- the values that the targets are given: first, the new list, last -/
def gStar (sq : Hp → Addr → List V → Prop) (n i : Nat) (t : TGs) : TG := fun v σ H Q => ∃ a xs, v = .ref a ∧ sq H a xs ∧ n ≤ xs.length + 1 ∧ xs.length ≤ 16384 ∧
  ∀ D, H D = none → t (xs.take i ++ [.ref D] ++ (xs.drop i).drop (xs.length + 1 - n)) σ (upd H D (.lst ((xs.drop i).take (xs.length + 1 - n)))) Q
section
variable {X : Cx} {ts : List Expr} {k : Nat} {pos : Pos} {t : TGs} {n i : Nat}
theorem pg_starT (hc : X.calm = true) (h : PGs X ts t) (hi : i < n) (hn : (assignEach ts X.env).length = n := by rfl) (hst : (assignEach ts X.env).findIdx? (·.1) = some i := by rfl) : PG X (.Tuple ts k pos) (gStar (SqT X.K) n i t) := by
  refine ⟨fun pins s σ H v u Q I r hw => ?_⟩
  obtain ⟨a, xs, e1, hq, hl, hz, hw⟩ := hw
  subst e1
  cases r
  obtain ⟨its, rv, ht, hz2⟩ := I.tuple hq
  obtain ⟨m, hm, _⟩ := I.loc
  have hlen := rv.length
  refine PySem.W.kun_assignT (h₀ := noHeap) (L := X.env.locals) (m := m) (news := allBut s.heap X.env.locals) ⟨hm, fun b o e => (by rw [noHeap_get] at e; cases e), Nat.zero_le _⟩ (fun p hp => let q := allBut_mem.mp hp; ⟨q.2, q.1, noHeap_get⟩) ht (I.ok.hd hc) hn hst hi
    (by rw [List.size_toArray]; omega) (by rw [List.size_toArray]; omega) rfl rfl rfl fun D h' tk F N lt => ?_
  simp only [List.size_toArray, ← hlen] at N ⊢
  have hD := N _ (List.mem_cons_self ..)
  have hs : s.heap.get? D = none := by
    cases e : s.heap.get? D with
    | none => rfl
    | some o => exact absurd (lt _ (allBut_mem.mpr ⟨hD.2.1, e⟩)) (Nat.lt_irrefl _)
  have hH : H D = none := by
    cases e : H D with
    | none => rfl
    | some o =>
      obtain ⟨o', h4⟩ := objOk_there (I.hok D o e)
      rw [hs] at h4
      cases h4
  have I1 := inv_star (tk := tk) I (xs := (xs.drop i).take (xs.length + 1 - n)) hm F.ns (fun b o hb e => (N _ (List.mem_cons_of_mem _ (allBut_mem.mpr ⟨hb, e⟩))).1) hH hD.2.1 hs hD.1 ((rv.drop _).take _) (by rw [List.length_take, List.length_drop]; omega)
  exact h.run pins _ σ _ _ _ Q I1 (((rv.take i).append (.cons (show RelV (.ref D) (.ref D) from rfl) .nil)).append ((rv.drop i).drop _)) (hw D hH)
theorem pg_starL (hc : X.calm = true) (h : PGs X ts t) (hi : i < n) (hn : (assignEach ts X.env).length = n := by rfl) (hst : (assignEach ts X.env).findIdx? (·.1) = some i := by rfl) : PG X (.Tuple ts k pos) (gStar (SqL X.K) n i t) := by
  refine ⟨fun pins s σ H v u Q I r hw => ?_⟩
  obtain ⟨a, xs, e1, hq, hl, hz, hw⟩ := hw
  subst e1
  cases r
  obtain ⟨its, rv, ht, hz2⟩ := I.list hq
  obtain ⟨m, hm, _⟩ := I.loc
  have hlen := rv.length
  refine PySem.W.kun_assignL (h₀ := noHeap) (L := X.env.locals) (m := m) (news := allBut s.heap X.env.locals) ⟨hm, fun b o e => (by rw [noHeap_get] at e; cases e), Nat.zero_le _⟩ (fun p hp => let q := allBut_mem.mp hp; ⟨q.2, q.1, noHeap_get⟩) ht.isList (I.ok.hd hc) hn hst hi
    (by rw [List.size_toArray]; omega) (by rw [List.size_toArray]; omega) rfl rfl rfl fun D h' tk F N lt => ?_
  simp only [List.size_toArray, ← hlen] at N ⊢
  have hD := N _ (List.mem_cons_self ..)
  have hs : s.heap.get? D = none := by
    cases e : s.heap.get? D with
    | none => rfl
    | some o => exact absurd (lt _ (allBut_mem.mpr ⟨hD.2.1, e⟩)) (Nat.lt_irrefl _)
  have hH : H D = none := by
    cases e : H D with
    | none => rfl
    | some o =>
      obtain ⟨o', h4⟩ := objOk_there (I.hok D o e)
      rw [hs] at h4
      cases h4
  have I1 := inv_star (tk := tk) I (xs := (xs.drop i).take (xs.length + 1 - n)) hm F.ns (fun b o hb e => (N _ (List.mem_cons_of_mem _ (allBut_mem.mpr ⟨hb, e⟩))).1) hH hD.2.1 hs hD.1 ((rv.drop _).take _) (by rw [List.length_take, List.length_drop]; omega)
  exact h.run pins _ σ _ _ _ Q I1 (((rv.take i).append (.cons (show RelV (.ref D) (.ref D) from rfl) .nil)).append ((rv.drop i).drop _)) (hw D hH)
theorem pgs_star {e : Expr} {es : List Expr} {p : Pos} {t : TG} {u : TGs} (h1 : PG X e t) (h2 : PGs X es u)
    (hs : (assignEach (.Starred e p :: es) X.env).map (·.2) = assign e X.env :: (assignEach es X.env).map (·.2) := by rfl) : PGs X (.Starred e p :: es) (gCons t u) := by
  refine ⟨fun pins s σ H vs us Q I r h => ?_⟩
  obtain ⟨v, vr, e1, h⟩ := h
  subst e1
  cases r with
  | cons r rr =>
    rw [hs]
    exact assignInOrder_cons (thn (h1.run pins s σ H _ _ _ I r h) fun _ s1 ⟨σ1, H1, I1, q1⟩ => h2.run pins s1 σ1 H1 _ _ Q I1 rr q1)
theorem dgs_star {P0 : As} {Ps0 Ps Qs : List As} {is js : List Nat} {e : Expr} {es : List Expr} {p : Pos} (h1 : Dg X e P0 is Ps) (h2 : DgS X es Ps0 js Qs) (hs : (assignEach (.Starred e p :: es) X.env).map (·.2) = assign e X.env :: (assignEach es X.env).map (·.2) := by rfl) : DgS X (.Starred e p :: es) (P0 :: Ps0) (is ++ js) (Ps ++ Qs) := fun pl σ H Hc us g h Q q => by
  cases h with
  | cons a r =>
    refine tGs_of (pgs_star pg_can pgs_can hs) ⟨_, _, rfl, h1 pl σ H Hc _ g a _ fun vs f l => h2 pl _ H Hc _ g r _ fun vs' f' l' => ?_⟩
    have := q (vs ++ vs') (f.app f') (by rw [List.length_append, List.length_append, l, l'])
    rw [setAll_app l] at this
    exact this
def setSl (ρ : Slots) (is : List Nat) (Ts : List As) : Slots := (is.zip Ts).foldl (fun r q => r.set q.1 (.v q.2)) ρ
theorem SOk.setAll {pl : Option Addr} {H0 Hc0 H Hc : Hp} : ∀ {is : List Nat} {vs : List V} {Qs : List As} {ρ : Slots} {σ : L2.St}, SOk pl H0 Hc0 ρ σ H Hc → Fits pl Hc vs Qs → vs.length = is.length → SOk pl H0 Hc0 (setSl ρ is Qs) (setAll σ is vs) H Hc
  | [], _, _, _, _, s, .nil, _ => s
  | [], _, _, _, _, _, .cons _ _, h => by cases h
  | _ :: _, _, _, _, _, _, .nil, h => by cases h
  | i :: is, _, _, _, _, s, .cons a t, h => SOk.setAll (is := is) (s.setV i a) t (by simpa using h)
section
variable {ρ : Slots} {N : Slots → Prop} {R : As → Prop} {spos : Pos} {e : Expr} {rest : List Stmt} {Ps0 Ps : List As} {is : List Nat}
/-- .. *rest .. = a tuple, a list -/
theorem ds_starT (n i : Nat) (hc : X.calm = true) (he : De X e (exR ρ) (aTup X.K Ps0)) (hl : n ≤ Ps0.length + 1) (hz : Ps0.length ≤ 16384) (hg : DgS X ts (Ps0.take i ++ [aLst ((Ps0.drop i).take (Ps0.length + 1 - n))] ++ (Ps0.drop i).drop (Ps0.length + 1 - n)) is Ps) (kk : Ds X rest (setSl ρ is Ps) N R) (hi : i < n := by decide)
    (hn : (assignEach ts X.env).length = n := by rfl) (hst : (assignEach ts X.env).findIdx? (·.1) = some i := by rfl) (hs : swapsWithSole [.Tuple ts k pos] e spos.line X.env = pure false := by rfl) (hw : swappedStores [.Tuple ts k pos] e X.env = pure none := by rfl) (h1 : (assignEach [.Tuple ts k pos] X.env).map (·.2) = [assign (.Tuple ts k pos) X.env] := by rfl) :
    Ds X (.Assign [.Tuple ts k pos] e spos :: rest) ρ N R := fun pl H0 Hc0 σ H D ⟨Hc, s⟩ hnx hr => by
  refine tSs_of (pss_cons (ps_asg pe_can (pg_starT hc pgs_can hi hn hst) hs hw h1) pss_can) (he pl σ H Hc s.stp.gd s.env _ fun v H1 Hc1 t ⟨a, vs, e1, e2, f⟩ => ⟨a, vs, e1, same_t t.gd.sub e2, by rw [f.len]; exact hl, by rw [f.len]; exact hz, fun D' hD => ?_⟩)
  have cn := clean_none t.gd hD
  have st := t.trans (Stp.alloc t.gd hD (.lst ((vs.drop i).take (vs.length + 1 - n))))
  rw [f.len] at st ⊢
  have fits : Fits pl (upd Hc1 D' (.lst ((vs.drop i).take (Ps0.length + 1 - n)))) (vs.take i ++ [.ref D'] ++ (vs.drop i).drop (Ps0.length + 1 - n)) (Ps0.take i ++ [aLst ((Ps0.drop i).take (Ps0.length + 1 - n))] ++ (Ps0.drop i).drop (Ps0.length + 1 - n)) := by
    have sm : Same Hc1 (upd Hc1 D' (.lst ((vs.drop i).take (Ps0.length + 1 - n)))) := same_new cn
    exact (((f.take i).mono sm).app (.cons (b := aLst ((Ps0.drop i).take (Ps0.length + 1 - n))) ⟨D', _, rfl, upd_same, ((f.drop i).take _).mono sm⟩ .nil)).app (((f.drop i).drop _).mono sm)
  exact hg pl σ _ _ _ st.gd fits _ fun us f2 l2 => kk pl H0 Hc0 _ _ D ⟨_, (s.step st).setAll f2 l2⟩ hnx hr
theorem ds_starL (n i : Nat) (hc : X.calm = true) (he : De X e (exR ρ) (aLst Ps0)) (hl : n ≤ Ps0.length + 1) (hz : Ps0.length ≤ 16384) (hg : DgS X ts (Ps0.take i ++ [aLst ((Ps0.drop i).take (Ps0.length + 1 - n))] ++ (Ps0.drop i).drop (Ps0.length + 1 - n)) is Ps) (kk : Ds X rest (setSl ρ is Ps) N R) (hi : i < n := by decide)
    (hn : (assignEach ts X.env).length = n := by rfl) (hst : (assignEach ts X.env).findIdx? (·.1) = some i := by rfl) (hs : swapsWithSole [.Tuple ts k pos] e spos.line X.env = pure false := by rfl) (hw : swappedStores [.Tuple ts k pos] e X.env = pure none := by rfl) (h1 : (assignEach [.Tuple ts k pos] X.env).map (·.2) = [assign (.Tuple ts k pos) X.env] := by rfl) :
    Ds X (.Assign [.Tuple ts k pos] e spos :: rest) ρ N R := fun pl H0 Hc0 σ H D ⟨Hc, s⟩ hnx hr => by
  refine tSs_of (pss_cons (ps_asg pe_can (pg_starL hc pgs_can hi hn hst) hs hw h1) pss_can) (he pl σ H Hc s.stp.gd s.env _ fun v H1 Hc1 t ⟨a, vs, e1, e2, f⟩ => ⟨a, vs, e1, SqL.of (t.gd.sub _ _ e2), by rw [f.len]; exact hl, by rw [f.len]; exact hz, fun D' hD => ?_⟩)
  have cn := clean_none t.gd hD
  have st := t.trans (Stp.alloc t.gd hD (.lst ((vs.drop i).take (vs.length + 1 - n))))
  rw [f.len] at st ⊢
  have fits : Fits pl (upd Hc1 D' (.lst ((vs.drop i).take (Ps0.length + 1 - n)))) (vs.take i ++ [.ref D'] ++ (vs.drop i).drop (Ps0.length + 1 - n)) (Ps0.take i ++ [aLst ((Ps0.drop i).take (Ps0.length + 1 - n))] ++ (Ps0.drop i).drop (Ps0.length + 1 - n)) := by
    have sm : Same Hc1 (upd Hc1 D' (.lst ((vs.drop i).take (Ps0.length + 1 - n)))) := same_new cn
    exact (((f.take i).mono sm).app (.cons (b := aLst ((Ps0.drop i).take (Ps0.length + 1 - n))) ⟨D', _, rfl, upd_same, ((f.drop i).take _).mono sm⟩ .nil)).app (((f.drop i).drop _).mono sm)
  exact hg pl σ _ _ _ st.gd fits _ fun us f2 l2 => kk pl H0 Hc0 _ _ D ⟨_, (s.step st).setAll f2 l2⟩ hnx hr
end
end
end Da
set_option Elab.async false
set_option linter.all false
set_option maxRecDepth 100000
set_option maxHeartbeats 4000000
/-! len(set(t)), t a tuple of texts that are all different -/
namespace Da.SetT
open PySem PySem.Spec PyProof.Rows
abbrev Of (P : Program) (w : World) (h : Heap) (S : Addr) (zs : List Str) : Prop := h.SetOf (PySem.strKind P w) S (fun z => decide (z ∈ zs)) zs.length
theorem Of.at_ {P : Program} {w : World} {h h' : Heap} {S : Addr} {zs : List Str} (x : Of P w h S zs) (k : ∀ o, h.get? S = some o → h'.get? S = some o) : Of P w h' S zs :=
  let ⟨o, es, ep, t, ho, r⟩ := x; ⟨o, es, ep, t, k o ho, r⟩
section
variable {P : Program} {w : World} {A : Around} {R : Result → Shared → Prop} {J S : Addr} {fp wr : List Addr} {G : Array GenState → Array GenState → Prop} {n : Nat} {Pv : Nat → Value → Prop} {St : Nat → Shared → Prop}
theorem loop (W : WalksS P w A.in1 J fp wr G n Pv St) (hS : S ∉ fp) (zs : List Str) (nd : zs.Nodup) (hl : zs.length = n) (hv : ∀ i v, Pv i v → ∃ z t, zs[i]? = some z ∧ v = .str z t) (hb : n + 1 < scanBound) :
    ∀ (m i : Nat) (s : Shared), n - i = m → i ≤ n → St i s → Of P w s.heap S (zs.take i) → (∀ s', Moved (S :: wr) G s s' → Of P w s'.heap S zs → R (.ok (.ret .none)) s') →
      codeAny (model P w) A (.builtin "set.update.loop" ⟨[.ref S, .ref J], []⟩) R s := by
  have nw : S ∉ wr := fun h => hS (W.sub _ h)
  have up : ∀ b ∈ wr, b ∈ S :: wr := fun b hb => List.mem_cons_of_mem _ hb
  intro m
  induction m with
  | zero =>
    rintro i s hm hi st so fin
    obtain rfl : i = n := by omega
    refine codeAny_builtin F.entry_set_update_loop ?_
    rw [Around.under_plainId F.plain_set_update_loop _]
    refine wpAny_bind (W.done s _ _ st fun s' mv => wpAny_pure (fin s' (mv.mono up) ?_))
    rw [List.take_of_length_le (by omega)] at so
    exact so.at_ fun o e => mv.heap S _ nw e
  | succ m ih =>
    rintro i s hm hi st so fin
    have lt : i < n := by omega
    refine codeAny_builtin F.entry_set_update_loop ?_
    rw [Around.under_plainId F.plain_set_update_loop _]
    refine wpAny_bind (W.item i s _ _ lt st fun v s1 pv st1 mv => ?_)
    obtain ⟨z, t, hz, rfl⟩ := hv i v pv
    have so1 : Of P w s1.heap S (zs.take i) := so.at_ fun o e => mv.heap S _ nw e
    refine wpAny_bind (wpAny_holding ?_)
    unfold setAdd
    refine wpAny_holding (wpAny_bind ((PySem.strKind P w).pyHash (k := z) (strKind_is _ _ _ _) ?_))
    refine wpAny_setAddHashed_of (knd := PySem.strKind P w) (s := { s1 with toks := s1.toks + 1 }) (strKind_is _ _ _ _) rfl so1 (by rw [List.length_take]; omega) fun h2 sb so2 => ?_
    have new : z ∉ zs.take i := fun hin => by
      obtain ⟨j, hj, ej⟩ := List.mem_iff_getElem.mp hin
      rw [List.length_take] at hj
      rw [List.getElem_take] at ej
      obtain ⟨hi2, ei⟩ := List.getElem?_eq_some_iff.mp hz
      exact (List.pairwise_iff_getElem.mp nd) j i (by omega) hi2 (by omega) (ej.trans ei.symm)
    have so3 : Of P w h2 S (zs.take (i + 1)) := by
      have e : zs.take (i + 1) = zs.take i ++ [z] := Da.take_more hz
      refine SetOf_congr so2 (fun y => ?_) ?_
      · rw [e]
        by_cases hy : y = z
        · subst hy
          simp
        · simp [hy]
      · rw [if_neg (by simpa using new), e, List.length_append, List.length_singleton]
    refine wpAny_pure ⟨plainId_quiet F.plain_set_update_loop _, ih (i + 1) _ (by omega) lt (W.frame _ s1 _ _ st1 (Nat.le_succ _) fun b hbf o e => (sb.2 b fun q => hS (q ▸ hbf)).trans e) so3 fun s3 mv3 so4 => ?_⟩
    exact fin s3 (Moved.trans W.gtrans ((mv.mono up).then_heap (Nat.le_succ _) fun b o hbn e => (sb.2 b fun q => hbn (q ▸ List.mem_cons_self)).trans e) mv3) so4
end
section
variable {P : Program} {w : World} {A : Around} {E : Value → Shared → Prop} {s : Shared}
set_option maxHeartbeats 3200000 in
theorem callT {l : Addr} {its : Array Value} {zs : List Str} {Q : Value → Shared → Prop} (hh : A.handled = none) (ht : IsTup s.heap l its) (r : StrsAre its.toList zs) (nd : zs.Nodup) (hb : zs.length + 1 < scanBound)
    (fin : ∀ (h2 : Heap) (tk : Nat), Of P w h2 s.heap.objs.size zs → (∀ b o, b < s.heap.objs.size → s.heap.get? b = some o → h2.get? b = some o) → Q (.ref s.heap.objs.size) { s with heap := h2, toks := tk }) :
    wpAny (model P w) A (call (.type "set") [.ref l]) Q E s := by
  obtain ⟨_, _, hmro⟩ := PySem.F.called_set.mro
  have hmade := PySem.F.called_set.made
  have hsub := PySem.F.called_set.sub
  have hn := PySem.F.called_set.notType
  have hcc := PySem.F.called_set.canCreate
  have hct := PySem.F.typeCall_set_1 (.ref l)
  have hsz : its.size = zs.length := by
    have := StrsAre.len_eq r
    rw [Array.length_toList] at this
    exact this
  refine wpAny_call (codeAny_of_tree ?_)
  show wpAny _ _ (callAny (.type "set") _) _ _ _
  refine wpAny_pure ⟨Code.quiet_builtin _ (by decide +kernel), codeAny_builtin PySem.F.entry_type_call ?_⟩
  rw [Around.under_plain (weight_type_call_type "set" [.ref l] []) rfl]
  repeat (any_goals (first | assumption | wp_step))
  refine codeAny_mono (code_set_new_1 (.ref l) (E := E) (Q₁ := fun v u => ∃ led : Bool, v = .ref s.heap.objs.size ∧ u = { s with heap := s.heap.push { cls := .type "set", dict := none, data := .set #[] 0 (.fresh 0 0 led) } }) fun led => ⟨led, rfl, rfl⟩) fun r1 s1 q1 => ?_
  rcases r1 with e | fl
  · exact q1
  cases fl with
  | ret v =>
    obtain ⟨led, rfl, rfl⟩ := q1
    have at0 : (s.heap.push { cls := .type "set", dict := none, data := .set #[] 0 (.fresh 0 0 led) }).get? s.heap.objs.size = some { cls := .type "set", dict := none, data := .set #[] 0 (.fresh 0 0 led) } := Heap.get?_push_size _ rfl
    have hT : Shared.TypeIs { s with heap := s.heap.push { cls := .type "set", dict := none, data := .set #[] 0 (.fresh 0 0 led) } } (.ref s.heap.objs.size) "set" := ⟨_, at0, rfl⟩
    have hli := PySem.F.called_set.init.lookup
    have hbi := PySem.F.called_set.init.bind (.ref s.heap.objs.size)
    repeat (any_goals (first | assumption | wp_step))
    refine codeAny_mono (codeAny_call_builtin (R := wants (fun v u => v = .none ∧ ∃ h2 tk, u = { s with heap := h2, toks := tk } ∧ Of P w h2 s.heap.objs.size zs ∧ ∀ b o, b < s.heap.objs.size → s.heap.get? b = some o → h2.get? b = some o) E) PySem.F.called_set.init.plain PySem.F.entry_set_init (check_set_init_1 hT ?_)) fun r2 s2 q2 => ?_
    · obtain ⟨⟨cl, dd, da, sl⟩, hol, hcl, nl, hdl⟩ := ht
      simp only at hcl hdl
      subst hcl hdl
      have at1 : (s.heap.push { cls := .type "set", dict := none, data := .set #[] 0 (.fresh 0 0 led) }).get? l = some { cls := .type "tuple", dict := dd, data := .seq its nl, slots := sl } := Heap.get?_push_of_some _ hol
      have sub1 := PySem.F.sub_tuple_set
      have sub2 := PySem.F.sub_tuple_frozenset
      have hne : (Value.type "tuple" == Value.type "dict") = false := by decide
      have tup1 : (s.heap.push { cls := .type "set", dict := none, data := .set #[] 0 (.fresh 0 0 led) }).IsTuple l its := ⟨_, at1, rfl, nl, rfl⟩
      unfold Builtin.«set.__init__» noKeywords Builtin.Frozenset.updateFrom
      generalize hPI : pyIter = PI
      wp_walk
      subst hPI
      refine wpAny_pyIter_tuple tup1 ?_
      refine wpAny_bind (wpAny_runValue ?_)
      have hlS : l < s.heap.objs.size := Heap.lt_size hol
      have hd : A.in1.in1.in1.handled = none := by simp [hh]
      have nI : l ≠ (s.heap.push { cls := .type "set", dict := none, data := .set #[] 0 (.fresh 0 0 led) }).objs.size := by
        rw [Heap.size_push]
        exact Nat.ne_of_lt (Nat.lt_succ_of_lt hlS)
      refine loop ((Walks.tuple hd _ l nI its).toS) (by rw [Heap.size_push]; simp only [List.mem_cons, List.not_mem_nil, or_false, not_or]; exact ⟨Nat.ne_of_lt (Nat.lt_succ_self _), Nat.ne_of_gt hlS⟩) zs nd hsz.symm (fun i v e => ?_) (by rw [hsz]; exact hb) (its.size - 0) 0 _ (by omega) (Nat.zero_le _) ⟨⟨_, Heap.get?_push_size _ rfl, rfl, rfl⟩, tup1.push _⟩ ?_ fun u mv so => ?_
      · obtain ⟨t, e2⟩ := SS.strs_at r i v (by rw [Array.getElem?_toList]; exact e)
        have hi : i < zs.length := by
          rw [← hsz]
          exact (Array.getElem?_eq_some_iff.mp e).1
        exact ⟨zs[i], t, List.getElem?_eq_getElem hi, by rw [e2, List.getD_eq_getElem?_getD, List.getElem?_eq_getElem hi]; rfl⟩
      · exact SetOf_congr ((setObjOf_fresh (knd := PySem.strKind P w) led).setOf (Heap.get?_push_of_some _ at0) (by unfold scanBound; omega)) (fun z => by simp) (by simp)
      · obtain ⟨h2, g2, d2, tk2, os2⟩ := u
        obtain rfl : g2 = s.gens := mv.gens
        obtain rfl : d2 = s.drawn := mv.drawn
        obtain rfl : os2 = s.os := mv.os
        refine wpAny_pure (show wpAny _ _ (ret Value.none) _ _ _ from wpAny_pure ⟨rfl, h2, tk2, rfl, so, fun b o hb e => mv.heap b o ?_ (Heap.get?_push_of_some _ (Heap.get?_push_of_some _ e))⟩)
        simp only [List.mem_cons, List.not_mem_nil, or_false, not_or]
        exact ⟨Nat.ne_of_lt hb, by rw [Heap.size_push]; exact Nat.ne_of_lt (Nat.lt_succ_of_lt hb)⟩
    · rcases r2 with e | fl2
      · exact q2
      cases fl2 with
      | ret v2 =>
        obtain ⟨rfl, h2, tk, rfl, so, keep⟩ := q2
        repeat (any_goals (first | assumption | wp_step))
        exact fin _ _ so keep
      | _ => exact q2.elim
  | _ => exact q1.elim
end
section
open L2
variable {X : Cx}
/-- .. or a list or tuple of no text or one -/
def tLen (K : PySem.W.Frag) (ta : TE) : TE := fun σ H Q => ta σ H fun x H1 => ∃ l, ∃ zs : List Str, x = .ref l ∧ SqT K H1 l (zs.map V.str) ∧ zs.Nodup ∧ zs.length < 1000 ∧ Q (.int zs.length) H1
theorem pe_len {a : Expr} {ta : TE} {p p2 q pos : Pos} (hc : X.calm = true) (hg : Gl X "len") (hm : X.mg "len" = none) (hg2 : Gl X "set") (hm2 : X.mg "set" = none) (ha : PE X a ta)
    (na : starEach [a] X.env = (false, eval a X.env) :: starEach [] X.env := by rfl) : PE X (.Call (.Name "len" p) [.Call (.Name "set" p2) [a] [] q] [] pos) (tLen X.K ta) := by
  refine ⟨fun pins s σ H Q I h => Call_ (ld_blt I hg hm boot_len (PyProof.Rows.callWith_builtin1 (PyProof.Rows.args_cons ?_ rfl) rfl rfl))⟩
  refine Call_ (ld_blt I hg2 hm2 boot_set (PyProof.Rows.callWith_type1 (PyProof.Rows.args_cons (thn (ha.run pins s σ H _ I h) fun v s1 ⟨x, H1, I1, r1, l, zs, ex, hq, nd, hz, q1⟩ => PyProof.Rows.args_nil ?_) na) na rfl))
  subst ex
  cases r1
  obtain ⟨its, r, ht, _⟩ := I1.tuple hq
  have hb : zs.length + 1 < scanBound := Nat.lt_of_lt_of_le (Nat.succ_lt_succ hz) (by decide)
  refine callT (I1.ok.hd hc) ht (by simpa using strsAre_of r) nd hb fun h2 tk so keep => PyProof.Rows.args_nil ?_
  obtain ⟨o, es, ep, t, ho, hex, hd, _, _, _, hf, hn⟩ := so
  have I2 : Inv X pins σ H1 { s1 with heap := h2, toks := tk } := I1.kept fun b o e => keep b o (Heap.lt_size e) e
  have hfew : zs.length < 2 ^ 62 := Nat.lt_trans hz (by decide)
  exact call_len_set ho hex hd hf (by rw [hn]; omega) ⟨.int zs.length, H1, I2.tok _, ⟨_, by rw [hn]⟩, q1⟩
end
end Da.SetT
namespace Da
open PySem PySem.Spec PyProof.Rows L2
section
variable {X : Cx} {ρ : Rho} {pos p p2 q : Pos} {a : Expr}
theorem d_lenSetT {zs : List Str} (hc : X.calm = true) (hm : X.mg "len" = none) (hm2 : X.mg "set" = none) (ha : De X a ρ (aTup X.K (zs.map aStr))) (nd : zs.Nodup) (hz : zs.length < 1000) (hg : Gl X "len" := by rfl) (hg2 : Gl X "set" := by rfl)
    (na : starEach [a] X.env = (false, eval a X.env) :: starEach [] X.env := by rfl) : De X (.Call (.Name "len" p) [.Call (.Name "set" p2) [a] [] q] [] pos) ρ (aInt (zs.length : Int)) := fun pl σ H Hc g ev Q k =>
  tE_of (SetT.pe_len hc hg hm hg2 hm2 pe_can na) (ha pl σ H Hc g ev _ fun v H1 Hc1 s1 ⟨l, vs, e1, e2, f⟩ => ⟨l, zs, e1, by rw [← fits_map (f := V.str) f]; exact same_t s1.gd.sub e2, nd, hz, k _ _ _ s1 rfl⟩)
theorem d_lenSet0 (hc : X.calm = true) (hm : X.mg "len" = none) (hm2 : X.mg "set" = none) (ha : De X a ρ (aLst [])) (hg : Gl X "len" := by rfl) (hg2 : Gl X "set" := by rfl)
    (na : starEach [a] X.env = (false, eval a X.env) :: starEach [] X.env := by rfl) : De X (.Call (.Name "len" p) [.Call (.Name "set" p2) [a] [] q] [] pos) ρ (aInt 0) := fun pl σ H Hc g ev Q k =>
  tE_of (pe_lenSet hc hg hm hg2 hm2 pe_can na) (ha pl σ H Hc g ev _ fun v H1 Hc1 s1 ⟨l, vs, e1, e2, f⟩ => ⟨l, [], e1, .inl (by cases f; exact SqL.of (s1.gd.sub _ _ e2)), Nat.zero_le _, k _ _ _ s1 rfl⟩)
end
end Da
set_option Elab.async false
set_option linter.all false
set_option maxRecDepth 100000
set_option maxHeartbeats 4000000
namespace Da
open PySem PySem.Spec PyProof.Rows L2
section
variable {X : Cx} {ρ : Rho} {pos p p2 q : Pos} {a b c e : Expr} {P P' R : As} {Ps Qs : List As} {tg : Expr} {rest : List Expr}
/-! ### chains of <= -/
theorem ifT {c A B : Prop} [Decidable c] (h : c) (x : A) : if c then A else B := by
  rw [if_pos h]
  exact x
theorem ifF {c A B : Prop} [Decidable c] (h : ¬ c) (x : B) : if c then A else B := by
  rw [if_neg h]
  exact x
theorem chain_run {i j k : Int} (ha : De X a ρ (aInt i)) (hb : De X b ρ (aInt j)) (hc : De X c ρ (aInt k)) {pl : Option Addr} {σ : L2.St} {H Hc : Hp} (g : Gd pl H Hc) (ev : EnvOk pl Hc σ ρ) {Q : VK} (kk : Out pl H Hc (aBl (decide (i ≤ j) && decide (j ≤ k))) Q) :
    tChain (rI0 fun i j => .bl (decide (i ≤ j))) (rI0 fun i j => .bl (decide (i ≤ j))) (tE X a) (tE X b) (tE X c) σ H Q :=
  ha pl σ H Hc g ev _ fun v H1 Hc1 s1 h1 => hb pl σ H1 Hc1 s1.gd (ev.mono s1.cl) _ fun u H2 Hc2 s2 h2 => ⟨i, j, h1, h2, _, rfl, by
    have s12 := s1.trans s2
    by_cases h : i ≤ j
    · rw [decide_eq_true h, Bool.true_and] at kk
      refine ifT (decide_eq_true h) ?_
      exact hc pl σ H2 Hc2 s2.gd (ev.mono s12.cl) _ fun w H3 Hc3 s3 h3 => ⟨j, k, h2, h3, kk _ _ _ (s12.trans s3) rfl⟩
    · rw [decide_eq_false h, Bool.false_and] at kk
      exact ifF (by rw [decide_eq_false h]; decide) (kk _ _ _ s12 rfl)⟩
theorem d_chain {i j k : Int} (ha : De X a ρ (aInt i)) (hb : De X b ρ (aInt j)) (hc : De X c ρ (aInt k)) (hm : lastMarks [CmpOp.LtE, CmpOp.LtE] [b, c] = false := by with_unfolding_all rfl) : De X (.Compare a [.LtE, .LtE] [b, c] pos) ρ (aBl (decide (i ≤ j) && decide (j ≤ k))) := fun pl σ H Hc g ev Q q =>
  tE_of (pe_chain op_le op_le pe_can pe_can pe_can hm) (chain_run ha hb hc g ev q)
theorem dt_chain {i j k : Int} (ha : De X a ρ (aInt i)) (hb : De X b ρ (aInt j)) (hc : De X c ρ (aInt k)) (hm : lastMarks [CmpOp.LtE, CmpOp.LtE] [b, c] = false := by with_unfolding_all rfl) : Dt X (.Compare a [.LtE, .LtE] [b, c] pos) ρ (decide (i ≤ j) && decide (j ≤ k)) := fun pl σ H Hc g ev Q q =>
  tT_of (pt_chain op_le op_le pe_can pe_can pe_can hm) (chain_run ha hb hc g ev fun v H' Hc' s h => ⟨_, h, q _ _ s⟩)
/-! ### the signs of a text -/
theorem di_str {z : Str} (h : De X e ρ (aStr z)) : Di X tg e ρ z.cps.toList fun c => aStr ⟨#[c]⟩ := fun pl σ H Hc g ev R q =>
  tI_of (pi_str pe_can) (h pl σ H Hc g ev _ fun v H1 Hc1 s1 hv => ⟨z, hv, q _ H1 Hc1 s1 fun i H2 Hc2 sm g2 => ⟨fun Pi hi => by
    rw [List.getElem?_map] at hi
    cases hx : z.cps.toList[i]? with
    | none =>
      rw [hx] at hi
      cases hi
    | some c =>
      rw [hx] at hi
      cases hi
      have hx2 : z.cps[i]? = some c := by rw [← Array.getElem?_toList]; exact hx
      refine ⟨(Array.getElem?_eq_some_iff.mp hx2).1, fun y H3 ⟨z1, c2, z2, z3⟩ => ⟨Hc2, by rw [z1]; exact Stp.refl g2, ?_⟩⟩
      rw [hx2] at z2
      cases z2
      exact z3, fun h1 h2 => by
    rw [List.length_map, Array.length_toList] at h1
    exact h1⟩⟩)
theorem opd_sign {c : Nat} {z : Str} : OpD (fun x y H Q => ∃ (c : Nat) (z : Str), x = .str ⟨#[c]⟩ ∧ y = .str z ∧ Q (.bl (decide (c ∈ z.cps.toList))) H) (aStr ⟨#[c]⟩) (aStr z) (aBl (decide (c ∈ z.cps.toList))) := fun _ _ _ _ _ g h1 h2 Q q => ⟨c, z, h1, h2, q.here g rfl⟩
theorem d_sign {c : Nat} {z : Str} (ha : De X a ρ (aStr ⟨#[c]⟩)) (hb : De X b ρ (aStr z)) (hm : behindInMarks .In b = false := by rfl) : De X (.Compare a [.In] [b] pos) ρ (aBl (decide (c ∈ z.cps.toList))) := d_cmp op_in_sign opd_sign ha hb hm
/-! ### in, not in -/
theorem opd_inL {K : PySem.W.Frag} {x : V} {xs : List V} {neg : Bool} (hx : flatV x = true) (hs : xs.all flatV = true) : OpD (rIn K neg) (aV x) (aLst (xs.map aV)) (aBl (if neg then !inV x xs else inV x xs)) := fun pl H Hc u v g h1 ⟨p, vs, e1, e2, f⟩ Q q =>
  ⟨p, xs, e1, .inl (by have := fits_map (f := fun y : V => y) f; rw [List.map_id'] at this; exact this ▸ SqL.of (g.sub _ _ e2)), by rw [show u = x from h1]; exact hx, hs, q.here g (by rw [show u = x from h1]; rfl)⟩
theorem opd_inT {K : PySem.W.Frag} {x : V} {xs : List V} {neg : Bool} (hx : flatV x = true) (hs : xs.all flatV = true) : OpD (rIn K neg) (aV x) (aTup K (xs.map aV)) (aBl (if neg then !inV x xs else inV x xs)) := fun pl H Hc u v g h1 ⟨p, vs, e1, e2, f⟩ Q q =>
  ⟨p, xs, e1, .inr (by have := fits_map (f := fun y : V => y) f; rw [List.map_id'] at this; exact this ▸ same_t g.sub e2), by rw [show u = x from h1]; exact hx, hs, q.here g (by rw [show u = x from h1]; rfl)⟩
theorem inV_str {z : Str} {ys : List Str} : inV (.str z) (ys.map V.str) = decide (z ∈ ys) := by
  unfold inV
  rw [List.any_map]
  induction ys with
  | nil => rfl
  | cons y r ih =>
    rw [List.any_cons, ih]
    show ((y == z) || _) = _
    by_cases h : y = z
    · subst h
      simp
    · have h' : z ≠ y := fun e => h e.symm
      simp [h, h']
theorem inV_int {z : Int} {ys : List Int} : inV (.int z) (ys.map V.int) = decide (z ∈ ys) := by
  unfold inV
  rw [List.any_map]
  induction ys with
  | nil => rfl
  | cons y r ih =>
    rw [List.any_cons, ih]
    show ((y == z) || _) = _
    by_cases h : y = z
    · subst h
      simp
    · have h' : z ≠ y := fun e => h e.symm
      simp [h, h']
theorem flatI (ys : List Int) : (ys.map V.int).all flatV = true := by
  rw [List.all_map]
  exact List.all_eq_true.mpr fun _ _ => rfl
theorem mapS (ys : List Str) : ys.map aStr = (ys.map V.str).map aV := by rw [List.map_map]; rfl
theorem mapI (ys : List Int) : ys.map aInt = (ys.map V.int).map aV := by rw [List.map_map]; rfl
section
variable {z : Str} {ys : List Str} {i : Int} {ks : List Int}
theorem d_inSL (ha : De X a ρ (aStr z)) (hb : De X b ρ (aLst (ys.map aStr))) (hm : behindInMarks .In b = false := by rfl) : De X (.Compare a [.In] [b] pos) ρ (aBl (decide (z ∈ ys))) := (d_cmp op_in_seq (opd_inL rfl (flat_strs ys)) ha (hb.as (by rw [mapS])) hm).as (by rw [← inV_str]; rfl)
theorem d_inST (ha : De X a ρ (aStr z)) (hb : De X b ρ (aTup X.K (ys.map aStr))) (hm : behindInMarks .In b = false := by rfl) : De X (.Compare a [.In] [b] pos) ρ (aBl (decide (z ∈ ys))) := (d_cmp op_in_seq (opd_inT rfl (flat_strs ys)) ha (hb.as (by rw [mapS])) hm).as (by rw [← inV_str]; rfl)
theorem d_ninSL (ha : De X a ρ (aStr z)) (hb : De X b ρ (aLst (ys.map aStr))) (hm : behindInMarks .NotIn b = false := by rfl) : De X (.Compare a [.NotIn] [b] pos) ρ (aBl (!decide (z ∈ ys))) := (d_cmp op_notIn_seq (opd_inL rfl (flat_strs ys)) ha (hb.as (by rw [mapS])) hm).as (by rw [← inV_str]; rfl)
theorem d_ninST (ha : De X a ρ (aStr z)) (hb : De X b ρ (aTup X.K (ys.map aStr))) (hm : behindInMarks .NotIn b = false := by rfl) : De X (.Compare a [.NotIn] [b] pos) ρ (aBl (!decide (z ∈ ys))) := (d_cmp op_notIn_seq (opd_inT rfl (flat_strs ys)) ha (hb.as (by rw [mapS])) hm).as (by rw [← inV_str]; rfl)
theorem d_inIL (ha : De X a ρ (aInt i)) (hb : De X b ρ (aLst (ks.map aInt))) (hm : behindInMarks .In b = false := by rfl) : De X (.Compare a [.In] [b] pos) ρ (aBl (decide (i ∈ ks))) := (d_cmp op_in_seq (opd_inL rfl (flatI ks)) ha (hb.as (by rw [mapI])) hm).as (by rw [← inV_int]; rfl)
theorem d_inIT (ha : De X a ρ (aInt i)) (hb : De X b ρ (aTup X.K (ks.map aInt))) (hm : behindInMarks .In b = false := by rfl) : De X (.Compare a [.In] [b] pos) ρ (aBl (decide (i ∈ ks))) := (d_cmp op_in_seq (opd_inT rfl (flatI ks)) ha (hb.as (by rw [mapI])) hm).as (by rw [← inV_int]; rfl)
theorem d_ninIL (ha : De X a ρ (aInt i)) (hb : De X b ρ (aLst (ks.map aInt))) (hm : behindInMarks .NotIn b = false := by rfl) : De X (.Compare a [.NotIn] [b] pos) ρ (aBl (!decide (i ∈ ks))) := (d_cmp op_notIn_seq (opd_inL rfl (flatI ks)) ha (hb.as (by rw [mapI])) hm).as (by rw [← inV_int]; rfl)
theorem d_ninIT (ha : De X a ρ (aInt i)) (hb : De X b ρ (aTup X.K (ks.map aInt))) (hm : behindInMarks .NotIn b = false := by rfl) : De X (.Compare a [.NotIn] [b] pos) ρ (aBl (!decide (i ∈ ks))) := (d_cmp op_notIn_seq (opd_inT rfl (flatI ks)) ha (hb.as (by rw [mapI])) hm).as (by rw [← inV_int]; rfl)
theorem dt_inSL (ha : De X a ρ (aStr z)) (hb : De X b ρ (aLst (ys.map aStr))) (hm : behindInMarks .In b = false := by rfl) : Dt X (.Compare a [.In] [b] pos) ρ (decide (z ∈ ys)) := (dt_cmp op_in_seq (k := inV (.str z) (ys.map V.str)) (opd_inL (neg := false) rfl (flat_strs ys)) ha (hb.as (by rw [mapS])) hm).as inV_str
theorem dt_inIT (ha : De X a ρ (aInt i)) (hb : De X b ρ (aTup X.K (ks.map aInt))) (hm : behindInMarks .In b = false := by rfl) : Dt X (.Compare a [.In] [b] pos) ρ (decide (i ∈ ks)) := (dt_cmp op_in_seq (k := inV (.int i) (ks.map V.int)) (opd_inT (neg := false) rfl (flatI ks)) ha (hb.as (by rw [mapI])) hm).as inV_int
theorem dt_ninSL (ha : De X a ρ (aStr z)) (hb : De X b ρ (aLst (ys.map aStr))) (hm : behindInMarks .NotIn b = false := by rfl) : Dt X (.Compare a [.NotIn] [b] pos) ρ (!decide (z ∈ ys)) := (dt_cmp op_notIn_seq (k := !inV (.str z) (ys.map V.str)) (opd_inL (neg := true) rfl (flat_strs ys)) ha (hb.as (by rw [mapS])) hm).as (by rw [inV_str])
theorem dt_ninST (ha : De X a ρ (aStr z)) (hb : De X b ρ (aTup X.K (ys.map aStr))) (hm : behindInMarks .NotIn b = false := by rfl) : Dt X (.Compare a [.NotIn] [b] pos) ρ (!decide (z ∈ ys)) := (dt_cmp op_notIn_seq (k := !inV (.str z) (ys.map V.str)) (opd_inT (neg := true) rfl (flat_strs ys)) ha (hb.as (by rw [mapS])) hm).as (by rw [inV_str])
theorem dt_ninIL (ha : De X a ρ (aInt i)) (hb : De X b ρ (aLst (ks.map aInt))) (hm : behindInMarks .NotIn b = false := by rfl) : Dt X (.Compare a [.NotIn] [b] pos) ρ (!decide (i ∈ ks)) := (dt_cmp op_notIn_seq (k := !inV (.int i) (ks.map V.int)) (opd_inL (neg := true) rfl (flatI ks)) ha (hb.as (by rw [mapI])) hm).as (by rw [inV_int])
theorem dt_ninIT (ha : De X a ρ (aInt i)) (hb : De X b ρ (aTup X.K (ks.map aInt))) (hm : behindInMarks .NotIn b = false := by rfl) : Dt X (.Compare a [.NotIn] [b] pos) ρ (!decide (i ∈ ks)) := (dt_cmp op_notIn_seq (k := !inV (.int i) (ks.map V.int)) (opd_inT (neg := true) rfl (flatI ks)) ha (hb.as (by rw [mapI])) hm).as (by rw [inV_int])
end
/-! ### == of data of any depth -/
def IsD (K : PySem.W.Frag) (P : As) (d : PyData) : Prop := ∀ pl H v, P.is pl H v → Dp K H v d
theorem isd_str {K : PySem.W.Frag} {z : Str} : IsD K (aStr z) (.str z) := fun _ _ v h => by rw [show v = V.str z from h]; exact .str z
theorem isd_int {K : PySem.W.Frag} {i : Int} : IsD K (aInt i) (.int i) := fun _ _ v h => by rw [show v = V.int i from h]; exact .int i
theorem isd_all {K : PySem.W.Frag} {α : Type} {P : α → As} {d : α → PyData} {pl : Option Addr} {H : Hp} : ∀ {xs : List α} {vs : List V}, (∀ x ∈ xs, IsD K (P x) (d x)) → Fits pl H vs (xs.map P) → DpAll K H vs (xs.map d)
  | [], _, _, .nil => .nil
  | x :: xs, _, h, .cons h1 h2 => .cons (h x (List.mem_cons_self ..) _ _ _ h1) (isd_all (fun y hy => h y (List.mem_cons_of_mem _ hy)) h2)
theorem isd_tup {K : PySem.W.Frag} {α : Type} {P : α → As} {d : α → PyData} {xs : List α} (h : ∀ x ∈ xs, IsD K (P x) (d x)) : IsD K (aTup K (xs.map P)) (.tuple (xs.map d)) := fun _ _ v ⟨a, vs, e1, e2, f⟩ => by
  subst e1
  exact .tup e2 (isd_all h f)
theorem isd_lst {K : PySem.W.Frag} {α : Type} {P : α → As} {d : α → PyData} {xs : List α} (h : ∀ x ∈ xs, IsD K (P x) (d x)) : IsD K (aLst (xs.map P)) (.list (xs.map d)) := fun _ _ v ⟨a, vs, e1, e2, f⟩ => by
  subst e1
  exact .lst (SqL.of e2) (isd_all h f)
theorem isd_tupL {K : PySem.W.Frag} {Ps : List As} {ds : List PyData} (h : ∀ pl H vs, Fits pl H vs Ps → DpAll K H vs ds) : IsD K (aTup K Ps) (.tuple ds) := fun _ _ v ⟨a, vs, e1, e2, f⟩ => by
  subst e1
  exact .tup e2 (h _ _ _ f)
theorem Dp.mono {K : PySem.W.Frag} {P : As} {d : PyData} (h : IsD K P d) {pl : Option Addr} {H Hc : Hp} (g : Gd pl H Hc) {v : V} (hv : P.is pl Hc v) : Dp K H v d := h _ _ _ (P.mono g.sub hv)
theorem opd_eqD {K : PySem.W.Frag} {d d' : PyData} (h : IsD K P d) (h' : IsD K P' d') (hs : SeqAt.shaped d = true) (hs' : SeqAt.shaped d' = true) : OpD (rEqD K) P P' (aBl (PyData.eqv d d')) := fun pl H Hc u v g h1 h2 Q q => ⟨d, d', Dp.mono h g h1, Dp.mono h' g h2, hs, hs', q.here g rfl⟩
theorem opd_neD {K : PySem.W.Frag} {d d' : PyData} (h : IsD K P d) (h' : IsD K P' d') (hs : SeqAt.shaped d = true) (hs' : SeqAt.shaped d' = true) : OpD (rNeD K) P P' (aBl (!PyData.eqv d d')) := fun pl H Hc u v g h1 h2 Q q => ⟨d, d', Dp.mono h g h1, Dp.mono h' g h2, hs, hs', q.here g rfl⟩
/-- x in a tuple of data -/
def rInDT (K : PySem.W.Frag) : R2 := fun x y H Q => ∃ d ds, Dp K H x d ∧ Dp K H y (.tuple ds) ∧ SeqAt.shaped d = true ∧ SeqAt.shaped (.tuple ds) = true ∧ Q (.bl (ds.any fun z => PyData.eqv z d)) H
theorem op_inDT (hu : X.A.units + 65 < cLine) : OpR X (compareOp .In) (rInDT X.K) := fun pins s σ H x y v u Q I rx ry ⟨d, ds, hd, he, sd, se, q⟩ => by
  obtain ⟨as, r1⟩ := Dp.reads I d x v hd rx
  obtain ⟨bs, r2⟩ := Dp.reads I (.tuple ds) y u he ry
  exact SeqAt.in_tuple_reads r2 r1 (SeqAt.canLay_of_shaped se) (SeqAt.canLay_of_shaped sd) (room_in_shaped sd hu) ⟨.bl _, H, I, rfl, q⟩
theorem opd_inDT {K : PySem.W.Frag} {d : PyData} {ds : List PyData} (h : IsD K P d) (h' : IsD K P' (.tuple ds)) (hs : SeqAt.shaped d = true) (hs' : SeqAt.shaped (.tuple ds) = true) : OpD (rInDT K) P P' (aBl (ds.any fun z => PyData.eqv z d)) := fun pl H Hc u v g h1 h2 Q q => ⟨d, ds, Dp.mono h g h1, Dp.mono h' g h2, hs, hs', q.here g rfl⟩
/-! ### tuples of ints by order -/
theorem opd_ltT {K : PySem.W.Frag} {ns ms : List Int} : OpD (rLtT K) (aTup K (ns.map aInt)) (aTup K (ms.map aInt)) (aBl (HT.lexLt ns ms)) := fun pl H Hc u v g ⟨p, vs, e1, e2, f⟩ ⟨p', vs', e1', e2', f'⟩ Q q =>
  ⟨p, p', ns, ms, e1, e1', (fits_map (f := V.int) f) ▸ same_t g.sub e2, (fits_map (f := V.int) f') ▸ same_t g.sub e2', q.here g rfl⟩
theorem d_ltT {k : Nat} {ns ms : List Int} (hr : Room k X.A) (ha : De X a ρ (aTup X.K (ns.map aInt))) (hb : De X b ρ (aTup X.K (ms.map aInt))) : De X (.Compare a [.Lt] [b] pos) ρ (aBl (HT.lexLt ns ms)) := d_cmp (op_ltT hr.units0) opd_ltT ha hb
/-! ### numbers -/
theorem d_mul {i j : Int} (hc : CMul i j) (ha : De X a ρ (aInt i)) (hb : De X b ρ (aInt j)) : De X (.BinOp a .Mult b pos) ρ (aInt (i * j)) := d_op op_mul (opd_I hc) ha hb
theorem d_mod {i j : Int} (hc : 0 < j) (ha : De X a ρ (aInt i)) (hb : De X b ρ (aInt j)) : De X (.BinOp a .Mod b pos) ρ (aInt (i % j)) := d_op op_mod (opd_I hc) ha hb
theorem d_fdiv {i j : Int} (hc : CDiv i j) (ha : De X a ρ (aInt i)) (hb : De X b ρ (aInt j)) : De X (.BinOp a .FloorDiv b pos) ρ (aInt (i / j)) := d_op op_fdiv (opd_I hc) ha hb
theorem d_pow {i j : Int} (hc : CPow i j) (ha : De X a ρ (aInt i)) (hb : De X b ρ (aInt j)) : De X (.BinOp a .Pow b pos) ρ (aInt (i ^ j.toNat)) := d_op op_pow (opd_I hc) ha hb
theorem d_ge {i j : Int} (ha : De X a ρ (aInt i)) (hb : De X b ρ (aInt j)) : De X (.Compare a [.GtE] [b] pos) ρ (aBl (decide (j ≤ i))) := d_cmp op_ge opd_I0 ha hb
/-! ### or of lists -/
theorem d_orL (ha : De X a ρ (aLst Ps)) (hb : Ps = [] → De X b ρ (aLst Qs)) : De X (.BoolOp .Or [a, b] pos) ρ (aLst (if Ps.isEmpty then Qs else Ps)) := fun pl σ H Hc g ev Q q =>
  tE_of (pe_orT pe_can pe_can) (ha pl σ H Hc g ev _ fun v H1 Hc1 s1 hv => by
    obtain ⟨d, vs, e1, e2, f⟩ := id hv
    have hl := f.len
    refine ⟨!vs.isEmpty, by subst e1; exact .inl ⟨vs, SqL.of (s1.gd.sub _ _ e2), rfl⟩, ?_⟩
    cases Ps with
    | nil =>
      have : vs = [] := List.eq_nil_of_length_eq_zero (by simpa using hl)
      subst this
      exact iteF (d_one (hb rfl) pl σ H1 Hc1 s1.gd (ev.mono s1.cl) _ (q.step s1))
    | cons P0 Pr =>
      cases vs with
      | nil => cases hl
      | cons v0 vr => exact iteT (q _ _ _ s1 hv))
end
end Da
set_option Elab.async false
set_option linter.all false
set_option maxRecDepth 100000
set_option maxHeartbeats 4000000
namespace Da
open PySem PySem.Spec PyProof.Rows L2
section
variable {X : Cx} {ρ : Rho} {pos p : Pos} {elt tg it c e : Expr} {scope : Scope} {α β : Type} {xs : List α} {P : α → As} {is : List Nat} {Ps : α → List As} {b : α → Bool} {F : α → As}
/-- the slots in a comprehension's block, the target set -/
abbrev inR (ρ : Rho) (own : List (Str × Nat)) (is : List Nat) (Ts : List As) : Rho := setRho (wipeR ρ (own.map (·.2))) is Ts
/-- [e for target in it] -/
theorem dn_map (own : List (Str × Nat)) (hN : X.N.Nodup) (ok : BlkOk X.N X.env.scope scope own) (hi : Di X tg it ρ xs P) (hg : InBlk X scope fun Y => ∀ x ∈ xs, Dg Y tg (P x) is (Ps x))
    (he : InBlk X scope fun Y => ∀ x ∈ xs, De Y elt (inR ρ own is (Ps x)) (F x)) (hz : xs.length < 1000000) (hc : X.calm = true := by rfl) (hw : ∀ i ∈ is, i ∈ own.map (·.2) := by decide) (hs : ∀ x, foldedSetIterable it X.env x = pure x := by intro _; rfl) : DeN X (.ListComp elt [⟨tg, it, [], 0⟩] scope pos) ρ (xs.map F) := by
  have h := dn_lc (pos := pos) (b := fun _ => true) (F := F) own hc hN ok hi hg (fun _ _ _ _ _ _ _ => dts_nil) (fun a1 a2 a3 a4 a5 x hx _ => he a1 a2 a3 a4 a5 x hx) hz hw hs
  rwa [List.filter_eq_self.mpr (fun _ _ => rfl)] at h
theorem d_map (own : List (Str × Nat)) (hN : X.N.Nodup) (ok : BlkOk X.N X.env.scope scope own) (hi : Di X tg it ρ xs P) (hg : InBlk X scope fun Y => ∀ x ∈ xs, Dg Y tg (P x) is (Ps x))
    (he : InBlk X scope fun Y => ∀ x ∈ xs, De Y elt (inR ρ own is (Ps x)) (F x)) (hz : xs.length < 1000000) (hc : X.calm = true := by rfl) (hw : ∀ i ∈ is, i ∈ own.map (·.2) := by decide) (hs : ∀ x, foldedSetIterable it X.env x = pure x := by intro _; rfl) : De X (.ListComp elt [⟨tg, it, [], 0⟩] scope pos) ρ (aLst (xs.map F)) := (dn_map own hN ok hi hg he hz hc hw hs).de
/-- [e for target in it if c] -/
theorem dn_fil (own : List (Str × Nat)) (hN : X.N.Nodup) (ok : BlkOk X.N X.env.scope scope own) (hi : Di X tg it ρ xs P) (hg : InBlk X scope fun Y => ∀ x ∈ xs, Dg Y tg (P x) is (Ps x))
    (ht : InBlk X scope fun Y => ∀ x ∈ xs, Dt Y c (inR ρ own is (Ps x)) (b x)) (he : InBlk X scope fun Y => ∀ x ∈ xs, b x = true → De Y elt (inR ρ own is (Ps x)) (F x)) (hz : xs.length < 1000000) (hc : X.calm = true := by rfl) (hw : ∀ i ∈ is, i ∈ own.map (·.2) := by decide) (hs : ∀ x, foldedSetIterable it X.env x = pure x := by intro _; rfl) : DeN X (.ListComp elt [⟨tg, it, [c], 0⟩] scope pos) ρ ((xs.filter b).map F) :=
  dn_lc own hc hN ok hi hg (fun a1 a2 a3 a4 a5 x hx => dts_one (ht a1 a2 a3 a4 a5 x hx)) he hz hw hs
theorem d_fil (own : List (Str × Nat)) (hN : X.N.Nodup) (ok : BlkOk X.N X.env.scope scope own) (hi : Di X tg it ρ xs P) (hg : InBlk X scope fun Y => ∀ x ∈ xs, Dg Y tg (P x) is (Ps x))
    (ht : InBlk X scope fun Y => ∀ x ∈ xs, Dt Y c (inR ρ own is (Ps x)) (b x)) (he : InBlk X scope fun Y => ∀ x ∈ xs, b x = true → De Y elt (inR ρ own is (Ps x)) (F x)) (hz : xs.length < 1000000) (hc : X.calm = true := by rfl) (hw : ∀ i ∈ is, i ∈ own.map (·.2) := by decide) (hs : ∀ x, foldedSetIterable it X.env x = pure x := by intro _; rfl) : De X (.ListComp elt [⟨tg, it, [c], 0⟩] scope pos) ρ (aLst ((xs.filter b).map F)) := (dn_fil own hN ok hi hg ht he hz hc hw hs).de
theorem all_map_id {f : α → Bool} (l : List α) : ((l.map f).all id) = l.all f := by rw [List.all_map]; rfl
theorem any_map_id {f : α → Bool} (l : List α) : ((l.map f).any id) = l.any f := by rw [List.any_map]; rfl
/-- all([e for target in it]), any(..) -/
theorem d_allC {f : α → Bool} {p2 : Pos} (own : List (Str × Nat)) (hm : X.mg "all" = none) (hN : X.N.Nodup) (ok : BlkOk X.N X.env.scope scope own) (hi : Di X tg it ρ xs P) (hg : InBlk X scope fun Y => ∀ x ∈ xs, Dg Y tg (P x) is (Ps x))
    (he : InBlk X scope fun Y => ∀ x ∈ xs, De Y elt (inR ρ own is (Ps x)) (aBl (f x))) (hz : xs.length < 1000000) (hc : X.calm = true := by rfl) (hw : ∀ i ∈ is, i ∈ own.map (·.2) := by decide) (hs : ∀ x, foldedSetIterable it X.env x = pure x := by intro _; rfl)
    (hs2 : starEach [.ListComp elt [⟨tg, it, [], 0⟩] scope p2] X.env = (false, eval (.ListComp elt [⟨tg, it, [], 0⟩] scope p2) X.env) :: starEach [] X.env := by rfl) (hgl : Gl X "all" := by rfl) : De X (.Call (.Name "all" p) [.ListComp elt [⟨tg, it, [], 0⟩] scope p2] [] pos) ρ (aBl (xs.all f)) :=
  (d_all (bs := xs.map f) hc hm ((d_map own hN ok hi hg he hz hc hw hs).as (by rw [List.map_map]; rfl)) hs2 hgl).as (by rw [all_map_id])
theorem d_anyC {f : α → Bool} {p2 : Pos} (own : List (Str × Nat)) (hm : X.mg "any" = none) (hN : X.N.Nodup) (ok : BlkOk X.N X.env.scope scope own) (hi : Di X tg it ρ xs P) (hg : InBlk X scope fun Y => ∀ x ∈ xs, Dg Y tg (P x) is (Ps x))
    (he : InBlk X scope fun Y => ∀ x ∈ xs, De Y elt (inR ρ own is (Ps x)) (aBl (f x))) (hz : xs.length < 1000000) (hc : X.calm = true := by rfl) (hw : ∀ i ∈ is, i ∈ own.map (·.2) := by decide) (hs : ∀ x, foldedSetIterable it X.env x = pure x := by intro _; rfl)
    (hs2 : starEach [.ListComp elt [⟨tg, it, [], 0⟩] scope p2] X.env = (false, eval (.ListComp elt [⟨tg, it, [], 0⟩] scope p2) X.env) :: starEach [] X.env := by rfl) (hgl : Gl X "any" := by rfl) : De X (.Call (.Name "any" p) [.ListComp elt [⟨tg, it, [], 0⟩] scope p2] [] pos) ρ (aBl (xs.any f)) :=
  (d_any (bs := xs.map f) hc hm ((d_map own hN ok hi hg he hz hc hw hs).as (by rw [List.map_map]; rfl)) hs2 hgl).as (by rw [any_map_id])
end
section
variable {P : Program} {w : World} {K : PySem.W.Frag} {mg : Str → Option Value} {base : Heap} {x qual : Str} {params : Arguments} {body : List Stmt} {scope : Scope} {f : Addr} {fd : FuncData} {N ps : List Str} {k : Nat}
/-- a global def, by its body -/
theorem fok_of {α : Type} {ok : α → Prop} {args : α → List As} {res : α → As} {dvs : List V} {kws : List (Str × V)} (F : ∃ fd, FunD K x qual params body scope dvs kws (He.ga K x) fd) (hg : mg x = some (.ref (He.ga K x))) (S : FnScope N ps scope) (hl : ∀ y, (args y).length = ps.length)
    (hbn : ∀ fd, FunD K x qual params body scope dvs kws (He.ga K x) fd → Binds K fd ps [])
    (hb : ∀ (y : α), ok y → ∀ (cdv : Value) (A : Around) (outer : List Env) (s : Shared) (H : Hp) (E : XK), Room k (A.deeper (envOfC qual scope s.heap.objs.size (He.ga K x) cdv)) →
      Ds (cxOf CX0 P w K mg base N qual scope (He.ga K x) cdv A outer s H E).nox body (inSl (args y) N.length) (fun _ => res y = aNon) (fun R => Imp R (res y))) : Fok P w K mg base (k + 1) x ps (spF ok args res) := by
  obtain ⟨fd, F⟩ := F
  exact ⟨⟨fd, def_ok F S hl hb, hbn fd F⟩, hg, F.kp⟩
end
end Da
set_option Elab.async false
set_option linter.all false
set_option maxRecDepth 100000
set_option maxHeartbeats 4000000
namespace Da
open PySem PySem.Spec PyProof.Rows L2
section
variable {X : Cx} {ρ : Slots} {N M : Slots → Prop} {R : As → Prop} {pos : Pos} {c : Expr} {rest A : List Stmt}
theorem ds_ifF {b : Bool} (hc : Dt X c (frR ρ) b) (hb : b = false) (k : Ds X rest ρ N R) : Ds X (.If c A [] pos :: rest) ρ N R := ds_ifN (hb ▸ hc) k
end
section
variable {X : Cx} {ρ : Rho} {p pos p2 : Pos} {a : Expr} {P : As} {z : Str}
/-- not isinstance(v, T) as a test: it is one -/
theorem dt_nisT (S T : String) (k : Bool) (hm : X.mg "isinstance" = none) (hmT : X.mg z = none) (ha : De X a ρ P) (hty : IsTy X.K P (.type S)) (hk : kitB S T = some k := by decide +kernel) (hv : bootBuiltins z = some (.type T) := by decide +kernel) (hgT : Gl X z := by rfl) (hn : z ≠ "__name__" := by decide) (hd : (z == ("__debug__" : Str)) = false := by decide)
    (hs : starEach (a :: [.Name z p2]) X.env = (false, eval a X.env) :: starEach [.Name z p2] X.env := by rfl) (hs2 : starEach (.Name z p2 :: []) X.env = (false, eval (.Name z p2) X.env) :: starEach [] X.env := by rfl) (hpl : (backTo pos (starEach [.Name z p2] X.env)).any (·.1) = false := by rfl) (hg : Gl X "isinstance" := by rfl) {q : Pos} :
    Dt X (.UnaryOp .Not (.Call (.Name "isinstance" p) [a, .Name z p2] [] pos) q) ρ (!k) := dt_not (dt_val (d_isT S T k hm hmT ha hty hk hv hgT hn hd hs hs2 hpl hg))
end
section
variable {X : Cx} {ρ : Rho} {pos p : Pos} {e : Expr} {es : List Expr} {x : Str} {j k : Nat} {ps : List Str}
/-- .. of a def that needs less room -/
theorem d_cl {α : Type} {ok : α → Prop} {args : α → List As} {res : α → As} (F : Fok X.prog X.w X.K X.mg X.base j x ps (spF ok args res)) (hr : Room k X.A) (y : α) (hy : ok y) (ha : DeA X (e :: es) ρ (args y)) (hjk : j ≤ k := by decide) (hg : Gl X x := by rfl)
    (hdb : (x == ("__debug__" : Str)) = false := by decide) (he : starEach (e :: es) X.env = (false, eval e X.env) :: starEach es X.env := by rfl) (hpl : (backTo pos (starEach es X.env)).any (·.1) = false := by rfl) : De X (.Call (.Name x p) (e :: es) [] pos) ρ (res y) := d_call (F.mono hjk) hr y hy ha hg hdb he hpl
end
theorem fI (i j : Int) (h : i = j) : (!decide (V.int i = V.int j)) = false := by
  subst h
  simp
end Da
namespace Lb
open PySem PySem.Spec PyProof.Rows L2 Da
section
variable {P : Program} {w : World} {K : PySem.W.Frag} {mg : Str → Option Value} {base : Heap}
def letters : List Nat := (Str.ofString "abcdefghijklmnopqrstuvwxyz").cps.toList
structure OkName (z : Str) : Prop where
  lo : 1 ≤ z.length
  hi : z.length ≤ 6
  let_ : ∀ c ∈ z.cps.toList, c ∈ letters
theorem scIsWhole : FnScope ["thing"] ["thing"] (defScope sIsWhole) := ⟨rfl, rfl, rfl, by decide +kernel, rfl, by decide +kernel, by decide +kernel⟩
theorem is_whole_ok (T : Txt w K mg) : Fok P w K mg base 1 "is_whole" ["thing"] (spF (α := Int) (fun _ => True) (fun n => [aInt n]) (fun _ => aBl true)) := by
  refine fok_of T.f_IsWhole T.g_is_whole scIsWhole (fun _ => rfl) (fun _ F => F.bindsN fun _ _ _ _ _ _ us hl => match us, hl with | [_], _ => rfl) fun y hy cdv A outer s H E hr => ?_
  have hN := scIsWhole.nd
  exact ds_ret (d_and2 (d_isT "int" "int" true T.b_isinstance T.b_int (d_v 0) ist_int) fun _ => d_not (d_isT "int" "bool" false T.b_isinstance T.b_bool (d_v 0) ist_int)) Imp.rfl'
def withinB (q : Int × Int × Int) : Bool := decide (q.2.1 ≤ q.1) && decide (q.1 ≤ q.2.2)
theorem scIsWithin : FnScope ["thing", "least", "most"] ["thing", "least", "most"] (defScope sIsWithin) := ⟨rfl, rfl, rfl, by decide +kernel, rfl, by decide +kernel, by decide +kernel⟩
theorem is_within_ok (T : Txt w K mg) : Fok P w K mg base 2 "is_within" ["thing", "least", "most"] (spF (α := Int × Int × Int) (fun _ => True) (fun q => [aInt q.1, aInt q.2.1, aInt q.2.2]) (fun q => aBl (withinB q))) := by
  refine fok_of T.f_IsWithin T.g_is_within scIsWithin (fun _ => rfl) (fun _ F => F.bindsN fun _ _ _ _ _ _ us hl => match us, hl with | [_, _, _], _ => rfl) fun y hy cdv A outer s H E hr => ?_
  have hN := scIsWithin.nd
  exact ds_ret (d_and2 (x := true) (d_call (is_whole_ok T) hr y.1 trivial (da1 (d_v 0))) fun _ => d_chain (d_v 1) (d_v 0) (d_v 2)) (Imp.of (by rw [Bool.true_and]; rfl))
theorem scIsName : FnScope ["thing", "sign"] ["thing"] (defScope sIsName) := ⟨rfl, rfl, rfl, by decide +kernel, rfl, by decide +kernel, by decide +kernel⟩
theorem is_name_ok (T : Txt w K mg) : Fok P w K mg base 2 "is_name" ["thing"] (spF (α := Str) (OkName) (fun z => [aStr z]) (fun _ => aBl true)) := by
  refine fok_of T.f_IsName T.g_is_name scIsName (fun _ => rfl) (fun _ F => F.bindsN fun _ _ _ _ _ _ us hl => match us, hl with | [_], _ => rfl) fun y hy cdv A outer s H E hr => ?_
  have hN := scIsName.nd
  have h1 := hy.lo
  have h2 := hy.hi
  refine ds_ret (d_and3 (x := true) (y := decide ((1 : Int) ≤ y.length) && decide ((y.length : Int) ≤ 6)) (z := y.cps.toList.all fun c => decide (c ∈ letters)) (d_isT "str" "str" true T.b_isinstance T.b_str (d_v 0) ist_str)
    (fun _ => d_chain d_int (d_lenS T.b_len (d_v 0) (Nat.le_trans h2 (by decide))) (d_globI T.n_LONGEST))
    fun _ _ => d_allC [("sign", 1)] T.b_all hN (blkOk_by (by kernel_rfl)) (di_str (d_v 0)) (fun _ _ _ _ _ c _ => dg_name 1 hN) (fun _ _ _ _ _ c _ => d_sign (d_v 1) (d_globS T.n_LETTERS)) (by show y.cps.toList.length < _; rw [Array.length_toList]; exact Nat.lt_of_le_of_lt h2 (by decide))) (Imp.of ?_)
  have e1 : decide ((1 : Int) ≤ y.length) = true := decide_eq_true (by omega)
  have e2 : decide ((y.length : Int) ≤ 6) = true := decide_eq_true (by omega)
  have e3 : (y.cps.toList.all fun c => decide (c ∈ letters)) = true := List.all_eq_true.mpr fun c hc => decide_eq_true (hy.let_ c hc)
  rw [e1, e2, e3]
  rfl
structure OkWire (q : Str × Nat) : Prop where
  name : OkName q.1
  lo : 2 ≤ q.2
  hi : q.2 ≤ 4
def aWire (K : PySem.W.Frag) (q : Str × Nat) : As := aTup K [aStr q.1, aInt (q.2 : Int)]
theorem scIsWire : FnScope ["thing"] ["thing"] (defScope sIsWire) := ⟨rfl, rfl, rfl, by decide +kernel, rfl, by decide +kernel, by decide +kernel⟩
theorem is_wire_ok (T : Txt w K mg) : Fok P w K mg base 3 "is_wire" ["thing"] (spF (α := Str × Nat) (OkWire) (fun q => [aWire K q]) (fun _ => aBl true)) := by
  refine fok_of T.f_IsWire T.g_is_wire scIsWire (fun _ => rfl) (fun _ F => F.bindsN fun _ _ _ _ _ _ us hl => match us, hl with | [_], _ => rfl) fun y hy cdv A outer s H E hr => ?_
  have hN := scIsWire.nd
  have h1 := hy.lo
  have h2 := hy.hi
  refine ds_ifF (dt_or2 (dt_nisT "tuple" "tuple" true T.b_isinstance T.b_tuple (d_v 0) ist_tup) fun _ => dt_neV rfl (d_lenT T.b_len (d_v 0)) d_int) rfl ?_
  refine ds_ret (d_and2 (d_call (is_name_ok T) hr y.1 hy.name (da1 (d_ixT 0 (d_v 0) d_int))) fun _ => d_call (is_within_ok T) hr ((y.2 : Int), 2, 4) trivial (da_cons (d_ixT 1 (d_v 0) d_int) (da_cons (d_globI T.n_LEAST_MANY) (da1 (d_globI T.n_MOST_MANY))))) (Imp.of ?_)
  have e : withinB ((y.2 : Int), 2, 4) = true := by
    unfold withinB
    rw [Bool.and_eq_true]
    exact ⟨decide_eq_true (by show (2 : Int) ≤ (y.2 : Int); omega), decide_eq_true (by show (y.2 : Int) ≤ 4; omega)⟩
  rw [e]
  rfl
structure OkListed (names ws : List Str) : Prop where
  lo : 1 ≤ ws.length
  hi : ws.length ≤ 8
  inn : ∀ z ∈ ws, z ∈ names
  nd : ws.Nodup
theorem scAreListed : FnScope ["names", "thing", "name"] ["names", "thing"] (defScope sAreListed) := ⟨rfl, rfl, rfl, by decide +kernel, rfl, by decide +kernel, by decide +kernel⟩
theorem are_listed_ok (T : Txt w K mg) : Fok P w K mg base 1 "are_listed" ["names", "thing"] (spF (α := List Str × List Str) (fun q => OkListed q.1 q.2) (fun q => [aLst (q.1.map aStr), aTup K (q.2.map aStr)]) (fun _ => aBl true)) := by
  refine fok_of T.f_AreListed T.g_are_listed scAreListed (fun _ => rfl) (fun _ F => F.bindsN fun _ _ _ _ _ _ us hl => match us, hl with | [_, _], _ => rfl) fun y hy cdv A outer s H E hr => ?_
  have hN := scAreListed.nd
  have h1 := hy.lo
  have h2 := hy.hi
  have hl : (y.2.map aStr).length = y.2.length := List.length_map ..
  refine ds_ifF (dt_or2 (dt_nisT "tuple" "tuple" true T.b_isinstance T.b_tuple (d_v 1) ist_tup) fun _ => dt_not (dt_chain d_int (d_lenT T.b_len (d_v 1)) (d_globI T.n_MOST_WIRES))) ?_ ?_
  · rw [hl, decide_eq_true (show (1 : Int) ≤ (y.2.length : Int) by omega), decide_eq_true (show (y.2.length : Int) ≤ 8 by omega)]
    rfl
  refine ds_ret (d_and2 (d_allC (f := fun z => true && decide (z ∈ y.1)) [("name", 2)] T.b_all hN (blkOk_by (by kernel_rfl)) (di_tup (xs := y.2) (d_v 1)) (fun _ _ _ _ _ c _ => dg_name 2 hN)
    (fun _ _ _ _ _ c _ => d_and2 (d_isT "str" "str" true T.b_isinstance T.b_str (d_v 2) ist_str) fun _ => d_inSL (d_v 2) (d_v 0)) (by omega)) fun _ => d_eqV rfl (d_lenSetT rfl T.b_len T.b_set (d_v 1) hy.nd (by omega)) (d_lenT T.b_len (d_v 1))) (Imp.of ?_)
  have e3 : (y.2.all fun z => true && decide (z ∈ y.1)) = true := List.all_eq_true.mpr fun c hc => by rw [Bool.true_and]; exact decide_eq_true (hy.inn c hc)
  rw [e3, hl]
  simp
theorem scIsValueRow : FnScope ["many", "thing", "one"] ["many", "thing"] (defScope sIsValueRow) := ⟨rfl, rfl, rfl, by decide +kernel, rfl, by decide +kernel, by decide +kernel⟩
theorem is_value_row_ok (T : Txt w K mg) : Fok P w K mg base 3 "is_value_row" ["many", "thing"] (spF (α := Nat × List Int) (fun q => q.2.length = q.1 ∧ q.2.length < 1000 ∧ ∀ v ∈ q.2, 0 ≤ v ∧ v ≤ 3) (fun q => [aInt (q.1 : Int), aTup K (q.2.map aInt)]) (fun _ => aBl true)) := by
  refine fok_of T.f_IsValueRow T.g_is_value_row scIsValueRow (fun _ => rfl) (fun _ F => F.bindsN fun _ _ _ _ _ _ us hl => match us, hl with | [_, _], _ => rfl) fun y hy cdv A outer s H E hr => ?_
  have hN := scIsValueRow.nd
  obtain ⟨h1, h2, h3⟩ := hy
  refine ds_ret (d_and3 (d_isT "tuple" "tuple" true T.b_isinstance T.b_tuple (d_v 1) ist_tup) (fun _ => d_eqV rfl (d_lenT T.b_len (d_v 1)) (d_v 0)) fun _ _ => d_allC (f := fun v => withinB (v, 0, 4 - 1)) [("one", 2)] T.b_all hN (blkOk_by (by kernel_rfl)) (di_tup (xs := y.2) (d_v 1)) (fun _ _ _ _ _ c _ => dg_name 2 hN)
    (fun _ _ _ _ _ c _ => d_call (is_within_ok T) hr (c, 0, 4 - 1) trivial (da_cons (d_v 2) (da_cons d_int (da1 (d_sub (d_globI T.n_MOST_MANY) d_int))))) (by omega)) (Imp.of ?_)
  have e3 : (y.2.all fun v => withinB (v, 0, 4 - 1)) = true := List.all_eq_true.mpr fun v hv => by
    unfold withinB
    rw [Bool.and_eq_true]
    exact ⟨decide_eq_true (h3 v hv).1, decide_eq_true (h3 v hv).2⟩
  rw [e3, List.length_map, h1]
  simp
end
end Lb
set_option Elab.async false
set_option linter.all false
set_option maxRecDepth 100000
set_option maxHeartbeats 4000000
namespace Da
open PySem PySem.Spec PyProof.Rows L2
section
variable {X : Cx} {ρ : Rho} {pos p : Pos} {a b : Expr} {P : As} {Ps : List As} {d : Addr}
theorem dt_ninKd {es : Array DictEntry} {n : Nat} {z : Str} {u : Value} (D : KDict X.K X.w d es n) (hz : PySem.W.nsIn X.K d z = some (some u)) (ha : De X a ρ (aStr z)) (hb : De X b ρ (aV (.ref d))) (hm : behindInMarks .NotIn b = false := by rfl) : Dt X (.Compare a [.NotIn] [b] pos) ρ false :=
  dt_cmp (op_notIn_kd D) (k := false) (fun _ _ _ x y g h1 h2 Q q => ⟨z, some u, h1, h2, hz, q.here g rfl⟩) ha hb hm
theorem d_ixKd {es : Array DictEntry} {n : Nat} {z : Str} {u : Value} {v : V} (D : KDict X.K X.w d es n) (hz : PySem.W.nsIn X.K d z = some (some u)) (r : RelV v u) (ha : De X a ρ (aV (.ref d))) (hb : De X b ρ (aStr z)) (hs : PlainIx b := by exact fun _ _ => rfl) : De X (.Subscript a b pos) ρ (aV v) :=
  d_ix ix_kdict (fun _ _ _ x y g h1 h2 Q q => ⟨d, z, v, h1, h2, ⟨es, n, u, D.at_, D.lit, hz, r⟩, q.here g rfl⟩) ha hb hs
end
end Da
namespace Lb
open PySem PySem.Spec PyProof.Rows L2 Da
inductive Tie where
  | fixed (o : Str) (n : Int)
  | op (w : Str) (ns : List Str)
  | rows (ws : List Str) (rs : List (List Int))
abbrev aRow (K : PySem.W.Frag) (r : List Int) : As := aTup K (r.map aInt)
def tieL (K : PySem.W.Frag) : Tie → List As
  | .fixed o n => [aStr "fixed", aStr o, aInt n]
  | .op w ns => aStr w :: ns.map aStr
  | .rows ws rs => [aStr "rows", aTup K (ws.map aStr), aTup K (rs.map (aRow K))]
def aTie (K : PySem.W.Frag) (t : Tie) : As := aTup K (tieL K t)
structure OkRows (names ws : List Str) (rs : List (List Int)) : Prop where
  li : OkListed names ws
  few : rs.length < 100000
  len : ∀ r ∈ rs, r.length = ws.length
  val : ∀ r ∈ rs, ∀ v ∈ r, 0 ≤ v ∧ v ≤ 3
  up : ((rs.zip (rs.drop 1)).all fun q => HT.lexLt q.1 q.2) = true
def ops : List (Str × Nat) := [("same", 2), ("turned", 2), ("least", 3), ("most", 3), ("sum", 3), ("pick", 4)]
def OkTie (names : List Str) : Tie → Prop
  | .fixed o n => o ∈ names ∧ 0 ≤ n ∧ n ≤ 3
  | .op w ns => (w, ns.length) ∈ ops ∧ ∀ z ∈ ns, z ∈ names
  | .rows ws rs => OkRows names ws rs
section
variable {P : Program} {w : World} {K : PySem.W.Frag} {mg : Str → Option Value} {base : Heap}
theorem scIsRowsTie : FnScope ["names", "tie", "row", "one", "other"] ["names", "tie"] (defScope sIsRowsTie) := ⟨rfl, rfl, rfl, by decide +kernel, rfl, by decide +kernel, by decide +kernel⟩
theorem is_rows_tie_ok (T : Txt w K mg) : Fok P w K mg base 4 "is_rows_tie" ["names", "tie"] (spF (α := List Str × List Str × List (List Int)) (fun q => OkRows q.1 q.2.1 q.2.2) (fun q => [aLst (q.1.map aStr), aTie K (.rows q.2.1 q.2.2)]) (fun _ => aBl true)) := by
  refine fok_of T.f_IsRowsTie T.g_is_rows_tie scIsRowsTie (fun _ => rfl) (fun _ F => F.bindsN fun _ _ _ _ _ _ us hl => match us, hl with | [_, _], _ => rfl) fun y hy cdv A outer s H E hr => ?_
  have hN := scIsRowsTie.nd
  obtain ⟨names, ws, rs⟩ := y
  have h2 : ws.length ≤ 8 := hy.li.hi
  have few : rs.length < 100000 := hy.few
  refine ds_ifF (dt_or3 (dt_neV rfl (d_lenT (Ps := tieL K (.rows ws rs)) T.b_len (d_v 1)) d_int) (fun _ => dt_not (dt_val (d_cl (are_listed_ok T) hr (names, ws) hy.li (da2 (d_v 0) (d_ixT (Ps := tieL K (.rows ws rs)) 1 (d_v 1) d_int))))) fun _ _ => dt_nisT "tuple" "tuple" true T.b_isinstance T.b_tuple (d_ixT (Ps := tieL K (.rows ws rs)) 2 (d_v 1) d_int) ist_tup) rfl ?_
  refine ds_ifF (dt_not (dt_val (d_allC (f := fun _ => true) [("row", 2)] T.b_all hN (blkOk_by (by kernel_rfl)) (di_tup (xs := rs) (d_ixT (Ps := tieL K (.rows ws rs)) 2 (d_v 1) d_int)) (fun _ _ _ _ _ c _ => dg_name 2 hN)
    (fun _ _ _ _ _ c hc => d_cl (is_value_row_ok T) hr (ws.length, c) ⟨hy.len c hc, by show c.length < 1000; rw [hy.len c hc]; show ws.length < 1000; omega, hy.val c hc⟩ (da2 ((d_lenT (Ps := ws.map aStr) T.b_len (d_ixT (Ps := tieL K (.rows ws rs)) 1 (d_v 1) d_int)).as (by rw [List.length_map])) (d_v 2))) (by omega)))) (by simp) ?_
  refine ds_ret (d_allC (f := fun q : List Int × List Int => HT.lexLt q.1 q.2) [("one", 3), ("other", 4)] T.b_all hN (blkOk_by (by kernel_rfl)) (di_zipT (xs := rs) (ys := rs.drop 1) (P := aRow K) (P' := aRow K) T.b_zip (d_ixT (Ps := tieL K (.rows ws rs)) 2 (d_v 1) d_int) ((d_slDrop1 (d_ixT (Ps := tieL K (.rows ws rs)) 2 (d_v 1) d_int)).as (by rw [List.map_drop])))
    (fun _ _ _ _ _ c _ => dg_two 3 4 rfl hN) (fun _ _ _ _ _ c _ => d_ltT hr (d_v 3) (d_v 4)) (by rw [List.length_zip, List.length_drop]; omega)) (Imp.of (by rw [hy.up]))
def tieD : Tie → List PyData
  | .fixed o n => [.str "fixed", .str o, .int n]
  | .op w ns => .str w :: ns.map .str
  | .rows ws rs => [.str "rows", .tuple (ws.map .str), .tuple (rs.map fun r => .tuple (r.map .int))]
theorem tieD_is {t : Tie} : IsD K (aTie K t) (.tuple (tieD t)) := by
  refine isd_tupL fun pl H vs f => ?_
  cases t with
  | fixed o n =>
    cases f with
    | cons h1 f => cases f with
      | cons h2 f => cases f with
        | cons h3 f => cases f; exact .cons (isd_str _ _ _ h1) (.cons (isd_str _ _ _ h2) (.cons (isd_int _ _ _ h3) .nil))
  | op w ns =>
    cases f with
    | cons h1 f => exact .cons (isd_str _ _ _ h1) (isd_all (fun _ _ => isd_str) f)
  | rows ws rs =>
    cases f with
    | cons h1 f => cases f with
      | cons h2 f => cases f with
        | cons h3 f => cases f; exact .cons (isd_str _ _ _ h1) (.cons (isd_tup (fun _ _ => isd_str) _ _ _ h2) (.cons (isd_tup (fun _ _ => isd_tup fun _ _ => isd_int) _ _ _ h3) .nil))
def nice (t : Tie) : Prop := SeqAt.shaped (.tuple (tieD t)) = true
theorem dt_empty {X : Cx} {ρ : Rho} {pos p : Pos} {a : Expr} {x1} {t : Tie} {k : Nat} (hr : Room k X.A) (nt : nice t) (ha : De X a ρ (aTie X.K t)) : Dt X (.Compare a [.Eq] [.Tuple [] x1 p] pos) ρ false :=
  (dt_cmp (op_eqD hr.units) (k := PyData.eqv (.tuple (tieD t)) (.tuple [])) (opd_eqD tieD_is (isd_tup (α := Unit) (P := fun _ => aNon) (d := fun _ => .none) (xs := []) fun _ h => nomatch h) nt (by decide)) ha (d_tup da_nil)).as (by cases t <;> rfl)
theorem scIsTie : FnScope ["names", "thing", "word", "rest", "number", "name"] ["names", "thing"] (defScope sIsTie) := ⟨rfl, rfl, rfl, by decide +kernel, rfl, by decide +kernel, by decide +kernel⟩
theorem is_tie_ok (T : Txt w K mg) : Fok P w K mg base 5 "is_tie" ["names", "thing"] (spF (α := List Str × Tie) (fun q => OkTie q.1 q.2 ∧ nice q.2) (fun q => [aLst (q.1.map aStr), aTie K q.2]) (fun _ => aBl true)) := by
  refine fok_of T.f_IsTie T.g_is_tie scIsTie (fun _ => rfl) (fun _ F => F.bindsN fun _ _ _ _ _ _ us hl => match us, hl with | [_, _], _ => rfl) fun y hy cdv A outer s H E hr => ?_
  have hN := scIsTie.nd
  obtain ⟨names, t⟩ := y
  obtain ⟨ho, nt⟩ := hy
  obtain ⟨es, en, D⟩ := T.wDict
  have h0 : ∃ z, (tieL K t)[0]? = some (aStr z) := by cases t <;> exact ⟨_, rfl⟩
  obtain ⟨z0, h0⟩ := h0
  refine ds_ifF (dt_or3 (dt_nisT "tuple" "tuple" true T.b_isinstance T.b_tuple (d_v 1) ist_tup) (fun _ => dt_empty hr nt (d_v 1)) fun _ _ => dt_nisT "str" "str" true T.b_isinstance T.b_str (d_ixT (P := aStr z0) (Ps := tieL K t) 0 (d_v 1) d_int h0) ist_str) rfl ?_
  cases t with
  | rows ws rs =>
    exact ds_ifR (b := true) ((dt_eqV (x := V.str "rows") (y := V.str "rows") rfl (d_ixT (Ps := tieL K (.rows ws rs)) 0 (d_v 1) d_int) d_str).as (by decide)) (fun _ => ds_ret (d_cl (is_rows_tie_ok T) hr (names, ws, rs) ho (da2 (d_v 0) (d_v 1))) Imp.rfl') fun e => nomatch e
  | op wd ns =>
    obtain ⟨hw, hn⟩ := ho
    have wr : wd ≠ "rows" ∧ wd ≠ "fixed" ∧ ns.length < 10 := by
      unfold ops at hw
      simp only [List.mem_cons, Prod.mk.injEq, List.not_mem_nil, or_false] at hw
      rcases hw with h | h | h | h | h | h <;> obtain ⟨rfl, h⟩ := h <;> refine ⟨by decide, by decide, by omega⟩
    obtain ⟨u, hu, ru⟩ : ∃ u, PySem.W.nsIn K (He.ga K "WIRES_OF") wd = some (some u) ∧ RelV (V.int (ns.length : Int)) u := by
      have mem : (wd, He.Dv.int (ns.length : Int)) ∈ wiresOf := by
        unfold ops at hw
        unfold wiresOf
        simp only [List.mem_cons, Prod.mk.injEq, List.not_mem_nil, or_false] at hw
        rcases hw with h | h | h | h | h | h <;> obtain ⟨rfl, h⟩ := h <;> rw [h] <;> simp
      exact T.wOf mem
    have hl : (ns.map aStr).length = ns.length := List.length_map ..
    refine ds_ifR (b := false) ((dt_eqV (x := V.str wd) (y := V.str "rows") rfl (d_ixT (P := aStr wd) (Ps := tieL K (.op wd ns)) 0 (d_v 1) d_int) d_str).as (decide_eq_false fun e => wr.1 (by injection e))) (fun e => nomatch e) fun _ => ?_
    have cut : ((tieL K (.op wd ns)).take 1 ++ [aLst (((tieL K (.op wd ns)).drop 1).take ((tieL K (.op wd ns)).length + 1 - 2))] ++ ((tieL K (.op wd ns)).drop 1).drop ((tieL K (.op wd ns)).length + 1 - 2)) = [aStr wd, aLst (ns.map aStr)] := by
      unfold tieL
      simp
      exact congrArg aLst (List.take_of_length_le (by simp))
    refine ds_starT (is := [2, 3]) (Ps := [aStr wd, aLst (ns.map aStr)]) (Ps0 := tieL K (.op wd ns)) 2 1 rfl (d_v 1) (by unfold tieL; simp) (by unfold tieL; simp; omega) (by rw [cut]; exact dgs_cons (dg_name 2 hN) (dgs_star (dg_name 3 hN) dgs_nil)) ?_
    refine ds_ifF (dt_ninKd D hu (d_v 2) (d_globR T.g_WIRES_OF)) rfl ?_
    refine ds_if (M := fun ρ' => ρ' = [.v (aLst (names.map aStr)), .v (aTie K (.op wd ns)), .v (aStr wd), .v (aLst (ns.map aStr)), .no, .no]) (b := false) ((dt_eqV (x := V.str wd) (y := V.str "fixed") rfl (d_v 2) d_str).as (decide_eq_false fun e => wr.2.1 (by injection e))) (fun e => nomatch e) (fun _ => ds_nil rfl) fun ρ' e => ?_
    subst e
    refine ds_ifF (dt_neV (x := V.int ((ns.map aStr).length : Int)) (y := V.int (ns.length : Int)) rfl (d_lenL T.b_len (d_v 3)) (d_ixKd D hu ru (d_globR T.g_WIRES_OF) (d_v 2))) (by rw [hl]; simp) ?_
    refine ds_ret (d_allC (f := fun z => true && decide (z ∈ names)) [("name", 5)] T.b_all hN (blkOk_by (by kernel_rfl)) (di_list (xs := ns) (d_v 3)) (fun _ _ _ _ _ c _ => dg_name 5 hN)
      (fun _ _ _ _ _ c _ => d_and2 (d_isT "str" "str" true T.b_isinstance T.b_str (d_v 5) ist_str) fun _ => d_inSL (d_v 5) (d_v 0)) (by omega)) (Imp.of ?_)
    rw [show (ns.all fun z => true && decide (z ∈ names)) = true from List.all_eq_true.mpr fun c hc => by rw [Bool.true_and]; exact decide_eq_true (hn c hc)]
  | fixed o n =>
    obtain ⟨hw, h1, h2⟩ := ho
    obtain ⟨u, hu, ru⟩ : ∃ u, PySem.W.nsIn K (He.ga K "WIRES_OF") "fixed" = some (some u) ∧ RelV (V.int 1) u := T.wOf (q := ("fixed", He.Dv.int 1)) (by unfold wiresOf; simp)
    refine ds_ifR (b := false) ((dt_eqV (x := V.str "fixed") (y := V.str "rows") rfl (d_ixT (Ps := tieL K (.fixed o n)) 0 (d_v 1) d_int) d_str).as (by decide)) (fun e => nomatch e) fun _ => ?_
    refine ds_starT (is := [2, 3]) (Ps := [aStr "fixed", aLst [aStr o, aInt n]]) (Ps0 := tieL K (.fixed o n)) 2 1 rfl (d_v 1) (by unfold tieL; simp) (by unfold tieL; simp) (dgs_cons (dg_name 2 hN) (dgs_star (dg_name 3 hN) dgs_nil)) ?_
    refine ds_ifF (dt_ninKd D hu (d_v 2) (d_globR T.g_WIRES_OF)) rfl ?_
    refine ds_if (M := fun ρ' => ρ' = [.v (aLst (names.map aStr)), .v (aTie K (.fixed o n)), .v (aStr "fixed"), .v (aLst [aStr o]), .v (aInt n), .no]) (b := true) ((dt_eqV (x := V.str "fixed") (y := V.str "fixed") rfl (d_v 2) d_str).as (by decide)) (fun _ => ?_) (fun e => nomatch e) fun ρ' e => ?_
    · refine ds_starL (is := [3, 4]) (Ps := [aLst [aStr o], aInt n]) (Ps0 := [aStr o, aInt n]) 2 0 rfl (d_orL (Ps := [aStr o, aInt n]) (Qs := [aNon]) (d_v 3) fun e => nomatch e) (by simp) (by simp) (dgs_star (dg_name 3 hN) (dgs_cons (dg_name 4 hN) dgs_nil)) ?_
      refine ds_ifF (dt_not (dt_val (d_cl (is_within_ok T) hr (n, 0, 4 - 1) trivial (da_cons (d_v 4) (da_cons d_int (da1 (d_sub (d_globI T.n_MOST_MANY) d_int))))))) ?_ (ds_nil rfl)
      have e : withinB (n, 0, 4 - 1) = true := by
        unfold withinB
        rw [Bool.and_eq_true]
        exact ⟨decide_eq_true h1, decide_eq_true h2⟩
      rw [e]
      rfl
    subst e
    refine ds_ifF (dt_neV (x := V.int 1) (y := V.int 1) rfl (d_lenL (Ps := [aStr o]) T.b_len (d_v 3)) (d_ixKd D hu ru (d_globR T.g_WIRES_OF) (d_v 2))) (by decide) ?_
    refine ds_ret (d_allC (f := fun z => true && decide (z ∈ names)) [("name", 5)] T.b_all hN (blkOk_by (by kernel_rfl)) (di_list (xs := [o]) (d_v 3)) (fun _ _ _ _ _ c _ => dg_name 5 hN)
      (fun _ _ _ _ _ c _ => d_and2 (d_isT "str" "str" true T.b_isinstance T.b_str (d_v 5) ist_str) fun _ => d_inSL (d_v 5) (d_v 0)) (by simp)) (Imp.of ?_)
    rw [show ([o].all fun z => true && decide (z ∈ names)) = true from List.all_eq_true.mpr fun c hc => by rw [Bool.true_and, List.mem_singleton.mp hc]; exact decide_eq_true hw]
def aPart (K : PySem.W.Frag) (q : Str × List Tie) : As := aTup K [aStr q.1, aLst (q.2.map (aTie K))]
structure OkPart (q : Str × List Tie) : Prop where
  name : OkName q.1
  lo : 1 ≤ q.2.length
  hi : q.2.length ≤ 24
theorem scIsPart : FnScope ["thing"] ["thing"] (defScope sIsPart) := ⟨rfl, rfl, rfl, by decide +kernel, rfl, by decide +kernel, by decide +kernel⟩
theorem is_part_ok (T : Txt w K mg) : Fok P w K mg base 3 "is_part" ["thing"] (spF (α := Str × List Tie) (OkPart) (fun q => [aPart K q]) (fun _ => aBl true)) := by
  refine fok_of T.f_IsPart T.g_is_part scIsPart (fun _ => rfl) (fun _ F => F.bindsN fun _ _ _ _ _ _ us hl => match us, hl with | [_], _ => rfl) fun y hy cdv A outer s H E hr => ?_
  have hN := scIsPart.nd
  have h1 := hy.lo
  have h2 := hy.hi
  have hl : (y.2.map (aTie K)).length = y.2.length := List.length_map ..
  refine ds_ifF (dt_or3 (dt_nisT "tuple" "tuple" true T.b_isinstance T.b_tuple (d_v 0) ist_tup) (fun _ => dt_neV rfl (d_lenT T.b_len (d_v 0)) d_int) fun _ _ => dt_not (dt_val (d_cl (is_name_ok T) hr y.1 hy.name (da1 (d_ixT 0 (d_v 0) d_int))))) rfl ?_
  refine ds_ret (d_and2 (d_isT "list" "list" true T.b_isinstance T.b_list (d_ixT 1 (d_v 0) d_int) ist_lst) fun _ => d_chain d_int (d_lenL T.b_len (d_ixT (P := aLst (y.2.map (aTie K))) 1 (d_v 0) d_int)) (d_globI T.n_MOST_TIES)) (Imp.of ?_)
  rw [hl, decide_eq_true (show (1 : Int) ≤ (y.2.length : Int) by omega), decide_eq_true (show (y.2.length : Int) ≤ 24 by omega)]
  rfl
end
end Lb
set_option Elab.async false
set_option linter.all false
set_option maxRecDepth 100000
set_option maxHeartbeats 4000000
namespace Lb
open PySem PySem.Spec PyProof.Rows L2 Da
section
variable {P : Program} {w : World} {K : PySem.W.Frag} {mg : Str → Option Value} {base : Heap}
def prodI (l : List Nat) : Int := ((l.foldl (· * ·) 1 : Nat) : Int)
theorem prodI_more {l : List Nat} {n : Nat} : prodI (l ++ [n]) = prodI l * (n : Int) := by
  unfold prodI
  rw [List.foldl_append, List.foldl_cons, List.foldl_nil, Int.natCast_mul]
theorem scWorldsBy : FnScope ["manys", "found", "many"] ["manys"] (defScope sWorldsBy) := ⟨rfl, rfl, rfl, by decide +kernel, rfl, by decide +kernel, by decide +kernel⟩
theorem worlds_by_ok (T : Txt w K mg) : Fok P w K mg base 1 "worlds_by" ["manys"] (spF (α := List Nat) (fun q => q.length < 1000 ∧ ∀ n ∈ q, n < 1000) (fun q => [aLst (q.map fun n : Nat => aInt (n : Int))]) (fun q => aInt (prodI q))) := by
  refine fok_of T.f_WorldsBy T.g_worlds_by scWorldsBy (fun _ => rfl) (fun _ F => F.bindsN fun _ _ _ _ _ _ us hl => match us, hl with | [_], _ => rfl) fun y hy cdv A outer s H E hr => ?_
  have hN := scWorldsBy.nd
  obtain ⟨h1, h2⟩ := hy
  refine ds_set 1 hN (d_int (i := 1)) ?_
  refine ds_for (α := Nat) (xs := y) (Pt := fun n => aInt (n : Int)) (is := [2]) (Ts := fun n => [aInt (n : Int)]) (fun i ρ => ∃ Z, ρ = [.v (aLst (y.map fun n : Nat => aInt (n : Int))), .v (aInt (prodI (y.take i))), Z]) (fun _ _ h => False.elim h) rfl (di_list (d_v 0)) ⟨.no, rfl⟩ (fun n _ => dg_name 2 hN) (fun i n hn ρ' ⟨Z, e⟩ => ?_) (fun ρ' ⟨Z, e⟩ => ?_) (fun _ _ => rfl)
  · subst e
    refine ds_aug 1 hN iop_mul rfl (d_v 2) (opd_I (.inr ?_)) (ds_nil ⟨.v (aInt (n : Int)), ?_⟩)
    · have := h2 n (List.mem_of_getElem? hn)
      constructor <;> omega
    · rw [take_more hn, prodI_more]
      rfl
  · subst e
    rw [List.take_length]
    exact ds_ret (d_v 1) Imp.rfl'
structure OkWires (ws : List (Str × Nat)) : Prop where
  lo : 1 ≤ ws.length
  hi : ws.length ≤ 8
  each : ∀ q ∈ ws, OkWire q
  nd : (ws.map (·.1)).Nodup
  few : prodI (ws.map (·.2)) ≤ 2048
theorem fresh_at {α : Type} {ws : List (Str × α)} (nd : (ws.map (·.1)).Nodup) {i : Nat} {q : Str × α} (h : ws[i]? = some q) : q.1 ∉ (ws.take i).map (·.1) := fun hm => by
  obtain ⟨r, hr, e⟩ := List.mem_map.mp hm
  obtain ⟨j, hj, ej⟩ := List.mem_iff_getElem.mp hr
  obtain ⟨hi, ei⟩ := List.getElem?_eq_some_iff.mp h
  rw [List.length_take] at hj
  rw [List.getElem_take] at ej
  refine (List.pairwise_iff_getElem.mp nd) j i (by rw [List.length_map]; omega) (by rw [List.length_map]; omega) (by omega) ?_
  rw [List.getElem_map, List.getElem_map, ej, ei, e]
theorem zipIdx_at {α : Type} {l : List α} {i : Nat} {q : α × Nat} (h : l.zipIdx[i]? = some q) : l[i]? = some q.1 ∧ q.2 = i := by
  rw [List.getElem?_zipIdx] at h
  cases e : l[i]? with
  | none =>
    rw [e] at h
    cases h
  | some x =>
    rw [e] at h
    cases h
    exact ⟨rfl, Nat.zero_add i⟩
theorem scLookAtWires : FnScope ["thing", "number", "one", "ahead", "name", "many"] ["thing"] (defScope sLookAtWires) := ⟨rfl, rfl, rfl, by decide +kernel, rfl, by decide +kernel, by decide +kernel⟩
theorem look_at_wires_ok (T : Txt w K mg) : Fok P w K mg base 4 "look_at_wires" ["thing"] (spF (α := List (Str × Nat)) (OkWires) (fun q => [aLst (q.map (aWire K))]) (fun _ => aNon)) := by
  refine fok_of T.f_LookAtWires T.g_look_at_wires scLookAtWires (fun _ => rfl) (fun _ F => F.bindsN fun _ _ _ _ _ _ us hl => match us, hl with | [_], _ => rfl) fun y hy cdv A outer s H E hr => ?_
  have hN := scLookAtWires.nd
  have h1 := hy.lo
  have h2 := hy.hi
  have hl : (y.map (aWire K)).length = y.length := List.length_map ..
  refine ds_ifF (dt_or2 (dt_nisT "list" "list" true T.b_isinstance T.b_list (d_v 0) ist_lst) fun _ => dt_not (dt_chain d_int (d_lenL T.b_len (d_v 0)) (d_globI T.n_MOST_WIRES))) ?_ ?_
  · rw [hl, decide_eq_true (show (1 : Int) ≤ (y.length : Int) by omega), decide_eq_true (show (y.length : Int) ≤ 8 by omega)]
    rfl
  refine ds_for (α := (Str × Nat) × Nat) (xs := y.zipIdx) (Pt := fun q => aTup K [aInt (q.2 : Int), aWire K q.1]) (is := [1, 2]) (Ts := fun q => [aInt (q.2 : Int), aWire K q.1]) (fun i ρ => ∃ Z1 Z2, ρ = [.v (aLst (y.map (aWire K))), Z1, Z2, .no, .no, .no]) (fun _ _ h => False.elim h) rfl (di_enum T.b_enumerate (d_v 0)) ⟨.no, .no, rfl⟩ (fun n _ => dg_two 1 2 rfl hN) (fun i n hn ρ' ⟨Z1, Z2, e⟩ => ?_) (fun ρ' ⟨Z1, Z2, e⟩ => ?_) (fun _ _ => rfl)
  · subst e
    obtain ⟨hn1, hn2⟩ := zipIdx_at hn
    have hm := List.mem_of_getElem? hn1
    refine ds_ifF (dt_or2 (dt_not (dt_val (d_cl (is_wire_ok T) hr n.1 (hy.each _ hm) (da1 (d_v 2))))) fun _ => dt_inSL (z := n.1.1) (ys := (y.take n.2).map (·.1)) (d_ixT (Ps := [aStr n.1.1, aInt (n.1.2 : Int)]) 0 (d_v 2) d_int)
      ((d_map (xs := y.take n.2) (P := aWire K) (F := fun q => aStr q.1) [("ahead", 3)] hN (blkOk_by (by kernel_rfl)) (di_list ((dn_slTake n.2 (d_v 0) (d_v 1)).de.as (by rw [List.map_take]))) (fun _ _ _ _ _ c _ => dg_name 3 hN) (fun _ _ _ _ _ c _ => d_ixT (Ps := [aStr c.1, aInt (c.2 : Int)]) 0 (d_v 3) d_int) (by rw [List.length_take]; omega)).as (by rw [List.map_map]; rfl))) ?_ (ds_nil ⟨_, _, rfl⟩)
    rw [hn2, decide_eq_false (fresh_at hy.nd hn1)]
    rfl
  · subst e
    refine ds_ifF (dt_gt (d_cl (worlds_by_ok T) hr (y.map (·.2)) ⟨by rw [List.length_map]; omega, fun n hn => ?_⟩ (da1 ((d_map (xs := y) (P := aWire K) (F := fun q => aInt (q.2 : Int)) [("name", 4), ("many", 5)] hN (blkOk_by (by kernel_rfl)) (di_list (d_v 0)) (fun _ _ _ _ _ c _ => dg_two 4 5 rfl hN) (fun _ _ _ _ _ c _ => d_v 5) (by omega)).as (by rw [List.map_map]; rfl)))) (d_globI T.n_MOST_WORLDS)) (decide_eq_false (Int.not_lt.mpr hy.few)) (ds_nil rfl)
    obtain ⟨q, hq, rfl⟩ := List.mem_map.mp hn
    have := (hy.each q hq).hi
    omega
structure OkParts (names : List Str) (ps : List (Str × List Tie)) : Prop where
  hi : ps.length ≤ 7
  each : ∀ q ∈ ps, OkPart q
  nd : (ps.map (·.1)).Nodup
  tie : ∀ q ∈ ps, ∀ t ∈ q.2, OkTie names t ∧ nice t
theorem scLookAtParts : FnScope ["names", "thing", "number", "one", "ahead", "name", "ties", "k", "tie"] ["names", "thing"] (defScope sLookAtParts) := ⟨rfl, rfl, rfl, by decide +kernel, rfl, by decide +kernel, by decide +kernel⟩
theorem look_at_parts_ok (T : Txt w K mg) : Fok P w K mg base 6 "look_at_parts" ["names", "thing"] (spF (α := List Str × List (Str × List Tie)) (fun q => OkParts q.1 q.2) (fun q => [aLst (q.1.map aStr), aLst (q.2.map (aPart K))]) (fun _ => aNon)) := by
  refine fok_of T.f_LookAtParts T.g_look_at_parts scLookAtParts (fun _ => rfl) (fun _ F => F.bindsN fun _ _ _ _ _ _ us hl => match us, hl with | [_, _], _ => rfl) fun y hy cdv A outer s H E hr => ?_
  have hN := scLookAtParts.nd
  obtain ⟨names, ps⟩ := y
  have h2 : ps.length ≤ 7 := hy.hi
  have hl : (ps.map (aPart K)).length = ps.length := List.length_map ..
  refine ds_ifF (dt_or2 (dt_nisT "list" "list" true T.b_isinstance T.b_list (d_v 1) ist_lst) fun _ => dt_gt (d_lenL T.b_len (d_v 1)) (d_globI T.n_MOST_PARTS)) ?_ ?_
  · rw [hl, decide_eq_false (show ¬ (7 : Int) < (ps.length : Int) by omega)]
    rfl
  refine ds_for (α := (Str × List Tie) × Nat) (xs := ps.zipIdx) (Pt := fun q => aTup K [aInt (q.2 : Int), aPart K q.1]) (is := [2, 3]) (Ts := fun q => [aInt (q.2 : Int), aPart K q.1]) (fun i ρ => ∃ Z1 Z2, ρ = [.v (aLst (names.map aStr)), .v (aLst (ps.map (aPart K))), Z1, Z2, .no, .no, .no, .no, .no]) (fun _ _ h => False.elim h) rfl (di_enum T.b_enumerate (d_v 1)) ⟨.no, .no, rfl⟩ (fun n _ => dg_two 2 3 rfl hN) (fun i n hn ρ' ⟨Z1, Z2, e⟩ => ?_) (fun ρ' ⟨Z1, Z2, e⟩ => ?_) (fun _ _ => rfl)
  · subst e
    obtain ⟨hn1, hn2⟩ := zipIdx_at hn
    have hm := List.mem_of_getElem? hn1
    refine ds_ifF (dt_or2 (dt_not (dt_val (d_cl (is_part_ok T) hr n.1 (hy.each _ hm) (da1 (d_v 3))))) fun _ => dt_inSL (z := n.1.1) (ys := (ps.take n.2).map (·.1)) (d_ixT (Ps := [aStr n.1.1, aLst (n.1.2.map (aTie K))]) 0 (d_v 3) d_int)
      ((d_map (xs := ps.take n.2) (P := aPart K) (F := fun q => aStr q.1) [("ahead", 4)] hN (blkOk_by (by kernel_rfl)) (di_list ((dn_slTake n.2 (d_v 1) (d_v 2)).de.as (by rw [List.map_take]))) (fun _ _ _ _ _ c _ => dg_name 4 hN) (fun _ _ _ _ _ c _ => d_ixT (Ps := [aStr c.1, aLst (c.2.map (aTie K))]) 0 (d_v 4) d_int) (by rw [List.length_take]; omega)).as (by rw [List.map_map]; rfl))) ?_ (ds_nil ⟨_, _, rfl⟩)
    rw [hn2, decide_eq_false (fresh_at hy.nd hn1)]
    rfl
  · subst e
    refine ds_for (α := (Str × List Tie) × Nat) (xs := ps.zipIdx) (Pt := fun q => aTup K [aInt (q.2 : Int), aPart K q.1]) (is := [2, 5, 6]) (Ts := fun q => [aInt (q.2 : Int), aStr q.1.1, aLst (q.1.2.map (aTie K))]) (fun i ρ => ∃ Z1 Z2 Z3 Z4 Z5 Z6, ρ = [.v (aLst (names.map aStr)), .v (aLst (ps.map (aPart K))), Z1, Z2, .no, Z3, Z4, Z5, Z6]) (fun _ _ h => False.elim h) rfl (di_enum T.b_enumerate (d_v 1)) ⟨_, _, _, _, _, _, rfl⟩
      (fun n _ => dg_tup rfl (dgs_cons (dg_name 2 hN) (dgs_cons (dg_two 5 6 rfl hN) dgs_nil))) (fun i n hn ρ' ⟨Z1, Z2, Z3, Z4, Z5, Z6, e⟩ => ?_) (fun ρ' ⟨Z1, Z2, Z3, Z4, Z5, Z6, e⟩ => ds_nil rfl) (fun _ _ => rfl)
    subst e
    obtain ⟨hn1, hn2⟩ := zipIdx_at hn
    have hm := List.mem_of_getElem? hn1
    refine ds_for (α := Tie × Nat) (xs := n.1.2.zipIdx) (Pt := fun q => aTup K [aInt (q.2 : Int), aTie K q.1]) (is := [7, 8]) (Ts := fun q => [aInt (q.2 : Int), aTie K q.1]) (fun i ρ => ∃ Z5 Z6, ρ = [.v (aLst (names.map aStr)), .v (aLst (ps.map (aPart K))), .v (aInt (n.2 : Int)), Z2, .no, .v (aStr n.1.1), .v (aLst (n.1.2.map (aTie K))), Z5, Z6]) (fun _ _ h => False.elim h) rfl (di_enum T.b_enumerate (d_v 6)) ⟨_, _, rfl⟩ (fun n _ => dg_two 7 8 rfl hN) (fun i t ht ρ' ⟨Z5, Z6, e⟩ => ?_) (fun ρ' ⟨Z5, Z6, e⟩ => ds_nil ⟨_, _, _, _, _, _, e⟩) (fun _ _ => rfl)
    subst e
    obtain ⟨ht1, ht2⟩ := zipIdx_at ht
    exact ds_ifF (dt_not (dt_val (d_cl (is_tie_ok T) hr (names, t.1) (hy.tie _ hm _ (List.mem_of_getElem? ht1)) (da2 (d_v 0) (d_v 8))))) rfl (ds_nil ⟨_, _, rfl⟩)
end
end Lb
set_option Elab.async false
set_option linter.all false
set_option maxRecDepth 100000
set_option maxHeartbeats 4000000
namespace Da
open PySem PySem.Spec PyProof.Rows L2
/-! ### dicts of texts: what a key holds -/
abbrev Fn := Str → Option As
def upF (f : Fn) (z : Str) (P : As) : Fn := fun y => if y = z then some P else f y
/-- a dict's pairs, as f tells them -/
def HasF (pl : Option Addr) (H : Hp) (ws : List (Key × V)) (f : Fn) : Prop := ∀ z, (∀ P, f z = some P → ∃ v, valV ws (.inr z) = some v ∧ P.is pl H v) ∧ (f z = none → valV ws (.inr z) = none)
theorem HasF.mono {pl : Option Addr} {H H' : Hp} {ws : List (Key × V)} {f : Fn} (e : Same H H') (h : HasF pl H ws f) : HasF pl H' ws f := fun z => ⟨fun P hp => let ⟨v, a, b⟩ := (h z).1 P hp; ⟨v, a, P.mono e b⟩, (h z).2⟩
theorem HasF.nil {pl : Option Addr} {H : Hp} : HasF pl H [] fun _ => none := fun z => ⟨fun P h => (by cases h), fun _ => rfl⟩
theorem HasF.put {pl : Option Addr} {H : Hp} {ws : List (Key × V)} {f : Fn} {z : Str} {P : As} {v : V} (h : HasF pl H ws f) (hv : P.is pl H v) : HasF pl H (putK ws (.inr z) v) (upF f z P) := fun y => by
  rw [valV_put]
  by_cases e : y = z
  · subst e
    refine ⟨fun P' h' => ?_, fun h' => ?_⟩
    · unfold upF at h'
      rw [if_pos rfl] at h'
      cases h'
      exact ⟨v, if_pos rfl, hv⟩
    · unfold upF at h'
      rw [if_pos rfl] at h'
      cases h'
  · have ne : (Sum.inr y : Key) ≠ .inr z := fun h' => e (by injection h')
    rw [if_neg ne]
    unfold upF
    rw [if_neg e]
    exact h y
def aDic (n : Nat) (f : Fn) : As := ⟨fun pl H v => ∃ a ws, v = .ref a ∧ H a = some (.dK ws) ∧ ws.length ≤ n ∧ HasF pl H ws f, fun e ⟨a, ws, h1, h2, h3, h4⟩ => ⟨a, ws, h1, e _ _ h2, h3, h4.mono e⟩⟩
/-- pairs put one after another -/
def dOf (l : List (Str × As)) : Fn := l.foldl (fun f q => upF f q.1 q.2) fun _ => none
theorem dOf_more (l : List (Str × As)) (q : Str × As) : dOf (l ++ [q]) = upF (dOf l) q.1 q.2 := by
  unfold dOf
  rw [List.foldl_append]
  rfl
section
variable {X : Cx} {ρ : Rho} {pos p : Pos} {a b i e tg it kx vx c : Expr} {P : As} {n k : Nat} {f : Fn} {z : Str} {scope : Scope}
theorem d_dget {P : As} (hr : Room k X.A) (ha : De X a ρ (aDic n f)) (hi : De X i ρ (aStr z)) (hf : f z = some P) (hs : NoSl i := by intro _ _; rfl) : De X (.Subscript a i pos) ρ P := fun pl σ H Hc g ev Q q =>
  tE_of (pe_dget (by have := hr.un; omega) pe_can pe_can hs) (ha pl σ H Hc g ev _ fun v H1 Hc1 s1 ⟨d, ws, e1, e2, _, h⟩ => hi pl σ H1 Hc1 s1.gd (ev.mono s1.cl) _ fun u H2 Hc2 s2 hu => by
    obtain ⟨y, h1, h2⟩ := (h z).1 P hf
    refine ⟨d, y, e1, ?_, q y H2 Hc2 (s1.trans s2) (P.mono s2.cl h2)⟩
    rw [show u = V.str z from hu, ← h1]
    exact DGet.k (k := .inr z) (s2.gd.sub _ _ (s2.cl _ _ e2)))
theorem din_run (ha : De X a ρ (aStr z)) (hb : De X b ρ (aDic n f)) {pl : Option Addr} {σ : L2.St} {H Hc : Hp} (g : Gd pl H Hc) (ev : EnvOk pl Hc σ ρ) {Q : VK} (q : Out pl H Hc (aBl (f z).isSome) Q) : tDIn (tE X a) (tE X b) σ H Q :=
  ha pl σ H Hc g ev _ fun v H1 Hc1 s1 hv => hb pl σ H1 Hc1 s1.gd (ev.mono s1.cl) _ fun u H2 Hc2 s2 ⟨d, ws, e1, e2, _, h⟩ => ⟨d, valV ws (.inr z), e1, by
    rw [show v = V.str z from hv]
    exact DGet.k (k := .inr z) (s2.gd.sub _ _ e2), by
    have e : (valV ws (.inr z)).isSome = (f z).isSome := by
      cases hf : f z with
      | none =>
        rw [(h z).2 hf]
        rfl
      | some P =>
        obtain ⟨y, h1, _⟩ := (h z).1 P hf
        rw [h1]
        rfl
    rw [e]
    exact q _ _ _ (s1.trans s2) rfl⟩
theorem d_din (hr : Room k X.A) (ha : De X a ρ (aStr z)) (hb : De X b ρ (aDic n f)) (hm : behindInMarks .In b = false := by rfl) : De X (.Compare a [.In] [b] pos) ρ (aBl (f z).isSome) := fun pl σ H Hc g ev Q q =>
  tE_of (pe_cmp (pc_din (by have := hr.un; omega) pe_can pe_can) hm) (din_run ha hb g ev q)
theorem dt_din (hr : Room k X.A) (ha : De X a ρ (aStr z)) (hb : De X b ρ (aDic n f)) (hm : behindInMarks .In b = false := by rfl) : Dt X (.Compare a [.In] [b] pos) ρ (f z).isSome := fun pl σ H Hc g ev Q q =>
  tT_of (pt_cmp (pc_din (by have := hr.un; omega) pe_can pe_can) hm) (din_run ha hb g ev fun v H' Hc' s hv => ⟨_, hv, q _ _ s⟩)
/-- dict(xs) of a list of pairs (text, value) -/
theorem merge_has {pl : Option Addr} {H : Hp} : ∀ {kvs : List (Key × V)} {l : List (Str × As)} {ws : List (Key × V)} {f : Fn}, HasF pl H ws f → Paired (fun (kv : Key × V) (q : Str × As) => kv.1 = .inr q.1 ∧ q.2.is pl H kv.2) kvs l → HasF pl H (mergeK ws kvs) (l.foldl (fun f q => upF f q.1 q.2) f)
  | _, _, _, _, h, .nil => h
  | (k, v) :: kvs, (z, P) :: l, ws, f, h, .cons ⟨e1, e2⟩ t => by
    have e1' : k = .inr z := e1
    subst e1'
    exact merge_has (ws := putK ws (.inr z) v) (f := upF f z P) (h.put e2) t
theorem pairs_split {K : PySem.W.Frag} {pl : Option Addr} {H Hc : Hp} (sub : Same Hc H) : ∀ {vs : List V} {l : List (Str × As)}, Fits pl Hc vs (l.map fun q => aTup K [aStr q.1, q.2]) →
    ∃ (ps : List Addr) (kvs : List (Key × V)), vs = ps.map V.ref ∧ Paired (fun p kv => SqT K H p [kV kv.1, kv.2]) ps kvs ∧ Paired (fun (kv : Key × V) (q : Str × As) => kv.1 = .inr q.1 ∧ q.2.is pl Hc kv.2) kvs l
  | _, [], .nil => ⟨[], [], rfl, .nil, .nil⟩
  | _, q :: l, .cons ⟨a, us, e1, e2, f⟩ t => by
    obtain ⟨ps, kvs, h1, h2, h3⟩ := pairs_split sub t
    obtain ⟨v, u, e3, hv, hu⟩ := two f
    subst e3
    have hv' : v = V.str q.1 := hv
    subst hv'
    exact ⟨a :: ps, (.inr q.1, u) :: kvs, by rw [e1, h1]; rfl, .cons (same_t sub e2) h2, .cons ⟨rfl, hu⟩ h3⟩
theorem paired_len {α β : Type} {F : α → β → Prop} {l : List α} {m : List β} (h : Paired F l m) : l.length = m.length := Paired.length h
theorem d_dictP {l : List (Str × As)} (hc : X.calm = true) (hm : X.mg "dict" = none) (ha : De X a ρ (aLst (l.map fun q => aTup X.K [aStr q.1, q.2]))) (hs : starEach (a :: []) X.env = (false, eval a X.env) :: starEach [] X.env := by rfl) (hg : Gl X "dict" := by rfl) : De X (.Call (.Name "dict" p) [a] [] pos) ρ (aDic l.length (dOf l)) :=
  d_ct (call_dictP hc) (fun pl H Hc vs g f Q q => by
    obtain ⟨v, e1, a, ws, h1, h2, f2⟩ := one f
    subst e1 h1
    obtain ⟨ps, kvs, k1, k2, k3⟩ := pairs_split g.sub f2
    subst k1
    refine ⟨a, ps, kvs, rfl, SqL.of (g.sub _ _ h2), k2, fun d hd => q.new g hd ⟨d, _, rfl, upd_same, ?_, (merge_has HasF.nil k3).mono (same_new (clean_none g hd))⟩⟩
    refine Nat.le_trans (length_mergeK kvs []) ?_
    rw [List.length_nil, Nat.zero_add, paired_len k3]
    exact Nat.le_refl _) hm (da1 ha hs) (by decide +kernel) hg (by decide) (by decide) hs rfl
/-! ### {k: v for target in it if ..} -/
def GrowD (pl : Option Addr) (H1 Hc1 : Hp) (D : Addr) (n : Nat) (f : Fn) (H : Hp) : Prop := ∃ Hc ws, Stp pl H1 Hc1 H Hc ∧ H D = some (.dK ws) ∧ Hc D = none ∧ ws.length ≤ n ∧ HasF pl Hc ws f
theorem Out.promote {pl : Option Addr} {H Hc H' Hc' : Hp} {p : Addr} {o : HO} (s : Stp pl H Hc H' Hc') (h1 : H' p = some o) (h2 : Hc' p = none) (h3 : pl ≠ some p) (h4 : H p = none) : Stp pl H Hc H' (upd Hc' p o) ∧ Same Hc' (upd Hc' p o) := by
  have sub : Same Hc' (upd Hc' p o) := fun q o' e => by
    rw [upd_ne (ne_of_none e h2)]
    exact e
  refine ⟨⟨s.keep, s.cl.trans sub, ⟨fun q o' e => ?_, fun q hq => ?_⟩, fun q o' e => ?_⟩, sub⟩
  · by_cases hq : q = p
    · subst hq
      rw [upd_same] at e
      cases e
      exact h1
    · rw [upd_ne hq] at e
      exact s.gd.sub _ _ e
  · have hne : q ≠ p := fun z => h3 (z ▸ hq)
    rw [upd_ne hne]
    exact s.gd.pool q hq
  · by_cases hq : q = p
    · subst hq
      exact .inr (.inl h4)
    · rw [upd_ne hq] at e
      exact s.new _ _ e
variable {α : Type} {xs : List α} {Pt : α → As} {is : List Nat} {Ts : α → List As} {bb : α → Bool} {F : α → As} {kk : α → Str} {ifs : List Expr}
theorem d_dc (own : List (Str × Nat)) (hN : X.N.Nodup) (ok : BlkOk X.N X.env.scope scope own) (hi : Di X tg it ρ xs Pt) (hg : InBlk X scope fun Y => ∀ x ∈ xs, Dg Y tg (Pt x) is (Ts x))
    (ht : InBlk X scope fun Y => ∀ x ∈ xs, DtS Y ifs (inR ρ own is (Ts x)) (bb x)) (hk : InBlk X scope fun Y => ∀ x ∈ xs, bb x = true → De Y kx (inR ρ own is (Ts x)) (aStr (kk x))) (hv : InBlk X scope fun Y => ∀ x ∈ xs, bb x = true → De Y vx (inR ρ own is (Ts x)) (F x))
    (hz : xs.length < 1000000) (hc : X.calm = true := by rfl) (hw : ∀ i ∈ is, i ∈ own.map (·.2) := by decide) (hs : ∀ x, foldedSetIterable it X.env x = pure x := by intro _; rfl) : De X (.DictComp kx vx [⟨tg, it, ifs, 0⟩] scope pos) ρ (aDic xs.length (dOf ((xs.filter bb).map fun x => (kk x, F x)))) := fun pl σ H Hc g ev Q q => by
  refine tE_of (pe_dc (tk := eB X scope kx) (tv := eB X scope vx) hc hN pi_can ok pg_B pts_B pe_B pe_B hs) (hi pl σ H Hc g ev _ fun J H1 Hc1 s1 y D hD => ?_)
  have hp := not_pool s1.gd hD
  have hD0 : H D = none := by
    cases e : H D with
    | none => rfl
    | some o =>
      rw [s1.keep D o hp e] at hD
      cases hD
  refine ⟨fun i m H' => m = xs.length - i ∧ i ≤ xs.length ∧ GrowD pl H1 Hc1 D i (dOf (((xs.take i).filter bb).map fun x => (kk x, F x))) H', ⟨xs.length, by simp, Nat.zero_le _, Hc1, [], Stp.apart s1.gd hD _, upd_same, clean_none s1.gd hD, Nat.le_refl _, HasF.nil⟩, ?_⟩
  rintro i m H' ⟨rfl, hle, Hc', ws, s2, hws, hcD, hlen, hf⟩
  obtain ⟨y1, y2⟩ := y i H' Hc' s2.cl s2.gd
  by_cases hlt : i < xs.length
  · have hx : xs[i]? = some xs[i] := by simp [hlt]
    have hm : xs[i] ∈ xs := List.getElem_mem hlt
    obtain ⟨go, yl⟩ := y1 (Pt xs[i]) (by rw [List.getElem?_map, hx]; rfl)
    refine .inr ⟨go, GrowD pl H1 Hc1 D (i + 1) (dOf (((xs.take (i + 1)).filter bb).map fun x => (kk x, F x))), fun H2 n2 => ⟨xs.length - (i + 1), by omega, rfl, hlt, n2⟩, fun v H3 hv3 => ?_⟩
    obtain ⟨Hc3, s3, pv⟩ := yl v H3 hv3
    intro a1 a2 a3 a4 a5
    refine hg a1 a2 a3 a4 a5 _ hm pl _ H3 Hc3 v s3.gd pv _ fun vs f3 l3 => ⟨(wipe_setAll hw).trans wipe_wipe, ?_⟩
    have ev3 : EnvOk pl Hc3 (setAll (wipe σ (own.map (·.2))) is vs) (inR ρ own is (Ts xs[i])) := EnvOk.setAll ((ev.mono ((s1.cl.trans s2.cl).trans s3.cl)).wipe _) f3 l3
    intro b1 b2 b3 b4 b5
    refine ht b1 b2 b3 b4 b5 _ hm pl _ H3 Hc3 s3.gd ev3 _ fun H4 Hc4 s4 => ?_
    cases hb : bb xs[i] with
    | false =>
      refine iteF ?_
      rw [take_more hx, List.filter_append, List.filter_cons, if_neg (by rw [hb]; decide), List.filter_nil, List.append_nil]
      have s34 := s3.trans s4
      exact ⟨Hc4, ws, s2.trans s34, s34.keep D _ hp hws, s34.clean hws hcD, by omega, hf.mono s34.cl⟩
    | true =>
      refine iteT ?_
      intro c1 c2 c3 c4 c5
      refine hk c1 c2 c3 c4 c5 _ hm hb pl _ H4 Hc4 s4.gd (ev3.mono s4.cl) _ fun v5 H5 Hc5 s5 hv5 => ?_
      intro d1 d2 d3 d4 d5
      refine hv d1 d2 d3 d4 d5 _ hm hb pl _ H5 Hc5 s5.gd ((ev3.mono s4.cl).mono s5.cl) _ fun v6 H6 Hc6 s6 hv6 => ?_
      have s36 := ((s3.trans s4).trans s5).trans s6
      have c6 := s36.clean hws hcD
      refine ⟨ws, .inr (kk xs[i]), hv5, s36.keep D _ hp hws, small_of (by omega), Hc6, _, (s2.trans s36).mut hD c6 hp _, upd_same, c6, Nat.le_trans (length_putK ..) (by omega), ?_⟩
      rw [take_more hx, List.filter_append, List.map_append, List.filter_cons, if_pos hb]
      exact (dOf_more _ _) ▸ (hf.mono s36.cl).put hv6
  · have e : i = xs.length := by omega
    subst e
    refine .inl ⟨y2 (by rw [List.length_map]; exact Nat.le_refl _) (by rw [List.length_map]), ?_⟩
    rw [List.take_length] at hf
    obtain ⟨s3, sm⟩ := Out.promote (s1.trans s2) hws hcD hp hD0
    exact q _ _ _ s3 ⟨D, ws, rfl, upd_same, hlen, hf.mono sm⟩
end
end Da
set_option Elab.async false
set_option linter.all false
set_option maxRecDepth 100000
set_option maxHeartbeats 4000000
namespace Da
open PySem PySem.Spec PyProof.Rows L2
/-! ### an object that is being made -/
structure IOk (pl : Option Addr) (H0 Hc0 : Hp) (x C : Addr) (FS : List (Str × As)) (ρ : Rho) (σ : L2.St) (H Hc : Hp) : Prop where
  stp : Stp pl H0 Hc0 H Hc
  env : EnvOk pl Hc σ ρ
  ins : ∃ dx ws, H x = some (.ins C dx ws) ∧ ws.map Prod.fst = FS.map Prod.fst ∧ Fits pl Hc (ws.map Prod.snd) (FS.map Prod.snd)
  new : H0 x = none
  apart : Hc x = none
  np : pl ≠ some x
theorem IOk.step {pl : Option Addr} {H0 Hc0 H Hc H' Hc' : Hp} {x C : Addr} {FS : List (Str × As)} {ρ : Rho} {σ : L2.St} (s : IOk pl H0 Hc0 x C FS ρ σ H Hc) (t : Stp pl H Hc H' Hc') : IOk pl H0 Hc0 x C FS ρ σ H' Hc' :=
  let ⟨dx, ws, h1, h2, h3⟩ := s.ins
  ⟨s.stp.trans t, s.env.mono t.cl, ⟨dx, ws, t.keep x _ s.np h1, h2, h3.mono t.cl⟩, s.new, t.clean h1 s.apart, s.np⟩
theorem putF_new {f : Str} {v : V} : ∀ {ws : List (Str × V)}, f ∉ ws.map Prod.fst → putF f v ws = ws ++ [(f, v)]
  | [], _ => rfl
  | (g, y) :: r, h => by
    have h1 : g ≠ f := fun e => h (by rw [e]; exact List.mem_cons_self ..)
    show (if g = f then (g, v) :: r else (g, y) :: putF f v r) = _
    rw [if_neg h1, putF_new fun m => h (List.mem_cons_of_mem _ m)]
    rfl
def Dn (X : Cx) (sts : List Stmt) (x C : Addr) (FS : List (Str × As)) (ρ : Rho) (GS : List (Str × As)) : Prop := ∀ pl H0 Hc0 σ H Hc (D : Ends), IOk pl H0 Hc0 x C FS ρ σ H Hc → (∀ ρ' σ' H' Hc', IOk pl H0 Hc0 x C GS ρ' σ' H' Hc' → D.nx σ' H') → tSs X sts D σ H
section
variable {X : Cx} {ρ : Rho} {x C : Addr} {FS GS : List (Str × As)} {e : Expr} {P : As} {pos p' p2 : Pos} {rest : List Stmt} {z f : Str}
theorem dn_nil : Dn X [] x C FS ρ FS := fun pl H0 Hc0 σ H Hc D s k => tSs_of pss_nil (k _ _ _ _ s)
theorem dn_set (i : Nat) (hN : X.N.Nodup) (he : De X e ρ P) (k : Dn X rest x C FS (ρ.set i (some P)) GS) (hi : X.N[i]? = some z := by rfl) (hx : Loc X.env.scope z := by first | exact Or.inl rfl | exact Or.inr rfl) (hs : swapsWith e (some (.Name z p')) pos.line X.env = pure false := by rfl) (hf : X.fn z = true ∨ X.env.scope.names.lookup z = some .local := by first | exact .inl rfl | exact .inr rfl | assumption) :
    Dn X (.Assign [.Name z p'] e pos :: rest) x C FS ρ GS := fun pl H0 Hc0 σ H Hc D s kk => tSs_of (pss_cons (ps_set hN hi hx pe_can hs hf) pss_can) (he pl σ H Hc s.stp.gd s.env _ fun v H1 Hc1 t hv => by
  have s1 := s.step t
  exact k pl H0 Hc0 _ H1 Hc1 D ⟨s1.stp, s1.env.set i hv, s1.ins, s1.new, s1.apart, s1.np⟩ kk)
theorem dn_expr (he : De X e ρ P) (k : Dn X rest x C FS ρ GS) (hs : swapsWith e none pos.line X.env = pure false := by rfl) : Dn X (.Expr e pos :: rest) x C FS ρ GS := fun pl H0 Hc0 σ H Hc D s kk =>
  tSs_of (pss_cons (ps_expr pe_can hs) pss_can) (he pl σ H Hc s.stp.gd s.env _ fun v H1 Hc1 t hv => k pl H0 Hc0 _ H1 Hc1 D (s.step t) kk)
/-- self.f = e -/
theorem dn_fld {o : Expr} (cl : Cls X.K C) (na : NoAttr X.K C f) (ho : De X o ρ (aV (.ref x))) (he : De X e ρ P) (hn : f ∉ FS.map Prod.fst) (k : Dn X rest x C (FS ++ [(f, P)]) ρ GS) (hz : FS.length < 900 := by first | decide | exact Nat.le_of_ble_eq_true rfl) (hs : swapsWith e (some (.Attribute o f p')) pos.line X.env = pure false := by rfl) :
    Dn X (.Assign [.Attribute o f p'] e pos :: rest) x C FS ρ GS := fun pl H0 Hc0 σ H Hc D s kk => by
  refine tSs_of (pss_cons (ps_fld pe_can pe_can hs) pss_can) (he pl σ H Hc s.stp.gd s.env _ fun v H1 Hc1 t hv => ho pl σ H1 Hc1 t.gd (s.env.mono t.cl) _ fun u H2 Hc2 t2 hu => ?_)
  have s2 := (s.step t).step t2
  obtain ⟨dx, ws, h1, h2, h3⟩ := s2.ins
  have hl : ws.length = FS.length := by
    have := congrArg List.length h2
    simpa using this
  refine ⟨x, C, dx, ws, hu, h1, cl, na, by omega, ?_⟩
  rw [putF_new (by rw [h2]; exact hn)]
  refine k pl H0 Hc0 σ _ Hc2 D ⟨s2.stp.mut s2.new s2.apart s2.np _, s2.env, ⟨dx, _, upd_same, by rw [List.map_append, List.map_append, h2]; rfl, ?_⟩, s2.new, s2.apart, s2.np⟩ kk
  rw [List.map_append, List.map_append]
  exact h3.app (.cons (P.mono t2.cl hv) .nil)
/-- .. of a value of which nothing is kept; e may read what self holds by now -/
theorem dn_fldA {o : Expr} (cl : Cls X.K C) (na : NoAttr X.K C f) (h0 : ρ[0]? = some (some (aV (.ref x)))) (ho : De X o ρ (aV (.ref x))) (he : De X e (ρ.set 0 (some (aObj C FS))) P) (hn : f ∉ FS.map Prod.fst) (k : Dn X rest x C (FS ++ [(f, aAny)]) ρ GS) (hz : FS.length < 900 := by first | decide | exact Nat.le_of_ble_eq_true rfl) (hs : swapsWith e (some (.Attribute o f p')) pos.line X.env = pure false := by rfl) :
    Dn X (.Assign [.Attribute o f p'] e pos :: rest) x C FS ρ GS := fun pl H0 Hc0 σ H Hc D s kk => by
  obtain ⟨dx, ws, w1, w2, w3⟩ := s.ins
  obtain ⟨p1, sm⟩ := Out.promote s.stp w1 s.apart s.np s.new
  have hl0 : 0 < ρ.length := (List.getElem?_eq_some_iff.mp h0).1
  have env1 : EnvOk pl (upd Hc x (.ins C dx ws)) σ (ρ.set 0 (some (aObj C FS))) := by
    have e1 := s.env.mono sm
    obtain ⟨v, a1, a2⟩ := e1.at_ 0 _ h0
    have a3 : v = V.ref x := a2
    subst a3
    refine ⟨by rw [List.length_set]; exact e1.len, fun i Q hi => ?_⟩
    rcases get_set hi with ⟨rfl, e2, _⟩ | ⟨ne, e2⟩
    · cases e2
      exact ⟨_, a1, x, dx, ws, rfl, upd_same, w2, w3.mono sm⟩
    · exact e1.at_ i Q e2
  refine tSs_of (pss_cons (ps_fld pe_can pe_can hs) pss_can) (he pl σ H _ p1.gd env1 _ fun v H1 Hc1 t hv => ?_)
  have t' : Stp pl H Hc H1 Hc := ⟨t.keep, Same.refl _, ⟨fun q o h => t.gd.sub _ _ (t.cl _ _ (sm _ _ h)), fun q hq => ⟨(s.stp.gd.pool q hq).1, (t.gd.pool q hq).2⟩⟩, fun _ _ h => .inl h⟩
  have s1 := s.step t'
  refine ho pl σ H1 Hc t'.gd s1.env _ fun u H2 Hc2 t2 hu => ?_
  have s2 := s1.step t2
  obtain ⟨dx, ws, h1, h2, h3⟩ := s2.ins
  have hl : ws.length = FS.length := by
    have := congrArg List.length h2
    simpa using this
  refine ⟨x, C, dx, ws, hu, h1, cl, na, by omega, ?_⟩
  rw [putF_new (by rw [h2]; exact hn)]
  refine k pl H0 Hc0 σ _ Hc2 D ⟨s2.stp.mut s2.new s2.apart s2.np _, s2.env, ⟨dx, _, upd_same, by rw [List.map_append, List.map_append, h2]; rfl, ?_⟩, s2.new, s2.apart, s2.np⟩ kk
  rw [List.map_append, List.map_append]
  exact h3.app (.cons trivial .nil)
end
/-- __init__, self and its values; GS: the attributes that it sets -/
def spI {α : Type} (C : Addr) (ok : α → Prop) (args : α → List As) (GS : α → List (Str × As)) : Sp := fun vs H Q _ => ∃ pl H0 Hc y x dx us, vs = .ref x :: us ∧ Stp pl H0 Hc H Hc ∧ ok y ∧ Fits pl Hc us (args y) ∧ H x = some (.ins C dx []) ∧ H0 x = none ∧ Hc x = none ∧ pl ≠ some x ∧
  ∀ H' Hc', Stp pl H0 Hc H' Hc' → H' x ≠ none → (aObj C (GS y)).is pl Hc' (.ref x) → Q .non H'
section
variable {P : Program} {w : World} {K : PySem.W.Frag} {mg : Str → Option Value} {base : Heap} {x qual : Str} {params : Arguments} {body : List Stmt} {scope : Scope} {dvs : List V} {kws : List (Str × V)} {f C : Addr} {fd : FuncData} {N ps : List Str} {k : Nat}
theorem init_ok {α : Type} {ok : α → Prop} {args : α → List As} {GS : α → List (Str × As)} (F : FunD K x qual params body scope dvs kws f fd) (S : FnScope N ps scope) (hl : ∀ y, (args y).length + 1 = ps.length)
    (hb : ∀ (y : α) (a : Addr), ok y → ∀ (cdv : Value) (A : Around) (outer : List Env) (s : Shared) (H : Hp) (E : XK), Room k (A.deeper (envOfC qual scope s.heap.objs.size f cdv)) →
      Dn (cxOf CX0 P w K mg base N qual scope f cdv A outer s H E).nox body a C [] (exR (inSl (aV (.ref a) :: args y) N.length)) (GS y)) : FnOk P w K mg base CX0 (k + 1) f fd ps (spI C ok args GS) := by
  refine F.ok S (fun vs H Q E ⟨pl, H0, Hc, y, a, dx, us, e, s, hy, f, h1, h2, h3, h4, q⟩ => by rw [e, List.length_cons, f.len, hl]) fun cdv A outer s H vs Q E hr ⟨pl, H0, Hc, y, a, dx, us, e, st, hy, f, h1, h2, h3, h4, q⟩ => ⟨_, PSs.nox pss_can, ?_⟩
  subst e
  have s0 := (start_ok (N := N) (vs := .ref a :: us) (ps := aV (.ref a) :: args y) st.gd (.cons rfl f)).env
  refine hb y a hy cdv A outer s H E hr pl H0 Hc _ H Hc _ ⟨st, s0, ⟨dx, [], h1, rfl, .nil⟩, h2, h3, h4⟩ fun ρ' σ' H' Hc' s1 => ?_
  obtain ⟨dx', ws, k1, k2, k3⟩ := s1.ins
  obtain ⟨p1, p2⟩ := Out.promote s1.stp k1 s1.apart s1.np s1.new
  exact q H' _ p1 (by rw [k1]; exact fun z => nomatch z) ⟨a, dx', ws, rfl, upd_same, k2, k3.mono p2⟩
end
section
variable {X : Cx} {ρ : Rho} {x : Str} {e : Expr} {es : List Expr} {p pos : Pos} {k : Nat} {f C : Addr} {fd : FuncData} {ps : List Str}
theorem d_make {α : Type} {ok : α → Prop} {args : α → List As} {GS : α → List (Str × As)} (M : Mk X.K C f) (F : FnOk X.prog X.w X.K X.mg X.base CX0 k f fd ps (spI C ok args GS)) (hb : Binds X.K fd ps []) (hr : Room (k + 1) X.A) (hm : X.mg x = some (.ref C)) (y : α) (hy : ok y) (ha : DeA X (e :: es) ρ (args y)) (hg : Gl X x := by rfl)
    (hdb : (x == ("__debug__" : Str)) = false := by decide) (he : starEach (e :: es) X.env = (false, eval e X.env) :: starEach es X.env := by rfl) (hpl : (backTo pos (starEach es X.env)).any (·.1) = false := by rfl) : De X (.Call (.Name x p) (e :: es) [] pos) ρ (aObj C (GS y)) := fun pl σ H Hc g ev Q q => by
  refine tE_of (pe_make M F hr hg hm hb .nil pass0 pa_can hdb he hpl) (ha pl σ H Hc g ev _ fun vs H1 Hc1 s1 h1 => fun a dx ha hdx hne => ?_)
  have a1 := Stp.apart s1.gd hdx (.own a)
  have ha' : (upd H1 dx (.own a)) a = none := by
    rw [upd_ne (fun z => hne z.symm)]
    exact ha
  have a2 := a1.trans (Stp.apart a1.gd ha' (.ins C dx []))
  refine ⟨pl, H1, Hc1, y, a, dx, vs, by rw [List.append_nil], a2, hy, h1, upd_same, ha, clean_none s1.gd ha, not_pool s1.gd ha, fun H' Hc' s2 _ h2 => ⟨rfl, q _ _ _ (s1.trans s2) h2⟩⟩
end
end Da
set_option Elab.async false
set_option linter.all false
set_option maxRecDepth 100000
set_option maxHeartbeats 4000000
namespace Da
open PySem PySem.Spec PyProof.Rows L2
section
variable {X : Cx} {C f : Addr} {fd : FuncData} {k : Nat} {sp : Sp}
/-- len(o) by the class's own __len__ -/
theorem call_lenO (F : FnOk X.prog X.w X.K X.mg X.base CX0 k f fd ["self"] sp) (me : Meth X.K C "__len__" f) (hb : Binds X.K fd ["self"] []) (hr : Room (k + 1) X.A) :
    CallR X (.builtin "len") (fun xs H Q => ∃ a dx fs, xs = [.ref a] ∧ H a = some (.ins C dx fs) ∧ sp [.ref a] H (fun v H' => ∃ n : Nat, (n : Int) < 2 ^ 60 ∧ v = .int n ∧ Q (.int n) H') E0) := by
  intro pins s σ H xs us Q I r h
  obtain ⟨a, dx, fs, rfl, ha, q⟩ := h
  obtain ⟨u, rfl, ru⟩ := vals1 r
  obtain rfl : u = Value.ref a := ru
  obtain ⟨mA, O, _⟩ := ins_get I.hok ha
  obtain ⟨od, J, _⟩ := O.look
  refine Calls.call_function_entry kind_len plain_len entry_len (args_len1 _) ?_
  unfold Builtin.«len»
  refine wpAny_bind (m := oneArg "len" _) (wpAny_pure ?_)
  refine wpAny_bind (m := callSpecial? (.ref a) (Str.ofString "__len__")) (PySem.W.special_fn I.kIn J me.at_ (beq_iff_eq.mp me.fn) ?_)
  refine wpAny_call (codeAny_mono (F.run X.A.in1 X.stack s H ⟨[Value.ref a], []⟩ [Value.ref a] [V.ref a] _ E0 hr.in1 I.env0.in1 (hb s [Value.ref a] I.kIn rfl) (.cons rfl .nil) q) fun r s' hq => ?_)
  cases r with
  | error e => exact pass0 pins σ H s e s' I hq
  | ok fl =>
    cases fl with
    | ret v =>
      obtain ⟨y, H', I2, ry, n, hn, ey, q2⟩ := I.after hq
      subst ey
      obtain ⟨t, rfl⟩ := ry
      refine wpAny_bind (wpAny_holding (wpAny_pure (wpAny_bind (wpAny_letGo ?_))))
      show wpAny _ _ (if (n : Int) < 0 then _ else _) _ _ _
      rw [if_neg (by omega)]
      show wpAny _ _ (if (n : Int) ≥ 2 ^ 63 then _ else _) _ _ _
      rw [if_neg (by omega)]
      exact wpAny_bind (wpAny_mkInt (wpAny_pure ⟨_, rfl, ⟨.int n, H', I2.tok _, ⟨_, rfl⟩, q2⟩⟩))
    | next => exact False.elim hq
    | brk => exact False.elim hq
    | cont => exact False.elim hq
end
section
variable {X : Cx} {ρ : Rho} {pos p : Pos} {e : Expr} {k : Nat} {C : Addr}
theorem d_lenO {α : Type} {ok : α → Prop} {fs : α → List (Str × As)} {nn : α → Nat} (M : Mok X.prog X.w X.K X.mg X.base k C "__len__" (spF ok (fun y => [aObj C (fs y)]) fun y => aInt (nn y : Int))) (hr : Room (k + 1) X.A) (y : α) (hy : ok y) (hn : (nn y : Int) < 2 ^ 60) (hm : X.mg "len" = none) (h : De X e ρ (aObj C (fs y)))
    (hs : starEach (e :: []) X.env = (false, eval e X.env) :: starEach [] X.env := by rfl) (hg : Gl X "len" := by rfl) : De X (.Call (.Name "len" p) [e] [] pos) ρ (aInt (nn y : Int)) := by
  obtain ⟨f, fd, me, F, B⟩ := M.ex
  exact d_cb (call_lenO F me B hr) (fun pl H Hc vs g ft Q q => by
    obtain ⟨v, e1, h0⟩ := one ft
    subst e1
    obtain ⟨a, dx, ws, h1, h2, h3, h4⟩ := id h0
    refine ⟨a, dx, ws, by rw [h1], g.sub _ _ h2, pl, Hc, y, g, hy, .cons (h1 ▸ h0) .nil, fun u H' Hc' s hu => ⟨nn y, hn, hu, q _ _ _ s rfl⟩⟩) hm (da1 h hs) PySem.boot_len hg (by decide) (by decide) hs rfl
end
end Da
set_option Elab.async false
set_option linter.all false
set_option maxRecDepth 100000
set_option maxHeartbeats 4000000
namespace Lb
open PySem PySem.Spec PyProof.Rows L2 Da
/-- a work: its wires, its parts -/
abbrev Wk := List (Str × Nat) × List (Str × List Tie)
def wkF (K : PySem.W.Frag) (y : Wk) : List (Str × As) := [("own_wires", aLst (y.1.map (aWire K))), ("own_parts", aLst (y.2.map (aPart K))), ("wire_at", aAny), ("part_at", aAny)]
def aWk (K : PySem.W.Frag) (y : Wk) : As := aObj (aWork K) (wkF K y)
structure OkWk (y : Wk) : Prop where
  ws : OkWires y.1
  ps : OkParts (y.1.map (·.1)) y.2
section
variable {P : Program} {w : World} {K : PySem.W.Frag} {mg : Str → Option Value} {base : Heap}
theorem scWorkInit : FnScope ["self", "wires", "parts", "name", "many", "ties", "number"] ["self", "wires", "parts"] (defScope sWorkInit) := ⟨rfl, rfl, rfl, by decide +kernel, rfl, by decide +kernel, by decide +kernel⟩
theorem init_work (T : Txt w K mg) : ∃ fd, FnOk P w K mg base CX0 8 (He.fAd K ("Work", some "__init__")) fd ["self", "wires", "parts"] (spI (α := Wk) (aWork K) OkWk (fun y => [aLst (y.1.map (aWire K)), aLst (y.2.map (aPart K))]) (wkF K)) ∧ Binds K fd ["self", "wires", "parts"] [] := by
  obtain ⟨fd, F⟩ := T.f_WorkInit
  refine ⟨fd, init_ok F scWorkInit (fun _ => rfl) fun y a hy cdv A outer s H E hr => ?_, ?_⟩
  rotate_left
  · obtain ⟨ds, hv, hb⟩ := F.binds1 (ps := ["self", "wires", "parts"]) 3 1 (by simp [He.DefD.dvs, dWorkInit]) rfl fun _ _ _ _ _ _ _ us its h1 h2 => match us, its, h1, h2 with | [_, _, _], [_], _, _ => ⟨_, rfl, rfl⟩
    have e : ds = [] := Vals.zero hv
    subst e
    exact hb
  have hN := scWorkInit.nd
  have h1 := hy.ws.hi
  have h2 := hy.ps.hi
  refine dn_set (P := aLst (y.2.map (aPart K))) 2 hN (d_ifx (dt_val (d_isT "list" "tuple" false T.b_isinstance T.b_tuple (d_v 2) ist_lst)) (fun e => nomatch e) fun _ => d_v 2) ?_
  refine dn_expr (P := aNon) (d_cl (look_at_wires_ok T) hr y.1 hy.ws (da1 (d_v 1))) ?_
  refine dn_expr (P := aNon) (d_cl (look_at_parts_ok T) hr (y.1.map (·.1), y.2) hy.ps (da2 ((d_map (xs := y.1) (P := aWire K) (F := fun q => aStr q.1) [("name", 3), ("many", 4)] hN (blkOk_by (by kernel_rfl)) (di_list (d_v 1)) (fun _ _ _ _ _ c _ => dg_two 3 4 rfl hN) (fun _ _ _ _ _ c _ => d_v 3) (by omega)).as (by rw [List.map_map]; rfl)) (d_v 2))) ?_
  refine dn_fld (P := aLst (y.1.map (aWire K))) T.cl T.na_own_wires (d_v 0) (dn_listL T.b_list (d_v 1)).de (of_decide_eq_true (by kernel_rfl)) ?_
  refine dn_fld (P := aLst (y.2.map (aPart K))) T.cl T.na_own_parts (d_v 0) (d_map (xs := y.2) (P := aPart K) (F := aPart K) [("name", 3), ("ties", 5)] hN (blkOk_by (by kernel_rfl)) (di_list (d_v 2)) (fun _ _ _ _ _ c _ => dg_two 3 5 rfl hN) (fun _ _ _ _ _ c _ => d_tup (da2 (d_v 3) (dn_listL T.b_list (d_v 5)).de)) (by omega)) (of_decide_eq_true (by kernel_rfl)) ?_
  refine dn_fldA T.cl T.na_wire_at rfl (d_v 0) (d_dc (xs := y.1.zipIdx) (Pt := fun q => aTup K [aInt (q.2 : Int), aWire K q.1]) (is := [6, 3, 4]) (Ts := fun q => [aInt (q.2 : Int), aStr q.1.1, aInt (q.1.2 : Int)]) (bb := fun _ => true) (kk := fun q => q.1.1) (F := fun q => aInt (q.2 : Int)) [("number", 6), ("name", 3), ("many", 4)] hN (blkOk_by (by kernel_rfl))
    (di_enum T.b_enumerate (d_fld T.cl T.na_own_wires (d_v 0) rfl)) (fun _ _ _ _ _ c _ => dg_tup rfl (dgs_cons (dg_name 6 hN) (dgs_cons (dg_two 3 4 rfl hN) dgs_nil))) (fun _ _ _ _ _ c _ => dts_nil) (fun _ _ _ _ _ c _ _ => d_v 3) (fun _ _ _ _ _ c _ _ => d_v 6) (by rw [List.length_zipIdx]; omega)) (of_decide_eq_true (by kernel_rfl)) ?_
  refine dn_fldA T.cl T.na_part_at rfl (d_v 0) (d_dc (xs := y.2.zipIdx) (Pt := fun q => aTup K [aInt (q.2 : Int), aPart K q.1]) (is := [6, 3, 5]) (Ts := fun q => [aInt (q.2 : Int), aStr q.1.1, aLst (q.1.2.map (aTie K))]) (bb := fun _ => true) (kk := fun q => q.1.1) (F := fun q => aInt (q.2 : Int)) [("number", 6), ("name", 3), ("ties", 5)] hN (blkOk_by (by kernel_rfl))
    (di_enum T.b_enumerate (d_fld T.cl T.na_own_parts (d_v 0) rfl)) (fun _ _ _ _ _ c _ => dg_tup rfl (dgs_cons (dg_name 6 hN) (dgs_cons (dg_two 3 5 rfl hN) dgs_nil))) (fun _ _ _ _ _ c _ => dts_nil) (fun _ _ _ _ _ c _ _ => d_v 3) (fun _ _ _ _ _ c _ _ => d_v 6) (by rw [List.length_zipIdx]; omega)) (of_decide_eq_true (by kernel_rfl)) ?_
  exact dn_nil
end
end Lb
set_option Elab.async false
set_option linter.all false
set_option maxRecDepth 100000
set_option maxHeartbeats 4000000
namespace Da
open PySem PySem.Spec PyProof.Rows L2
/-- a dict of texts with ints -/
abbrev Gn := Str → Option Int
abbrev aDI (n : Nat) (g : Gn) : As := aDic n fun z => (g z).map aInt
def upG (g : Gn) (z : Str) (i : Int) : Gn := fun y => if y = z then some i else g y
theorem upG_same {g : Gn} {z : Str} {i : Int} : upG g z i z = some i := if_pos rfl
theorem upG_ne {g : Gn} {z y : Str} {i : Int} (h : y ≠ z) : upG g z i y = g y := if_neg h
theorem upF_map {g : Gn} {z : Str} {i : Int} : upF (fun y => (g y).map aInt) z (aInt i) = fun y => (upG g z i y).map aInt := funext fun y => by
  by_cases e : y = z
  · subst e
    rw [upG_same]
    exact if_pos rfl
  · rw [upG_ne e]
    exact if_neg e
def gPut (g : Gn) (l : List (Str × Int)) : Gn := l.foldl (fun g q => upG g q.1 q.2) g
def gOf (l : List (Str × Int)) : Gn := gPut (fun _ => none) l
theorem dOf_map : ∀ (l : List (Str × Int)) (g : Gn), (l.map fun q => (q.1, aInt q.2)).foldl (fun f q => upF f q.1 q.2) (fun y => (g y).map aInt) = fun z => (gPut g l z).map aInt
  | [], g => rfl
  | q :: l, g => by
    rw [List.map_cons, List.foldl_cons]
    show (l.map fun q => (q.1, aInt q.2)).foldl (fun f q => upF f q.1 q.2) (upF (fun y => (g y).map aInt) q.1 (aInt q.2)) = _
    rw [upF_map, dOf_map l]
    rfl
theorem dOf_int (l : List (Str × Int)) : dOf (l.map fun q => (q.1, aInt q.2)) = fun z => (gOf l z).map aInt := dOf_map l fun _ => none
theorem gPut_keep : ∀ {l : List (Str × Int)} {g : Gn} {z : Str}, z ∉ l.map (·.1) → gPut g l z = g z
  | [], _, _, _ => rfl
  | q :: l, g, z, h => by
    show gPut (upG g q.1 q.2) l z = g z
    rw [gPut_keep fun m => h (List.mem_cons_of_mem _ m), upG_ne fun e => h (by rw [e]; exact List.mem_cons_self ..)]
theorem gOf_none {l : List (Str × Int)} {z : Str} (h : z ∉ l.map (·.1)) : gOf l z = none := gPut_keep h
theorem gOf_at : ∀ {l : List (Str × Int)} {g : Gn} {q : Str × Int}, (l.map (·.1)).Nodup → q ∈ l → gPut g l q.1 = some q.2
  | p :: l, g, q, nd, h => by
    have nd' := List.nodup_cons.mp nd
    show gPut (upG g p.1 p.2) l q.1 = _
    rcases List.mem_cons.mp h with e | h
    · subst e
      rw [gPut_keep nd'.1, upG_same]
    · exact gOf_at nd'.2 h
theorem gOf_mem {l : List (Str × Int)} {q : Str × Int} (nd : (l.map (·.1)).Nodup) (h : q ∈ l) : gOf l q.1 = some q.2 := gOf_at nd h
section
variable {X : Cx} {ρ : Rho} {pos p : Pos} {a i : Expr} {n k : Nat} {g : Gn} {z : Str}
theorem d_dgetI {v : Int} (hr : Room k X.A) (ha : De X a ρ (aDI n g)) (hi : De X i ρ (aStr z)) (hg : g z = some v) (hs : NoSl i := by intro _ _; rfl) : De X (.Subscript a i pos) ρ (aInt v) := d_dget hr ha hi (by show (g z).map aInt = _; rw [hg]; rfl) hs
theorem d_meth {α : Type} {C : Addr} {fs : α → List (Str × As)} {ok : α → Prop} {res : α → As} {m : Str} {apos : Pos} {pl0 : Sem Bool} {j : Nat} (M : Mok X.prog X.w X.K X.mg X.base j C m (spF ok (fun y => [aObj C (fs y)]) res)) (cl : Cls X.K C) (hr : Room k X.A) (y : α) (hy : ok y) (ho : De X a ρ (aObj C (fs y))) (hm : (fs y).lookup m = none) (hjk : j ≤ k := by decide)
    (ht : eval (.Call (.Attribute a m apos) [] [] pos) X.env = (do
      let ov ← eval a X.env
      standAt apos.atName
      let (f, first) ← holding [ov] (getMethod ov m pl0)
      callWith pos f first (backTo pos (starEach [] X.env)) (backToKw pos (keywordEach [] X.env))) := by rfl) : De X (.Call (.Attribute a m apos) [] [] pos) ρ (res y) := by
  refine d_meth0 (pl0 := pl0) (args := fun y => [aObj C (fs y)]) (res := res) ⟨?_⟩ cl hr y hy ho rfl hm ht
  obtain ⟨f, fd, me, F, B⟩ := M.ex
  exact ⟨f, fd, me, F.mono hjk, B⟩
end
section
variable {P : Program} {w : World} {K : PySem.W.Frag} {mg : Str → Option Value} {base : Heap} {x qual : Str} {params : Arguments} {body : List Stmt} {scope : Scope} {dvs : List V} {kws : List (Str × V)} {f C : Addr} {N : List Str} {k : Nat} {m : Str}
theorem mok_of {α : Type} {ok : α → Prop} {fs : α → List (Str × As)} {res : α → As} (F : ∃ fd, FunD K x qual params body scope [] kws f fd) (me : Meth K C m f) (S : FnScope N ["self"] scope)
    (hbn : ∀ (kV doc pm : Value) (an : Option Addr) (cdv ct : Value) (us : List Value), us.length = 1 → bindArgs (PySem.W.fnOf x qual params body scope .none kV doc pm an cdv ct) ⟨us, []⟩ = pure ((["self"] : List Str).zip us))
    (hb : ∀ (y : α), ok y → ∀ (cdv : Value) (A : Around) (outer : List Env) (s : Shared) (H : Hp) (E : XK), Room k (A.deeper (envOfC qual scope s.heap.objs.size f cdv)) →
      Ds (cxOf CX0 P w K mg base N qual scope f cdv A outer s H E).nox body (inSl [aObj C (fs y)] N.length) (fun _ => res y = aNon) (fun R => Imp R (res y))) : Mok P w K mg base (k + 1) C m (spF ok (fun y => [aObj C (fs y)]) res) := by
  obtain ⟨fd, F⟩ := F
  exact ⟨f, fd, me, def_ok F S (fun _ => rfl) hb, F.bindsN hbn⟩
end
end Da
namespace Lb
open PySem PySem.Spec PyProof.Rows L2 Da
section
variable {P : Program} {w : World} {K : PySem.W.Frag} {mg : Str → Option Value} {base : Heap}
theorem scWires : FnScope ["self"] ["self"] (defScope sWires) := ⟨rfl, rfl, rfl, by decide +kernel, rfl, by decide +kernel, by decide +kernel⟩
theorem scLen : FnScope ["self"] ["self"] (defScope sLen) := ⟨rfl, rfl, rfl, by decide +kernel, rfl, by decide +kernel, by decide +kernel⟩
theorem scParts : FnScope ["self", "name", "ties"] ["self"] (defScope sParts) := ⟨rfl, rfl, rfl, by decide +kernel, rfl, by decide +kernel, by decide +kernel⟩
theorem m_wires (T : Txt w K mg) : Mok P w K mg base 1 (aWork K) "wires" (spF (fun y : Wk => True) (fun y => [aObj (aWork K) (wkF K y)]) fun y => aLst (y.1.map (aWire K))) :=
  mok_of T.f_Wires T.m_wires scWires (fun _ _ _ _ _ _ us hl => match us, hl with | [_], _ => rfl) fun y hy cdv A outer s H E hr => ds_ret (dn_listL T.b_list (d_fld T.cl T.na_own_wires (d_v 0) rfl)).de Imp.rfl'
theorem m_len (T : Txt w K mg) : Mok P w K mg base 1 (aWork K) "__len__" (spF (fun y : Wk => True) (fun y => [aObj (aWork K) (wkF K y)]) fun y => aInt (y.2.length : Int)) :=
  mok_of T.f_Len T.m___len__ scLen (fun _ _ _ _ _ _ us hl => match us, hl with | [_], _ => rfl) fun y hy cdv A outer s H E hr => ds_ret (d_lenL T.b_len (d_fld T.cl T.na_own_parts (d_v 0) rfl)) (Imp.of (by rw [List.length_map]))
theorem m_parts (T : Txt w K mg) : Mok P w K mg base 1 (aWork K) "parts" (spF (fun y : Wk => y.2.length < 1000) (fun y => [aObj (aWork K) (wkF K y)]) fun y => aLst (y.2.map (aPart K))) :=
  mok_of T.f_Parts T.m_parts scParts (fun _ _ _ _ _ _ us hl => match us, hl with | [_], _ => rfl) fun y hy cdv A outer s H E hr => by
    have hN := scParts.nd
    exact ds_ret (d_map (xs := y.2) (P := aPart K) (F := aPart K) [("name", 1), ("ties", 2)] hN (blkOk_by (by kernel_rfl)) (di_list (d_fld T.cl T.na_own_parts (d_v 0) rfl)) (fun _ _ _ _ _ c _ => dg_two 1 2 rfl hN) (fun _ _ _ _ _ c _ => d_tup (da2 (d_v 1) (dn_listL T.b_list (d_v 2)).de)) (by omega)) Imp.rfl'
theorem scLookAtWork : FnScope ["thing"] ["thing"] (defScope sLookAtWork) := ⟨rfl, rfl, rfl, by decide +kernel, rfl, by decide +kernel, by decide +kernel⟩
theorem look_at_work_ok (T : Txt w K mg) : Fok P w K mg base 1 "look_at_work" ["thing"] (spF (α := Wk) (fun _ => True) (fun y => [aWk K y]) (fun _ => aNon)) := by
  refine fok_of T.f_LookAtWork T.g_look_at_work scLookAtWork (fun _ => rfl) (fun _ F => F.bindsN fun _ _ _ _ _ _ us hl => match us, hl with | [_], _ => rfl) fun y hy cdv A outer s H E hr => ?_
  have hN := scLookAtWork.nd
  exact ds_ifF (dt_not (dt_val (d_isi T.b_isinstance (d_v 0) (d_globR T.g_Work) (.own _) (ist_obj (T.insW T.cl)) (T.insW T.cl).me))) rfl (ds_nil rfl)
def mList (y : Wk) : List (Str × Int) := y.1.map fun q => (q.1, (q.2 : Int))
def mG (y : Wk) : Gn := gOf (mList y)
theorem scManysOf : FnScope ["work"] ["work"] (defScope sManysOf) := ⟨rfl, rfl, rfl, by decide +kernel, rfl, by decide +kernel, by decide +kernel⟩
theorem manys_of_ok (T : Txt w K mg) : Fok P w K mg base 2 "manys_of" ["work"] (spF (α := Wk) (fun _ => True) (fun y => [aWk K y]) (fun y => aDI y.1.length (mG y))) := by
  refine fok_of T.f_ManysOf T.g_manys_of scManysOf (fun _ => rfl) (fun _ F => F.bindsN fun _ _ _ _ _ _ us hl => match us, hl with | [_], _ => rfl) fun y hy cdv A outer s H E hr => ?_
  have hN := scManysOf.nd
  refine ds_ret (d_dictP (l := (mList y).map fun q => (q.1, aInt q.2)) rfl T.b_dict ((d_meth (m_wires T) T.cl hr y trivial (d_v 0) rfl).as ?_)) (Imp.of ?_)
  · unfold mList
    rw [List.map_map, List.map_map]
    rfl
  · rw [dOf_int, List.length_map]
    unfold mList
    rw [List.length_map]
    rfl
end
end Lb
set_option Elab.async false
set_option linter.all false
set_option maxRecDepth 100000
set_option maxHeartbeats 4000000
namespace Da
open PySem PySem.Spec PyProof.Rows L2
section
variable {X : Cx} {ρ : Rho} {pos p : Pos} {a b e : Expr} {α β : Type} {xs : List α} {P : α → As} {f : α → β}
theorem di_map {tg it : Expr} {Q : β → As} (h : Di X tg it ρ (xs.map f) Q) : Di X tg it ρ xs fun x => Q (f x) := fun pl σ H Hc g ev R q => h pl σ H Hc g ev R fun J H1 Hc1 s y => q J H1 Hc1 s (by rw [List.map_map] at y; exact y)
end
section
variable {X : Cx} {ρ : Slots} {N : Slots → Prop} {R : As → Prop} {pos pos2 p' : Pos} {rest : List Stmt} {elt tg it c : Expr} {scope : Scope} {α : Type} {xs : List α} {Pt : α → As} {is : List Nat} {Ts : α → List As} {b : α → Bool} {F : α → As}
/-- x = [e for target in it] -/
theorem ds_setMap (i : Nat) {x : Str} (own : List (Str × Nat)) (hN : X.N.Nodup) (ok : BlkOk X.N X.env.scope scope own) (hi : Di X tg it (exR ρ) xs Pt) (hg : InBlk X scope fun Y => ∀ x ∈ xs, Dg Y tg (Pt x) is (Ts x)) (he : InBlk X scope fun Y => ∀ x ∈ xs, De Y elt (inR (exR ρ) own is (Ts x)) (F x))
    (hz : xs.length < 1000000) (k : Ds X rest (ρ.set i (.v (aLst (xs.map F)))) N R) (hsw : swapsWith (.ListComp elt [⟨tg, it, [], 0⟩] scope pos2) (some (.Name x p')) pos.line X.env = pure true := by rfl) (hc : X.calm = true := by rfl) (hni : X.N[i]? = some x := by rfl) (hyl : X.env.scope.names.lookup x = some .local := by rfl)
    (hw : ∀ i ∈ is, i ∈ own.map (·.2) := by decide) (hs : ∀ x, foldedSetIterable it X.env x = pure x := by intro _; rfl) : Ds X (.Assign [.Name x p'] (.ListComp elt [⟨tg, it, [], 0⟩] scope pos2) pos :: rest) ρ N R :=
  ds_setLc (b := fun _ => true) (F := F) i own hN ok hi hg (fun _ _ _ _ _ _ _ => dts_nil) (fun a1 a2 a3 a4 a5 x hx _ => he a1 a2 a3 a4 a5 x hx) hz (by rw [List.filter_eq_self.mpr (fun _ _ => rfl)]; exact k) hsw hc hni hyl hw hs
/-- x = [e for target in it if c] -/
theorem ds_setFil (i : Nat) {x : Str} (own : List (Str × Nat)) (hN : X.N.Nodup) (ok : BlkOk X.N X.env.scope scope own) (hi : Di X tg it (exR ρ) xs Pt) (hg : InBlk X scope fun Y => ∀ x ∈ xs, Dg Y tg (Pt x) is (Ts x)) (ht : InBlk X scope fun Y => ∀ x ∈ xs, Dt Y c (inR (exR ρ) own is (Ts x)) (b x)) (he : InBlk X scope fun Y => ∀ x ∈ xs, b x = true → De Y elt (inR (exR ρ) own is (Ts x)) (F x))
    (hz : xs.length < 1000000) (k : Ds X rest (ρ.set i (.v (aLst ((xs.filter b).map F)))) N R) (hsw : swapsWith (.ListComp elt [⟨tg, it, [c], 0⟩] scope pos2) (some (.Name x p')) pos.line X.env = pure true := by rfl) (hc : X.calm = true := by rfl) (hni : X.N[i]? = some x := by rfl) (hyl : X.env.scope.names.lookup x = some .local := by rfl)
    (hw : ∀ i ∈ is, i ∈ own.map (·.2) := by decide) (hs : ∀ x, foldedSetIterable it X.env x = pure x := by intro _; rfl) : Ds X (.Assign [.Name x p'] (.ListComp elt [⟨tg, it, [c], 0⟩] scope pos2) pos :: rest) ρ N R :=
  ds_setLc (b := b) (F := F) i own hN ok hi hg (fun a1 a2 a3 a4 a5 x hx => dts_one (ht a1 a2 a3 a4 a5 x hx)) he hz k hsw hc hni hyl hw hs
end
theorem room65 {k : Nat} {A : Around} (r : Room k A) : A.units + 65 < cLine := by
  have := r.un
  omega
theorem minL_of {ns : List Int} (k : Int) (h1 : k ∈ ns) (h2 : ∀ y, y ∈ ns → k ≤ y) : k = ns.min?.getD 0 := by
  rw [List.min?_eq_some_iff.mpr ⟨h1, h2⟩]
  rfl
theorem maxL_of {ns : List Int} (k : Int) (h1 : k ∈ ns) (h2 : ∀ y, y ∈ ns → y ≤ k) : k = ns.max?.getD 0 := by
  rw [List.max?_eq_some_iff.mpr ⟨h1, h2⟩]
  rfl
end Da
namespace Lb
open PySem PySem.Spec PyProof.Rows L2 Da
def dedup (ns : List Str) : List Str := (ns.zipIdx.filter fun q => !decide (q.1 ∈ ns.take q.2)).map (·.1)
def wiresT : Tie → List Str
  | .fixed o _ => [o]
  | .op _ ns => dedup ns
  | .rows ws _ => ws
def namesT : Tie → List Str
  | .fixed o _ => [o]
  | .op _ ns => ns
  | .rows ws _ => ws
theorem dedup_mem {ns : List Str} {z : Str} : z ∈ dedup ns ↔ z ∈ ns := by
  unfold dedup
  constructor
  · intro h
    obtain ⟨q, hq, rfl⟩ := List.mem_map.mp h
    have := (List.mem_filter.mp hq).1
    obtain ⟨i, hi, e⟩ := List.mem_iff_getElem.mp this
    have h2 := zipIdx_at (i := i) (q := q) (by rw [List.getElem?_eq_getElem hi, e])
    exact List.mem_of_getElem? h2.1
  · intro h
    obtain ⟨i, hi, e⟩ := List.mem_iff_getElem.mp h
    induction i using Nat.strongRecOn with
    | ind i ih =>
      by_cases hm : z ∈ ns.take i
      · obtain ⟨j, hj, ej⟩ := List.mem_iff_getElem.mp hm
        rw [List.length_take] at hj
        rw [List.getElem_take] at ej
        exact ih j (by omega) (by omega) ej
      · refine List.mem_map.mpr ⟨(z, i), List.mem_filter.mpr ⟨?_, by simp [hm]⟩, rfl⟩
        refine List.mem_of_getElem? (i := i) ?_
        rw [List.getElem?_zipIdx, List.getElem?_eq_getElem hi, e]
        simp
structure OkT (t : Tie) : Prop where
  op : ∀ wd ns, t = .op wd ns → (wd, ns.length) ∈ ops
  few : (namesT t).length < 1000
theorem ops_ne {wd : Str} {n : Nat} (h : (wd, n) ∈ ops) : wd ≠ "rows" ∧ wd ≠ "fixed" ∧ n < 10 ∧ 1 < n := by
  unfold ops at h
  simp only [List.mem_cons, Prod.mk.injEq, List.not_mem_nil, or_false] at h
  rcases h with h | h | h | h | h | h <;> obtain ⟨rfl, rfl⟩ := h <;> refine ⟨by decide, by decide, by decide, by decide⟩
section
variable {P : Program} {w : World} {K : PySem.W.Frag} {mg : Str → Option Value} {base : Heap}
theorem scTieWires : FnScope ["tie", "word", "rest", "k", "name"] ["tie"] (defScope sTieWires) := ⟨rfl, rfl, rfl, by decide +kernel, rfl, by decide +kernel, by decide +kernel⟩
theorem tie_wires_ok (T : Txt w K mg) : Fok P w K mg base 1 "tie_wires" ["tie"] (spF (α := Tie) (OkT) (fun t => [aTie K t]) (fun t => aLst ((wiresT t).map aStr))) := by
  refine fok_of T.f_TieWires T.g_tie_wires scTieWires (fun _ => rfl) (fun _ F => F.bindsN fun _ _ _ _ _ _ us hl => match us, hl with | [_], _ => rfl) fun y hy cdv A outer s H E hr => ?_
  have hN := scTieWires.nd
  cases y with
  | rows ws rs =>
    exact ds_ifR (b := true) ((dt_eqV (x := V.str "rows") (y := V.str "rows") rfl (d_ixT (Ps := tieL K (.rows ws rs)) 0 (d_v 0) d_int) d_str).as (by decide)) (fun _ => ds_ret (dn_listT T.b_list (d_ixT (Ps := tieL K (.rows ws rs)) 1 (d_v 0) d_int)).de Imp.rfl') fun e => nomatch e
  | op wd ns =>
    have wr := ops_ne (hy.op _ _ rfl)
    have few : ns.length < 1000 := hy.few
    refine ds_ifR (b := false) ((dt_eqV (x := V.str wd) (y := V.str "rows") rfl (d_ixT (P := aStr wd) (Ps := tieL K (.op wd ns)) 0 (d_v 0) d_int) d_str).as (decide_eq_false fun e => wr.1 (by injection e))) (fun e => nomatch e) fun _ => ?_
    have cut : ((tieL K (.op wd ns)).take 1 ++ [aLst (((tieL K (.op wd ns)).drop 1).take ((tieL K (.op wd ns)).length + 1 - 2))] ++ ((tieL K (.op wd ns)).drop 1).drop ((tieL K (.op wd ns)).length + 1 - 2)) = [aStr wd, aLst (ns.map aStr)] := by
      unfold tieL
      simp
      exact congrArg aLst (List.take_of_length_le (by simp))
    refine ds_starT (is := [1, 2]) (Ps := [aStr wd, aLst (ns.map aStr)]) (Ps0 := tieL K (.op wd ns)) 2 1 rfl (d_v 0) (by unfold tieL; simp) (by unfold tieL; simp; omega) (by rw [cut]; exact dgs_cons (dg_name 1 hN) (dgs_star (dg_name 2 hN) dgs_nil)) ?_
    refine ds_if (M := fun ρ' => ρ' = [.v (aTie K (.op wd ns)), .v (aStr wd), .v (aLst (ns.map aStr)), .no, .no]) (b := false) ((dt_eqV (x := V.str wd) (y := V.str "fixed") rfl (d_v 1) d_str).as (decide_eq_false fun e => wr.2.1 (by injection e))) (fun e => nomatch e) (fun _ => ds_nil rfl) fun ρ' e => ?_
    subst e
    refine ds_ret (d_fil (xs := ns.zipIdx) (P := fun q => aTup K [aInt (q.2 : Int), aStr q.1]) (Ps := fun q => [aInt (q.2 : Int), aStr q.1]) (b := fun q => !decide (q.1 ∈ ns.take q.2)) (F := fun q => aStr q.1) [("k", 3), ("name", 4)] hN (blkOk_by (by kernel_rfl)) (di_enum T.b_enumerate (d_v 2)) (fun _ _ _ _ _ c _ => dg_two 3 4 rfl hN)
      (fun _ _ _ _ _ c _ => dt_ninSL (d_v 4) ((dn_slTake c.2 (d_v 2) (d_v 3)).de.as (by rw [List.map_take]))) (fun _ _ _ _ _ c _ _ => d_v 4) (by rw [List.length_zipIdx]; omega)) (Imp.of ?_)
    show aLst _ = aLst ((dedup ns).map aStr)
    unfold dedup
    rw [List.map_map]
    rfl
  | fixed o n =>
    refine ds_ifR (b := false) ((dt_eqV (x := V.str "fixed") (y := V.str "rows") rfl (d_ixT (Ps := tieL K (.fixed o n)) 0 (d_v 0) d_int) d_str).as (by decide)) (fun e => nomatch e) fun _ => ?_
    refine ds_starT (is := [1, 2]) (Ps := [aStr "fixed", aLst [aStr o, aInt n]]) (Ps0 := tieL K (.fixed o n)) 2 1 rfl (d_v 0) (by unfold tieL; simp) (by unfold tieL; simp) (dgs_cons (dg_name 1 hN) (dgs_star (dg_name 2 hN) dgs_nil)) ?_
    refine ds_if (M := fun ρ' => ρ' = [.v (aTie K (.fixed o n)), .v (aStr "fixed"), .v (aLst [aStr o]), .no, .no]) (b := true) ((dt_eqV (x := V.str "fixed") (y := V.str "fixed") rfl (d_v 1) d_str).as (by decide)) (fun _ => ?_) (fun e => nomatch e) fun ρ' e => ?_
    · exact ds_set 2 hN (dn_slTake (Ps := [aStr o, aInt n]) 1 (d_v 2) d_int).de (ds_nil rfl)
    subst e
    refine ds_ret (d_fil (xs := [o].zipIdx) (P := fun q => aTup K [aInt (q.2 : Int), aStr q.1]) (Ps := fun q => [aInt (q.2 : Int), aStr q.1]) (b := fun q => !decide (q.1 ∈ [o].take q.2)) (F := fun q => aStr q.1) [("k", 3), ("name", 4)] hN (blkOk_by (by kernel_rfl)) (di_enum (xs := [o]) (P := aStr) T.b_enumerate (d_v 2)) (fun _ _ _ _ _ c _ => dg_two 3 4 rfl hN)
      (fun _ _ _ _ _ c _ => dt_ninSL (d_v 4) ((dn_slTake (Ps := [o].map aStr) c.2 (d_v 2) (d_v 3)).de.as (by rw [List.map_take]))) (fun _ _ _ _ _ c _ _ => d_v 4) (by simp)) (Imp.of ?_)
    show aLst _ = aLst [aStr o]
    simp
def opBy (m : Gn) (wd o : Str) (rest : List Str) (vs : List Int) : Int :=
  if wd = "turned" then (m (rest.getD 0 "")).getD 0 - 1 - vs.getD 0 0
  else if wd = "least" then vs.min?.getD 0
  else if wd = "most" then vs.max?.getD 0
  else if wd = "sum" then vs.sum % (m o).getD 0
  else if wd = "pick" then (if vs.getD 0 0 = 0 then vs.getD 1 0 else vs.getD 2 0)
  else vs.getD 0 0
def valsOf (v : Gn) (ns : List Str) : List Int := ns.map fun z => (v z).getD 0
def outBy (m : Gn) (t : Tie) (v : Gn) : Int := match t with
  | .fixed _ n => n
  | .op wd (o :: rest) => opBy m wd o rest (valsOf v rest)
  | _ => 0
/-- what a tie is asked with: the dicts' sizes, what they say -/
structure Ask where
  n1 : Nat
  m : Gn
  t : Tie
  n2 : Nat
  v : Gn
structure OkAsk (a : Ask) : Prop where
  t : OkT a.t
  m : ∀ z ∈ namesT a.t, ∃ i, a.m z = some i ∧ 0 < i
  v : ∀ z ∈ namesT a.t, ∃ i, a.v z = some i
theorem scOutBy : FnScope ["manys", "tie", "value_by", "word", "out", "rest", "values", "name"] ["manys", "tie", "value_by"] (defScope sOutBy) := ⟨rfl, rfl, rfl, by decide +kernel, rfl, by decide +kernel, by decide +kernel⟩
theorem out_by_ok (T : Txt w K mg) : Fok P w K mg base 1 "out_by" ["manys", "tie", "value_by"] (spF (α := Ask) (fun a => OkAsk a ∧ ∀ ws rs, a.t ≠ .rows ws rs) (fun a => [aDI a.n1 a.m, aTie K a.t, aDI a.n2 a.v]) (fun a => aInt (outBy a.m a.t a.v))) := by
  refine fok_of T.f_OutBy T.g_out_by scOutBy (fun _ => rfl) (fun _ F => F.bindsN fun _ _ _ _ _ _ us hl => match us, hl with | [_, _, _], _ => rfl) fun y hy cdv A outer s H E hr => ?_
  have hN := scOutBy.nd
  obtain ⟨n1, m, t, n2, v⟩ := y
  obtain ⟨⟨ht, hm, hv⟩, nr⟩ := hy
  cases t with
  | rows ws rs => exact absurd rfl (nr ws rs)
  | fixed o n =>
    refine ds_starT (is := [3, 4, 5]) (Ps := [aStr "fixed", aStr o, aLst [aInt n]]) (Ps0 := tieL K (.fixed o n)) 3 2 rfl (d_v 1) (by unfold tieL; simp) (by unfold tieL; simp) (dgs_cons (dg_name 3 hN) (dgs_cons (dg_name 4 hN) (dgs_star (dg_name 5 hN) dgs_nil))) ?_
    exact ds_ifR (b := true) ((dt_eqV (x := V.str "fixed") (y := V.str "fixed") rfl (d_v 3) d_str).as (by decide)) (fun _ => ds_ret (d_ixL (Ps := [aInt n]) 0 (d_v 5) d_int) Imp.rfl') fun e => nomatch e
  | op wd ns =>
    have hop := ht.op _ _ rfl
    have wr := ops_ne hop
    obtain ⟨o, r0, rr, rfl⟩ : ∃ o r0 rr, ns = o :: r0 :: rr := by
      match ns, wr.2.2.2 with
      | o :: r0 :: rr, _ => exact ⟨o, r0, rr, rfl⟩
    have few : (o :: r0 :: rr).length < 10 := wr.2.2.1
    have cut : ((tieL K (.op wd (o :: r0 :: rr))).take 2 ++ [aLst (((tieL K (.op wd (o :: r0 :: rr))).drop 2).take ((tieL K (.op wd (o :: r0 :: rr))).length + 1 - 3))] ++ ((tieL K (.op wd (o :: r0 :: rr))).drop 2).drop ((tieL K (.op wd (o :: r0 :: rr))).length + 1 - 3)) = [aStr wd, aStr o, aLst ((r0 :: rr).map aStr)] := by
      unfold tieL
      simp
      exact congrArg (fun l => aLst (aStr r0 :: l)) (List.take_of_length_le (by simp))
    refine ds_starT (is := [3, 4, 5]) (Ps := [aStr wd, aStr o, aLst ((r0 :: rr).map aStr)]) (Ps0 := tieL K (.op wd (o :: r0 :: rr))) 3 2 rfl (d_v 1) (by unfold tieL; simp) (by unfold tieL; simp at few ⊢; omega) (by rw [cut]; exact dgs_cons (dg_name 3 hN) (dgs_cons (dg_name 4 hN) (dgs_star (dg_name 5 hN) dgs_nil))) ?_
    have eqs : ∀ {x : Str}, decide (V.str wd = V.str x) = decide (wd = x) := fun {x} => decide_eq_decide.mpr ⟨fun e => by injection e, fun e => by rw [e]⟩
    refine ds_ifR (b := false) ((dt_eqV (x := V.str wd) (y := V.str "fixed") rfl (d_v 3) d_str).as (decide_eq_false fun e => wr.2.1 (by injection e))) (fun e => nomatch e) fun _ => ?_
    have hin : ∀ z ∈ r0 :: rr, z ∈ namesT (.op wd (o :: r0 :: rr)) := fun z h => List.mem_cons_of_mem _ h
    have hv' : ∀ z ∈ r0 :: rr, v z = some ((v z).getD 0) := fun z h => by
      obtain ⟨i, e⟩ := hv z (hin z h)
      have e' : v z = some i := e
      rw [e']
      rfl
    refine ds_setMap 6 (xs := r0 :: rr) (Pt := aStr) (Ts := fun z => [aStr z]) (F := fun z => aInt ((v z).getD 0)) [("name", 7)] hN (blkOk_by (by kernel_rfl)) (di_list (d_v 5)) (fun _ _ _ _ _ c _ => dg_name 7 hN) (fun _ _ _ _ _ c hc => d_dgetI hr (d_v 2) (d_v 7) (hv' c hc)) (by simp at few ⊢; omega) ?_
    rw [show ((r0 :: rr).map fun z => aInt ((v z).getD 0)) = (valsOf v (r0 :: rr)).map aInt by unfold valsOf; rw [List.map_map]; rfl]
    have hl : (valsOf v (r0 :: rr)).length = rr.length + 1 := by unfold valsOf; simp
    have at0 : ((valsOf v (r0 :: rr)).map aInt)[0]? = some (aInt ((valsOf v (r0 :: rr)).getD 0 0)) := rfl
    have hout : outBy m (.op wd (o :: r0 :: rr)) v = opBy m wd o (r0 :: rr) (valsOf v (r0 :: rr)) := rfl
    refine ds_ifR (b := decide (wd = "turned")) ((dt_eqV (x := V.str wd) (y := V.str "turned") rfl (d_v 3) d_str).as eqs) (fun e => ?_) fun e1 => ?_
    · obtain ⟨i, hi, _⟩ := hm r0 (hin r0 (List.mem_cons_self ..))
      refine ds_ret (d_sub (d_sub (d_dgetI (z := r0) hr (d_v 0) (d_ixL (P := aStr r0) (Ps := (r0 :: rr).map aStr) 0 (d_v 5) d_int) hi) d_int) (d_ixL 0 (d_v 6) d_int at0)) (Imp.of ?_)
      show _ = aInt (outBy m (.op wd (o :: r0 :: rr)) v)
      rw [hout]
      unfold opBy
      rw [if_pos (of_decide_eq_true e)]
      show _ = aInt ((m r0).getD 0 - 1 - _)
      rw [show m r0 = some i from hi]
      rfl
    refine ds_ifR (b := decide (wd = "least")) ((dt_eqV (x := V.str wd) (y := V.str "least") rfl (d_v 3) d_str).as eqs) (fun e => ?_) fun e2 => ?_
    · refine ds_ret (d_minL (m := (valsOf v (r0 :: rr)).min?.getD 0) rfl T.b_min (d_v 6) (by rw [hl]; omega) fun k k1 k2 => minL_of k k1 k2) (Imp.of ?_)
      show _ = aInt (outBy m (.op wd (o :: r0 :: rr)) v)
      rw [hout]
      unfold opBy
      rw [if_neg (of_decide_eq_false e1), if_pos (of_decide_eq_true e)]
    refine ds_ifR (b := decide (wd = "most")) ((dt_eqV (x := V.str wd) (y := V.str "most") rfl (d_v 3) d_str).as eqs) (fun e => ?_) fun e3 => ?_
    · refine ds_ret (d_maxL (m := (valsOf v (r0 :: rr)).max?.getD 0) rfl T.b_max (d_v 6) (by rw [hl]; omega) fun k k1 k2 => maxL_of k k1 k2) (Imp.of ?_)
      show _ = aInt (outBy m (.op wd (o :: r0 :: rr)) v)
      rw [hout]
      unfold opBy
      rw [if_neg (of_decide_eq_false e1), if_neg (of_decide_eq_false e2), if_pos (of_decide_eq_true e)]
    refine ds_ifR (b := decide (wd = "sum")) ((dt_eqV (x := V.str wd) (y := V.str "sum") rfl (d_v 3) d_str).as eqs) (fun e => ?_) fun e4 => ?_
    · obtain ⟨i, hi, h0⟩ := hm o (List.mem_cons_self ..)
      refine ds_ret (d_mod h0 (d_sum rfl T.b_sum (d_v 6)) (d_dgetI (z := o) hr (d_v 0) (d_v 4) hi)) (Imp.of ?_)
      show _ = aInt (outBy m (.op wd (o :: r0 :: rr)) v)
      rw [hout]
      unfold opBy
      rw [if_neg (of_decide_eq_false e1), if_neg (of_decide_eq_false e2), if_neg (of_decide_eq_false e3), if_pos (of_decide_eq_true e), show m o = some i from hi]
      rfl
    refine ds_ifR (b := decide (wd = "pick")) ((dt_eqV (x := V.str wd) (y := V.str "pick") rfl (d_v 3) d_str).as eqs) (fun e => ?_) fun e5 => ?_
    · obtain ⟨r1, r2, rfl⟩ : ∃ r1 r2, rr = [r1, r2] := by
        have e' := of_decide_eq_true e
        subst e'
        unfold ops at hop
        simp only [List.mem_cons, Prod.mk.injEq, List.not_mem_nil, or_false] at hop
        rcases hop with h | h | h | h | h | h <;> obtain ⟨h1, h2⟩ := h <;> first | exact absurd h1 (by decide) | (simp only [List.length_cons] at h2; match rr, h2 with | [r1, r2], _ => exact ⟨r1, r2, rfl⟩)
      refine ds_ret (d_ifx (k := decide (V.int ((valsOf v [r0, r1, r2]).getD 0 0) = V.int 0)) (dt_eqV rfl (d_ixL 0 (d_v 6) d_int at0) d_int) (fun h => (d_ixL (P := aInt ((valsOf v [r0, r1, r2]).getD 1 0)) 1 (d_v 6) d_int).as (by rw [if_pos (by simpa using h)])) fun h => (d_ixL (P := aInt ((valsOf v [r0, r1, r2]).getD 2 0)) 2 (d_v 6) d_int).as (by rw [if_neg (by simpa using h)])) (P := aInt (if (valsOf v [r0, r1, r2]).getD 0 0 = 0 then (valsOf v [r0, r1, r2]).getD 1 0 else (valsOf v [r0, r1, r2]).getD 2 0)) (Imp.of ?_)
      show _ = aInt (outBy m (.op wd (o :: r0 :: [r1, r2])) v)
      rw [hout]
      unfold opBy
      rw [if_neg (of_decide_eq_false e1), if_neg (of_decide_eq_false e2), if_neg (of_decide_eq_false e3), if_neg (of_decide_eq_false e4), if_pos (of_decide_eq_true e)]
    refine ds_ret (d_ixL 0 (d_v 6) d_int at0) (Imp.of ?_)
    show _ = aInt (outBy m (.op wd (o :: r0 :: rr)) v)
    rw [hout]
    unfold opBy
    rw [if_neg (of_decide_eq_false e1), if_neg (of_decide_eq_false e2), if_neg (of_decide_eq_false e3), if_neg (of_decide_eq_false e4), if_neg (of_decide_eq_false e5)]
theorem eqv_ints : ∀ r s : List Int, PyData.eqvAll (r.map .int) (s.map .int) = decide (r = s)
  | [], [] => rfl
  | [], _ :: _ => by simp [PyData.eqvAll]
  | _ :: _, [] => by simp [PyData.eqvAll]
  | a :: r, b :: s => by
    rw [List.map_cons, List.map_cons, PyData.eqvAll, eqv_ints r s, PyData.eqv]
    by_cases h : a = b
    · subst h
      simp
    · simp [h]
abbrev rowD (r : List Int) : PyData := .tuple (r.map .int)
theorem rowD_eqv (r s : List Int) : PyData.eqv (rowD r) (rowD s) = decide (r = s) := by
  unfold PyData.eqv
  exact eqv_ints r s
theorem rowD_lays : ∀ r : List Int, PyData.canLayAll0 (r.map .int) = true ∧ PyData.depthAll (r.map .int) = 0
  | [] => by simp [PyData.canLayAll0, PyData.depthAll]
  | a :: r => by
    have := rowD_lays r
    simp [PyData.canLayAll0, PyData.depthAll, PyData.canLay0, PyData.depth, this.1, this.2]
theorem rowDs_lays : ∀ rs : List (List Int), PyData.canLayAll0 (rs.map rowD) = true ∧ PyData.depthAll (rs.map rowD) ≤ 1
  | [] => by simp [PyData.canLayAll0, PyData.depthAll]
  | a :: r => by
    have h1 := rowDs_lays r
    have h2 := rowD_lays a
    have h3 := h1.2
    have e1 : PyData.canLay0 (rowD a) = true := by simp only [PyData.canLay0]; exact h2.1
    have e2 : PyData.depth (rowD a) = 1 := by simp only [PyData.depth, h2.2]
    refine ⟨by rw [List.map_cons, PyData.canLayAll0, e1, h1.1]; rfl, ?_⟩
    rw [List.map_cons, PyData.depthAll, e2]
    omega
theorem shaped_of {d : PyData} (h1 : d.canLay0 = true) (h2 : d.depth ≤ 64) : SeqAt.shaped d = true := by
  show (d.canLay0 && decide (d.depth ≤ 64)) = true
  rw [h1, decide_eq_true h2]
  rfl
theorem row_shaped (r : List Int) : SeqAt.shaped (rowD r) = true := shaped_of (by simp only [PyData.canLay0]; exact (rowD_lays r).1) (by simp only [PyData.depth, (rowD_lays r).2]; omega)
theorem rowsT_shaped (rs : List (List Int)) : SeqAt.shaped (.tuple (rs.map rowD)) = true := shaped_of (by simp only [PyData.canLay0]; exact (rowDs_lays rs).1) (by have := (rowDs_lays rs).2; simp only [PyData.depth]; omega)
theorem rowsL_shaped (rs : List (List Int)) : SeqAt.shaped (.list (rs.map rowD)) = true := shaped_of (by simp only [PyData.canLay0]; exact (rowDs_lays rs).1) (by have := (rowDs_lays rs).2; simp only [PyData.depth]; omega)
theorem any_rows (rs : List (List Int)) (s : List Int) : ((rs.map rowD).any fun z => PyData.eqv z (rowD s)) = decide (s ∈ rs) := by
  rw [List.any_map]
  induction rs with
  | nil => rfl
  | cons r t ih =>
    rw [List.any_cons, ih]
    show (PyData.eqv (rowD r) (rowD s) || _) = _
    rw [rowD_eqv]
    by_cases h : r = s
    · subst h
      simp
    · have h' : ¬ s = r := fun e => h e.symm
      simp [h, h']
theorem row_is {r : List Int} : IsD K (aRow K r) (rowD r) := isd_tup fun _ _ => isd_int
def holdsB (m : Gn) (t : Tie) (v : Gn) : Bool := match t with
  | .rows ws rs => decide (valsOf v ws ∈ rs)
  | .fixed o n => decide ((v o).getD 0 = n)
  | .op wd ns => decide ((v (ns.getD 0 "")).getD 0 = outBy m (.op wd ns) v)
theorem scTieHolds : FnScope ["manys", "tie", "value_by", "name"] ["manys", "tie", "value_by"] (defScope sTieHolds) := ⟨rfl, rfl, rfl, by decide +kernel, rfl, by decide +kernel, by decide +kernel⟩
theorem tie_holds_ok (T : Txt w K mg) : Fok P w K mg base 2 "tie_holds" ["manys", "tie", "value_by"] (spF (α := Ask) (OkAsk) (fun a => [aDI a.n1 a.m, aTie K a.t, aDI a.n2 a.v]) (fun a => aBl (holdsB a.m a.t a.v))) := by
  refine fok_of T.f_TieHolds T.g_tie_holds scTieHolds (fun _ => rfl) (fun _ F => F.bindsN fun _ _ _ _ _ _ us hl => match us, hl with | [_, _, _], _ => rfl) fun y hy cdv A outer s H E hr => ?_
  have hN := scTieHolds.nd
  obtain ⟨n1, m, t, n2, v⟩ := y
  have hv' : ∀ z ∈ namesT t, v z = some ((v z).getD 0) := fun z h => by
    obtain ⟨i, e⟩ := hy.v z h
    have e' : v z = some i := e
    rw [e']
    rfl
  have eqI : ∀ {i j : Int}, decide (V.int i = V.int j) = decide (i = j) := fun {i j} => decide_eq_decide.mpr ⟨fun e => by injection e, fun e => by rw [e]⟩
  cases t with
  | rows ws rs =>
    have few : ws.length < 1000 := hy.t.few
    refine ds_ifR (b := true) ((dt_eqV (x := V.str "rows") (y := V.str "rows") rfl (d_ixT (Ps := tieL K (.rows ws rs)) 0 (d_v 1) d_int) d_str).as (by decide)) (fun _ => ?_) fun e => nomatch e
    refine ds_ret (d_cmp (op_inDT (room65 hr)) (opd_inDT (row_is (r := valsOf v ws)) (isd_tup (xs := rs) (P := aRow K) (d := rowD) fun _ _ => row_is) (row_shaped _) (rowsT_shaped _)) (d_tupleL T.b_tuple ((d_map (xs := ws) (P := aStr) (F := fun z => aInt ((v z).getD 0)) [("name", 3)] hN (blkOk_by (by kernel_rfl)) (di_tup (d_ixT (P := aTup K (ws.map aStr)) (Ps := tieL K (.rows ws rs)) 1 (d_v 1) d_int)) (fun _ _ _ _ _ c _ => dg_name 3 hN) (fun _ _ _ _ _ c hc => d_dgetI hr (d_v 2) (d_v 3) (hv' c hc)) (by omega)).as (show aLst _ = aLst ((valsOf v ws).map aInt) by unfold valsOf; rw [List.map_map]; rfl))) (d_ixT (P := aTup K (rs.map (aRow K))) (Ps := tieL K (.rows ws rs)) 2 (d_v 1) d_int) (by rfl)) (Imp.of ?_)
    rw [any_rows]
    rfl
  | fixed o n =>
    refine ds_ifR (b := false) ((dt_eqV (x := V.str "fixed") (y := V.str "rows") rfl (d_ixT (Ps := tieL K (.fixed o n)) 0 (d_v 1) d_int) d_str).as (by decide)) (fun e => nomatch e) fun _ => ?_
    exact ds_ret ((d_eqV rfl (d_dgetI hr (d_v 2) (d_ixT (P := aStr o) (Ps := tieL K (.fixed o n)) 1 (d_v 1) d_int) (hv' o (List.mem_cons_self ..))) (d_cl (out_by_ok T) hr ⟨n1, m, .fixed o n, n2, v⟩ ⟨hy, fun _ _ e => nomatch e⟩ (da_cons (d_v 0) (da2 (d_v 1) (d_v 2))))).as (by rw [eqI]; rfl)) Imp.rfl'
  | op wd ns =>
    have wr := ops_ne (hy.t.op _ _ rfl)
    obtain ⟨o, rr, rfl⟩ : ∃ o rr, ns = o :: rr := by
      match ns, wr.2.2.2 with
      | o :: rr, _ => exact ⟨o, rr, rfl⟩
    refine ds_ifR (b := false) ((dt_eqV (x := V.str wd) (y := V.str "rows") rfl (d_ixT (P := aStr wd) (Ps := tieL K (.op wd (o :: rr))) 0 (d_v 1) d_int) d_str).as (decide_eq_false fun e => wr.1 (by injection e))) (fun e => nomatch e) fun _ => ?_
    exact ds_ret ((d_eqV rfl (d_dgetI hr (d_v 2) (d_ixT (P := aStr o) (Ps := tieL K (.op wd (o :: rr))) 1 (d_v 1) d_int) (hv' o (List.mem_cons_self ..))) (d_cl (out_by_ok T) hr ⟨n1, m, .op wd (o :: rr), n2, v⟩ ⟨hy, fun _ _ e => nomatch e⟩ (da_cons (d_v 0) (da2 (d_v 1) (d_v 2))))).as (by rw [eqI]; rfl)) Imp.rfl'
end
end Lb
set_option Elab.async false
set_option linter.all false
set_option maxRecDepth 100000
set_option maxHeartbeats 4000000
/-! enumerate of a tuple -/
namespace Da
open PySem PySem.Spec PyProof.Rows L2
def ItD (K : PySem.W.Frag) (a : Addr) : It :=
  ⟨fun i H => ∃ (xs : List V) (x : V), SqT K H a xs ∧ xs[i]? = some x, fun i H v H' => ∃ T x, v = .ref T ∧ H T = none ∧ H' = upd H T (.tup [.int (i : Nat), x]) ∧ ∀ xs, SqT K H a xs → xs[i]? = some x, fun i H => ∃ xs : List V, SqT K H a xs ∧ i = xs.length⟩
theorem enumB_new {v : Value} {o : Obj} {H : Heap → Prop} (B : Begins v o H) :
    Meets (Builtin.«enumerate.__new__» ⟨[.type "enumerate", v], []⟩) (fun _ R s => H s.heap ∧
      R (.ok (.ret (.ref (s.heap.push o).objs.size))) { s with heap := (s.heap.push o).push { cls := .type "enumerate", data := .fields #[.none, .bool false, .ref s.heap.objs.size, rawInt 0, .none, .none] } }) :=
  .of_wp fun prog w A R ⟨hp, g, d, tk, os⟩ ⟨h1, h⟩ => by
    have sub := sub_enumerate
    have it : ∀ {B' : Around} {E Q : Value → Shared → Prop}, Q (.ref hp.objs.size) ⟨hp.push o, g, d, tk, os⟩ → wpAny (model prog w) B' (pyIter v) Q E ⟨hp, g, d, tk, os⟩ := fun q => B.iter prog w _ _ ⟨hp, g, d, tk, os⟩ _ h1 q
    wp_walk using it
    refine wpAny_stack_any fun st => wpAny_pure ?_
    split
    · rename_i c _ _ _ _ _
      cases (c == Value.type "enumerate") <;> (wp_walk using it; exact ⟨_, rfl, h⟩)
    · wp_walk using it
      exact ⟨_, rfl, h⟩
theorem enumB_call {prog : Program} {w : World} {A : Around} {E : Value → Shared → Prop} {s : Shared} {v : Value} {o : Obj} {H : Heap → Prop} {Q : Value → Shared → Prop} (B : Begins v o H) (h1 : H s.heap)
    (h : ∀ h', IsEnum h' (s.heap.objs.size + 1) s.heap.objs.size 0 .none → h'.get? s.heap.objs.size = some o → (∀ b o, s.heap.get? b = some o → h'.get? b = some o) → Q (.ref (s.heap.objs.size + 1)) { s with heap := h' }) :
    wpAny (model prog w) A (call (.type "enumerate") [v]) Q E s := by
  refine callType_new F.called_enumerate (by decide) (F.typeCall_enumerate_1 _) (F.newCall_enumerate_1 _) (fun obj => F.args_object_init_2 obj _) F.entry_enumerate_new (enumB_new B) ⟨h1, ?_⟩
  have hz : (s.heap.push o).objs.size = s.heap.objs.size + 1 := Heap.size_push ..
  have at_ : ((s.heap.push o).push { cls := .type "enumerate", data := .fields #[.none, .bool false, .ref s.heap.objs.size, rawInt 0, .none, .none] }).get? (s.heap.objs.size + 1) = some { cls := .type "enumerate", data := .fields #[.none, .bool false, .ref s.heap.objs.size, rawInt 0, .none, .none] } := hz ▸ Heap.get?_push_size _ rfl
  show _ ∧ _
  rw [hz]
  exact ⟨⟨_, at_, rfl⟩, h _ at_ (Heap.get?_push_of_some _ (Heap.get?_push_size _ B.free)) fun b o x => Heap.get?_push_of_some _ (Heap.get?_push_of_some _ x)⟩
theorem turn_enumT {P : Program} {w : World} {K : PySem.W.Frag} {elts : List Expr} {kk : Nat} {tpos : Pos} (a e it : Addr) (hea : e ≠ a) (hia : a ≠ it) :
    Turn P w K (.Tuple elts kk tpos) (ItD K a) [e, it] e (fun i h => (∃ old, IsEnum h e it ((i : Nat) : Int) old) ∧ h.IsTupleIter it a i ∧ e ≠ it) where
  mem := by simp
  obj := fun i h ⟨⟨old, he⟩, ⟨o, ho, hc, hd⟩, _⟩ b hb => by
    rcases (by simpa using hb : b = e ∨ b = it) with rfl | rfl
    · exact ⟨_, he, fun v q => nomatch q⟩
    · exact ⟨o, ho, fun v q => by rw [hd] at q; cases q⟩
  keep := fun i h h' ⟨⟨old, he⟩, hi, hne⟩ k => ⟨⟨old, k e (by simp) _ he⟩, hi.at fun o q => k it (by simp) o q, hne⟩
  item := by
    rintro X rfl rfl rfl hc i pins s σ H E I hf ⟨⟨old, he⟩, hit, hne⟩ ⟨xs, x, hq, hx⟩
    obtain ⟨its, rv, p, _⟩ := I.tuple hq
    obtain ⟨u, hu, ru⟩ := rv.get hx
    have hel : e < s.heap.objs.size := Heap.lt_size he
    have hil : it < s.heap.objs.size := by obtain ⟨_, q, _⟩ := hit; exact Heap.lt_size q
    refine wpAny_pyNext_enum_itemD (Draws.tuple (A := X.A.in1) (I.ok.hd hc) it a hia its.toArray) he (i := i) ⟨hit, p⟩ (by rw [List.size_toArray]; exact (List.getElem?_eq_some_iff.mp hu).1) hne (by simp; exact ⟨hne, hea⟩) fun y h' tk hy ho st' hT hsz hk => ?_
    have hy' : its.toArray[i]? = some y := hy
    have e1 : u = y := by
      rw [List.getElem?_toArray, hu] at hy'
      exact Option.some.inj hy'
    subst e1
    refine ⟨_, rfl, wpAny_letOwnedTupleGo_enum (s := { s with heap := h', toks := tk + 1 }) ho fun h2 he2 sb => ?_⟩
    have hT2 : h2.get? s.heap.objs.size = some { cls := .type "tuple", data := .seq #[.int i tk, u] } := (sb.2 _ (Nat.ne_of_gt hel)).trans hT
    have new : ObjOk X.prog X.w (upd H s.heap.objs.size (.tup [.int (i : Nat), x])) h2 s.heap.objs.size (.tup [.int (i : Nat), x]) :=
      ⟨by show 2 ≤ sizeLine; decide, [.int i tk, u], .cons ⟨_, rfl⟩ (.cons ru .nil), ⟨_, hT2, rfl, _, rfl⟩⟩
    have I1 : Inv X pins σ (upd H s.heap.objs.size (.tup [.int (i : Nat), x])) { s with heap := h2, toks := tk + 1 } :=
      I.turnedNew (ch := [e, it]) (fun b ob hb q => (sb.2 b (fun z => hb (by simp [z]))).trans (hk b ob (fun z => hb (by simp [z])) (fun z => hb (by simp [z])) q)) hf (Nat.le_refl _) new
    refine ⟨.ref s.heap.objs.size, _, I1, rfl, ⟨_, x, rfl, I.hok.fresh (Nat.le_refl _), rfl, fun ys hy => by rw [I.tuple_inj hy hq]; exact hx⟩, ⟨⟨u, ?_⟩, st'.1.at fun o q => (sb.2 it (Ne.symm hne)).trans q, hne⟩, fun b hb => ?_⟩
    · rw [show ((i + 1 : Nat) : Int) = (i : Int) + 1 by omega]
      exact he2
    · have hb' : b < s.heap.objs.size := by
        rcases (by simpa using hb : b = e ∨ b = it) with rfl | rfl
        · exact hel
        · exact hil
      rw [upd_ne (Nat.ne_of_lt hb')]
      exact (hf b hb).1
  done := by
    rintro X rfl rfl rfl hc i pins s σ H E I hf ⟨⟨old, he⟩, hit, hne⟩ ⟨xs, hq, hx⟩
    obtain ⟨its, rv, p, _⟩ := I.tuple hq
    obtain ⟨f0, f1, f2, f3, f4, f5⟩ := hf it (by simp)
    have hl := rv.length
    have hi : i = its.toArray.size := by rw [List.size_toArray]; omega
    subst hi
    exact wpAny_pyNext_enum_endD (Draws.tuple (A := X.A.in1) (I.ok.hd hc) it a hia its.toArray) he ⟨hit, p⟩ fun h' eb => ⟨rfl, I.turned (t' := s.toks) (fun b o hb q => eb b o hb q) f0 f1 f3 f4 f5⟩
  self := fun A i s Q E ⟨⟨_, he⟩, _⟩ h => wpAny_pyIter_enum he h
section
variable {X : Cx} {e : Expr} {p pos tpos : Pos} {elts : List Expr} {kk : Nat}
theorem pi_enumT {ta : TA} (hg : Gl X "enumerate") (hm : X.mg "enumerate" = none) (ha : PA X [e] ta) (hs : starEach [e] X.env = [(false, eval e X.env)] := by rfl) :
    PI X (.Tuple elts kk tpos) (.Call (.Name "enumerate" p) [e] [] pos) (fun σ H R => ta σ H fun vs H1 => ∃ a xs, vs = [.ref a] ∧ SqT X.K H1 a xs ∧ R (ItD X.K a) H1) := by
  refine ⟨fun pins s σ H R I h => Call_ (ld_blt I hg hm boot_enumerate (PyProof.Rows.callWith_type1 (thn (ha.run pos pins s σ H _ I h) fun us s1 ⟨vs, H1, I1, r1, a, xs, ex, hq, q⟩ => ?_) hs rfl))⟩
  subst ex
  obtain ⟨u, rfl, ru⟩ := vals1 r1
  obtain rfl : u = Value.ref a := ru
  obtain ⟨its, rv, p', _⟩ := I1.tuple hq
  have hal : a < s1.heap.objs.size := by obtain ⟨_, q, _⟩ := id p'; exact Heap.lt_size q
  refine enumB_call (begins_tuple a its.toArray) p' fun h' he hit hk => wpAny_pyIter_enum he ?_
  have I2 : Inv X pins σ H1 { s1 with heap := h' } := I1.kept (t' := s1.toks) hk
  refine ⟨s1.heap.objs.size + 1, [s1.heap.objs.size + 1, s1.heap.objs.size], _, _, H1, rfl, I2, turn_enumT a (s1.heap.objs.size + 1) s1.heap.objs.size (Nat.ne_of_gt (Nat.lt_succ_of_lt hal)) (Nat.ne_of_lt hal), ⟨⟨.none, he⟩, ⟨_, hit, rfl, rfl⟩, Nat.succ_ne_self _⟩, fun b hb => ?_, q⟩
  have hle : s1.heap.objs.size ≤ b := by
    rcases (by simpa using hb : b = s1.heap.objs.size + 1 ∨ b = s1.heap.objs.size) with rfl | rfl
    · exact Nat.le_add_right _ _
    · exact Nat.le_refl _
  exact I1.fpOk hle (I1.hok.fresh hle)
variable {ρ : Rho} {α : Type} {xs : List α} {P : α → As}
theorem di_enumT (hm : X.mg "enumerate" = none) (h : De X e ρ (aTup X.K (xs.map P))) (hg : Gl X "enumerate" := by rfl) (hs : starEach [e] X.env = [(false, eval e X.env)] := by rfl) : Di X (.Tuple elts kk tpos) (.Call (.Name "enumerate" p) [e] [] pos) ρ xs.zipIdx fun q => aTup X.K [aInt (q.2 : Int), P q.1] := fun pl σ H Hc g ev R q => by
  refine tI_of (pi_enumT hg hm (pa_cons pe_can pa_nil hs) hs) (h pl σ H Hc g ev _ fun v H1 Hc1 s1 ⟨a, vs, e1, e2, f⟩ => ⟨a, vs, by rw [e1], same_t s1.gd.sub e2, q _ H1 Hc1 s1 fun i H2 Hc2 sm g2 => ?_⟩)
  have sq : SqT X.K H2 a vs := same_t g2.sub (same_t sm e2)
  have hl := f.len
  rw [List.length_map] at hl
  refine ⟨fun Pi hi => ?_, fun h1 h2 => ⟨vs, sq, by rw [List.length_map, List.length_zipIdx] at h2; omega⟩⟩
  rw [List.getElem?_map, List.getElem?_zipIdx] at hi
  cases hx : xs[i]? with
  | none =>
    rw [hx] at hi
    cases hi
  | some x0 =>
    rw [hx] at hi
    have hi' : aTup X.K [aInt ((0 + i : Nat) : Int), P x0] = Pi := Option.some.inj hi
    subst hi'
    obtain ⟨x, hx2, hp⟩ := f.get (i := i) (P := P x0) (by rw [List.getElem?_map, hx]; rfl)
    refine ⟨⟨vs, x, sq, hx2⟩, fun y H3 ⟨T, x', z1, z2, z3, z4⟩ => ?_⟩
    have := z4 vs sq
    rw [hx2] at this
    cases this
    subst z1 z3
    refine ⟨upd Hc2 T (.tup [.int (i : Nat), x]), Stp.alloc g2 z2 _, ?_⟩
    rw [Nat.zero_add]
    exact pair_new g2 z2 rfl ((P x0).mono sm hp)
end
end Da
set_option Elab.async false
set_option linter.all false
set_option maxRecDepth 100000
set_option maxHeartbeats 4000000
namespace Da
open PySem PySem.Spec PyProof.Rows L2
section
variable {X : Cx} {ρ : Rho} {pos p : Pos} {a b e : Expr} {Ps Qs : List As}
theorem dn_cat (hz : Ps.length + Qs.length < 1000000) (ha : De X a ρ (aLst Ps)) (hb : De X b ρ (aLst Qs)) : DeN X (.BinOp a .Add b pos) ρ (Ps ++ Qs) := fun pl σ H Hc g ev Q q =>
  tE_of (pe_op op_cat pe_can pe_can) (ha pl σ H Hc g ev _ fun v H1 Hc1 s1 ⟨d, vs, e1, e2, f⟩ => hb pl σ H1 Hc1 s1.gd (ev.mono s1.cl) _ fun u H2 Hc2 s2 ⟨d', us, e1', e2', f'⟩ =>
    ⟨d, d', vs, us, e1, e1', s2.gd.sub _ _ (s2.cl _ _ e2), s2.gd.sub _ _ e2', by rw [f.len, f'.len]; exact Nat.le_of_lt (small_of hz), fun l hl => ((q.step s1).step s2).new s2.gd hl ((f.mono s2.cl).app f')⟩)
end
end Da
namespace Lb
open PySem PySem.Spec PyProof.Rows L2 Da
def lI (l : List Nat) : List Int := l.map fun p : Nat => (p : Int)
abbrev aLot (K : PySem.W.Frag) (l : List Nat) : As := aTup K ((lI l).map aInt)
theorem lI_mem {p : Nat} {l : List Nat} : (p : Int) ∈ lI l ↔ p ∈ l := by
  unfold lI
  constructor
  · intro h
    obtain ⟨q, hq, e⟩ := List.mem_map.mp h
    have : q = p := by omega
    exact this ▸ hq
  · exact fun h => List.mem_map.mpr ⟨p, h, rfl⟩
theorem lI_len {l : List Nat} : (lI l).length = l.length := List.length_map ..
abbrev Up (l : List Nat) : Prop := l.Pairwise (· < ·)
theorem up_zip : ∀ {l : List Nat}, Up l → ((lI l).zip ((lI l).drop 1)).all (fun q => decide (q.1 < q.2)) = true
  | [], _ => rfl
  | [_], _ => rfl
  | a :: b :: r, h => by
    have h1 := List.pairwise_cons.mp h
    have ih := up_zip h1.2
    have hab := h1.1 b (List.mem_cons_self ..)
    show (decide ((a : Int) < (b : Int)) && ((lI (b :: r)).zip ((lI (b :: r)).drop 1)).all _) = true
    rw [ih, decide_eq_true (by omega)]
    rfl
structure OkLot (n : Nat) (l : List Nat) : Prop where
  few : n < 1000
  lt : ∀ p ∈ l, p < n
  up : Up l
  len : l.length < 1000
theorem within_lt {p n : Nat} (h : p < n) : withinB ((p : Int), 0, (n : Int) - 1) = true := by
  unfold withinB
  rw [Bool.and_eq_true]
  exact ⟨decide_eq_true (by show (0 : Int) ≤ (p : Int); omega), decide_eq_true (by show (p : Int) ≤ (n : Int) - 1; omega)⟩
section
variable {P : Program} {w : World} {K : PySem.W.Frag} {mg : Str → Option Value} {base : Heap}
theorem d_len {X : Cx} {ρ : Rho} {p pos : Pos} {e : Expr} {k : Nat} {y : Wk} (T : Txt X.w X.K X.mg) (hr : Room (k + 2) X.A) (hz : y.2.length < 1000) (h : De X e ρ (aWk X.K y)) (hs : starEach (e :: []) X.env = (false, eval e X.env) :: starEach [] X.env := by rfl) (hg : Gl X "len" := by rfl) : De X (.Call (.Name "len" p) [e] [] pos) ρ (aInt (y.2.length : Int)) :=
  d_lenO (nn := fun y : Wk => y.2.length) (m_len T) (hr.mono (by omega)) y trivial (by omega) T.b_len h hs hg
theorem scIsLot : FnScope ["work", "thing", "part", "one", "other"] ["work", "thing"] (defScope sIsLot) := ⟨rfl, rfl, rfl, by decide +kernel, rfl, by decide +kernel, by decide +kernel⟩
theorem is_lot_ok (T : Txt w K mg) : Fok P w K mg base 3 "is_lot" ["work", "thing"] (spF (α := Wk × List Nat) (fun q => OkLot q.1.2.length q.2) (fun q => [aWk K q.1, aLot K q.2]) (fun _ => aBl true)) := by
  refine fok_of T.f_IsLot T.g_is_lot scIsLot (fun _ => rfl) (fun _ F => F.bindsN fun _ _ _ _ _ _ us hl => match us, hl with | [_, _], _ => rfl) fun y hy cdv A outer s H E hr => ?_
  have hN := scIsLot.nd
  obtain ⟨y, l⟩ := y
  have few : y.2.length < 1000 := hy.few
  have len : l.length < 1000 := hy.len
  refine ds_ifF (dt_or2 (dt_nisT "tuple" "tuple" true T.b_isinstance T.b_tuple (d_v 1) ist_tup) fun _ => dt_not (dt_val (d_allC (f := fun p : Int => withinB (p, 0, (y.2.length : Int) - 1)) [("part", 2)] T.b_all hN (blkOk_by (by kernel_rfl)) (di_tup (xs := lI l) (d_v 1)) (fun _ _ _ _ _ c _ => dg_name 2 hN)
    (fun _ _ _ _ _ c _ => d_call (is_within_ok T) hr (c, 0, (y.2.length : Int) - 1) trivial (da_cons (d_v 2) (da_cons d_int (da1 (d_sub (d_len T hr few (d_v 0)) d_int))))) (by rw [lI_len]; omega)))) ?_ ?_
  · rw [show ((lI l).all fun p : Int => withinB (p, 0, (y.2.length : Int) - 1)) = true from List.all_eq_true.mpr fun c hc => by
      obtain ⟨p, hp, rfl⟩ := List.mem_map.mp hc
      exact within_lt (hy.lt p hp)]
    rfl
  refine ds_ret (d_allC (f := fun q : Int × Int => decide (q.1 < q.2)) [("one", 3), ("other", 4)] T.b_all hN (blkOk_by (by kernel_rfl)) (di_zipT (xs := lI l) (ys := (lI l).drop 1) (P := aInt) (P' := aInt) T.b_zip (d_v 1) ((d_slDrop1 (d_v 1)).as (by rw [List.map_drop])))
    (fun _ _ _ _ _ c _ => dg_two 3 4 rfl hN) (fun _ _ _ _ _ c _ => d_lt (d_v 3) (d_v 4)) (by rw [List.length_zip, lI_len]; omega)) (Imp.of (by rw [up_zip hy.up]))
theorem scLookAtLot : FnScope ["work", "thing", "number", "part"] ["work", "thing"] (defScope sLookAtLot) := ⟨rfl, rfl, rfl, by decide +kernel, rfl, by decide +kernel, by decide +kernel⟩
theorem look_at_lot_ok (T : Txt w K mg) : Fok P w K mg base 4 "look_at_lot" ["work", "thing"] (spF (α := Wk × List Nat) (fun q => OkLot q.1.2.length q.2) (fun q => [aWk K q.1, aLot K q.2]) (fun _ => aNon)) := by
  refine fok_of T.f_LookAtLot T.g_look_at_lot scLookAtLot (fun _ => rfl) (fun _ F => F.bindsN fun _ _ _ _ _ _ us hl => match us, hl with | [_, _], _ => rfl) fun y hy cdv A outer s H E hr => ?_
  have hN := scLookAtLot.nd
  obtain ⟨y, l⟩ := y
  refine ds_ifF (dt_nisT "tuple" "tuple" true T.b_isinstance T.b_tuple (d_v 1) ist_tup) rfl ?_
  refine ds_for (α := Int × Nat) (xs := (lI l).zipIdx) (Pt := fun q => aTup K [aInt (q.2 : Int), aInt q.1]) (is := [2, 3]) (Ts := fun q => [aInt (q.2 : Int), aInt q.1]) (fun i ρ => ∃ Z1 Z2, ρ = [.v (aWk K y), .v (aLot K l), Z1, Z2]) (fun _ _ h => False.elim h) rfl (di_enumT T.b_enumerate (d_v 1)) ⟨.no, .no, rfl⟩ (fun n _ => dg_two 2 3 rfl hN) (fun i n hn ρ' ⟨Z1, Z2, e⟩ => ?_) (fun ρ' ⟨Z1, Z2, e⟩ => ds_nil rfl) (fun _ _ => rfl)
  subst e
  refine ds_ifF (dt_not (dt_val (d_cl (is_lot_ok T) hr (y, l.take (n.2 + 1)) ⟨hy.few, fun p hp => hy.lt p (List.mem_of_mem_take hp), hy.up.sublist (List.take_sublist ..), by have : l.length < 1000 := hy.len; show (l.take (n.2 + 1)).length < 1000; rw [List.length_take]; omega⟩ (da2 (d_v 0) ((d_slTakeT (n.2 + 1) (d_v 1) ((d_add (d_v 2) d_int).as rfl)).as (by show aTup _ _ = aTup _ ((lI (l.take (n.2 + 1))).map aInt); unfold lI; rw [List.map_take, List.map_take])))))) rfl (ds_nil ⟨_, _, rfl⟩)
def aLook (K : PySem.W.Frag) (q : Str × Int) : As := aTup K [aStr "is", aStr q.1, aInt q.2]
/-- a worth of a work -/
def OkWorth (y : Wk) (q : Str × Int) : Prop := ∃ n : Nat, mG y q.1 = some (n : Int) ∧ 0 ≤ q.2 ∧ q.2 < n
theorem scIsWorth : FnScope ["work", "thing", "manys"] ["work", "thing"] (defScope sIsWorth) := ⟨rfl, rfl, rfl, by decide +kernel, rfl, by decide +kernel, by decide +kernel⟩
theorem is_worth_ok (T : Txt w K mg) : Fok P w K mg base 3 "is_worth" ["work", "thing"] (spF (α := Wk × Str × Int) (fun q => OkWorth q.1 q.2) (fun q => [aWk K q.1, aTup K [aStr q.2.1, aInt q.2.2]]) (fun _ => aBl true)) := by
  refine fok_of T.f_IsWorth T.g_is_worth scIsWorth (fun _ => rfl) (fun _ F => F.bindsN fun _ _ _ _ _ _ us hl => match us, hl with | [_, _], _ => rfl) fun y hy cdv A outer s H E hr => ?_
  have hN := scIsWorth.nd
  obtain ⟨y, z, v⟩ := y
  obtain ⟨n, hn, h0, h1⟩ := hy
  have hn' : mG y z = some (n : Int) := hn
  refine ds_ifF (dt_or3 (dt_nisT "tuple" "tuple" true T.b_isinstance T.b_tuple (d_v 1) ist_tup) (fun _ => dt_neV rfl (d_lenT T.b_len (d_v 1)) d_int) fun _ _ => dt_nisT "str" "str" true T.b_isinstance T.b_str (d_ixT (Ps := [aStr z, aInt v]) 0 (d_v 1) d_int) ist_str) rfl ?_
  refine ds_set 2 hN (d_cl (manys_of_ok T) hr y trivial (da1 (d_v 0))) ?_
  refine ds_ret (d_and2 (d_din (z := z) hr (d_ixT (Ps := [aStr z, aInt v]) 0 (d_v 1) d_int) (d_v 2)) fun _ => d_call (is_within_ok T) hr (v, 0, (n : Int) - 1) trivial (da_cons (d_ixT (Ps := [aStr z, aInt v]) 1 (d_v 1) d_int) (da_cons d_int (da1 (d_sub (d_dgetI (z := z) hr (d_v 2) (d_ixT (Ps := [aStr z, aInt v]) 0 (d_v 1) d_int) hn') d_int))))) (Imp.of ?_)
  have e : withinB (v, 0, (n : Int) - 1) = true := by
    unfold withinB
    rw [Bool.and_eq_true]
    exact ⟨decide_eq_true h0, decide_eq_true (by show v ≤ (n : Int) - 1; have h1' : v < n := h1; omega)⟩
  rw [e, hn']
  rfl
theorem scIsLook : FnScope ["work", "thing"] ["work", "thing"] (defScope sIsLook) := ⟨rfl, rfl, rfl, by decide +kernel, rfl, by decide +kernel, by decide +kernel⟩
theorem is_look_ok (T : Txt w K mg) : Fok P w K mg base 4 "is_look" ["work", "thing"] (spF (α := Wk × Str × Int) (fun q => OkWorth q.1 q.2) (fun q => [aWk K q.1, aLook K q.2]) (fun _ => aBl true)) := by
  refine fok_of T.f_IsLook T.g_is_look scIsLook (fun _ => rfl) (fun _ F => F.bindsN fun _ _ _ _ _ _ us hl => match us, hl with | [_, _], _ => rfl) fun y hy cdv A outer s H E hr => ?_
  have hN := scIsLook.nd
  obtain ⟨y, z, v⟩ := y
  refine ds_ifF (dt_or3 (dt_nisT "tuple" "tuple" true T.b_isinstance T.b_tuple (d_v 1) ist_tup) (fun _ => dt_neV rfl (d_lenT T.b_len (d_v 1)) d_int) fun _ _ => dt_nisT "str" "str" true T.b_isinstance T.b_str (d_ixT (Ps := [aStr "is", aStr z, aInt v]) 0 (d_v 1) d_int) ist_str) rfl ?_
  refine ds_ifF (dt_ninST (z := "is") (ys := ["is", "isnt"]) (d_ixT (Ps := [aStr "is", aStr z, aInt v]) 0 (d_v 1) d_int) (d_tup (da2 d_str d_str))) (by decide) ?_
  exact ds_ret (d_cl (is_worth_ok T) hr (y, z, v) hy (da2 (d_v 0) (d_slDrop1 (Ps := [aStr "is", aStr z, aInt v]) (d_v 1)))) Imp.rfl'
theorem scLookAtLooks : FnScope ["work", "thing", "number", "one"] ["work", "thing"] (defScope sLookAtLooks) := ⟨rfl, rfl, rfl, by decide +kernel, rfl, by decide +kernel, by decide +kernel⟩
theorem look_at_looks_ok (T : Txt w K mg) : Fok P w K mg base 5 "look_at_looks" ["work", "thing"] (spF (α := Wk × List (Str × Int)) (fun q => q.2.length < 1000 ∧ ∀ l ∈ q.2, OkWorth q.1 l) (fun q => [aWk K q.1, aLst (q.2.map (aLook K))]) (fun _ => aNon)) := by
  refine fok_of T.f_LookAtLooks T.g_look_at_looks scLookAtLooks (fun _ => rfl) (fun _ F => F.bindsN fun _ _ _ _ _ _ us hl => match us, hl with | [_, _], _ => rfl) fun y hy cdv A outer s H E hr => ?_
  have hN := scLookAtLooks.nd
  obtain ⟨y, ls⟩ := y
  refine ds_ifF (dt_nisT "list" "list" true T.b_isinstance T.b_list (d_v 1) ist_lst) rfl ?_
  refine ds_for (α := (Str × Int) × Nat) (xs := ls.zipIdx) (Pt := fun q => aTup K [aInt (q.2 : Int), aLook K q.1]) (is := [2, 3]) (Ts := fun q => [aInt (q.2 : Int), aLook K q.1]) (fun i ρ => ∃ Z1 Z2, ρ = [.v (aWk K y), .v (aLst (ls.map (aLook K))), Z1, Z2]) (fun _ _ h => False.elim h) rfl (di_enum T.b_enumerate (d_v 1)) ⟨.no, .no, rfl⟩ (fun n _ => dg_two 2 3 rfl hN) (fun i n hn ρ' ⟨Z1, Z2, e⟩ => ?_) (fun ρ' ⟨Z1, Z2, e⟩ => ds_nil rfl) (fun _ _ => rfl)
  subst e
  exact ds_ifF (dt_not (dt_val (d_cl (is_look_ok T) hr (y, n.1) (hy.2 _ (List.mem_of_getElem? (zipIdx_at hn).1)) (da2 (d_v 0) (d_v 3))))) rfl (ds_nil ⟨_, _, rfl⟩)
structure OkWorld (y : Wk) (vs : List Int) : Prop where
  len : vs.length = y.1.length
  val : ∀ q ∈ vs.zip y.1, 0 ≤ q.1 ∧ q.1 < (q.2.2 : Int)
theorem scIsWorld : FnScope ["work", "thing", "wires", "value", "name", "many"] ["work", "thing"] (defScope sIsWorld) := ⟨rfl, rfl, rfl, by decide +kernel, rfl, by decide +kernel, by decide +kernel⟩
theorem is_world_ok (T : Txt w K mg) : Fok P w K mg base 3 "is_world" ["work", "thing"] (spF (α := Wk × List Int) (fun q => OkWorld q.1 q.2 ∧ q.2.length < 1000) (fun q => [aWk K q.1, aLst (q.2.map aInt)]) (fun _ => aBl true)) := by
  refine fok_of T.f_IsWorld T.g_is_world scIsWorld (fun _ => rfl) (fun _ F => F.bindsN fun _ _ _ _ _ _ us hl => match us, hl with | [_, _], _ => rfl) fun y hy cdv A outer s H E hr => ?_
  have hN := scIsWorld.nd
  obtain ⟨y, vs⟩ := y
  obtain ⟨⟨hl, hv⟩, few⟩ := hy
  have few' : vs.length < 1000 := few
  refine ds_expr (d_cl (look_at_work_ok T) hr y trivial (da1 (d_v 0))) ?_
  refine ds_set 2 hN (d_meth (m_wires T) T.cl hr y trivial (d_v 0) rfl) ?_
  refine ds_ifF (dt_or2 (dt_nisT "list" "list" true T.b_isinstance T.b_list (d_v 1) ist_lst) fun _ => dt_neV rfl (d_lenL T.b_len (d_v 1)) (d_lenL T.b_len (d_v 2))) ?_ ?_
  · rw [List.length_map, List.length_map, show vs.length = y.1.length from hl]
    simp
  refine ds_ret (d_allC (f := fun q : Int × Str × Nat => withinB (q.1, 0, (q.2.2 : Int) - 1)) [("value", 3), ("name", 4), ("many", 5)] T.b_all hN (blkOk_by (by kernel_rfl)) (di_zip (xs := vs) (ys := y.1) (P := aInt) (P' := aWire K) T.b_zip (d_v 1) (d_v 2))
    (fun _ _ _ _ _ c _ => dg_tup rfl (dgs_cons (dg_name 3 hN) (dgs_cons (dg_two 4 5 rfl hN) dgs_nil))) (fun _ _ _ _ _ c _ => d_call (is_within_ok T) hr (c.1, 0, (c.2.2 : Int) - 1) trivial (da_cons (d_v 3) (da_cons d_int (da1 (d_sub (d_v 5) d_int))))) (by rw [List.length_zip]; omega)) (Imp.of ?_)
  rw [show ((vs.zip y.1).all fun q : Int × Str × Nat => withinB (q.1, 0, (q.2.2 : Int) - 1)) = true from List.all_eq_true.mpr fun c hc => by
    have := hv c hc
    unfold withinB
    rw [Bool.and_eq_true]
    exact ⟨decide_eq_true this.1, decide_eq_true (by show c.1 ≤ (c.2.2 : Int) - 1; omega)⟩]
def vList (y : Wk) (vs : List Int) : List (Str × Int) := (vs.zip y.1).map fun q => (q.2.1, q.1)
def vG (y : Wk) (vs : List Int) : Gn := gOf (vList y vs)
theorem scValueBy : FnScope ["work", "world", "value", "name", "many"] ["work", "world"] (defScope sValueBy) := ⟨rfl, rfl, rfl, by decide +kernel, rfl, by decide +kernel, by decide +kernel⟩
theorem value_by_ok (T : Txt w K mg) : Fok P w K mg base 2 "value_by" ["work", "world"] (spF (α := Wk × List Int) (fun q => q.2.length < 1000) (fun q => [aWk K q.1, aLst (q.2.map aInt)]) (fun q => aDI (q.2.zip q.1.1).length (vG q.1 q.2))) := by
  refine fok_of T.f_ValueBy T.g_value_by scValueBy (fun _ => rfl) (fun _ F => F.bindsN fun _ _ _ _ _ _ us hl => match us, hl with | [_, _], _ => rfl) fun y hy cdv A outer s H E hr => ?_
  have hN := scValueBy.nd
  obtain ⟨y, vs⟩ := y
  refine ds_ret (d_dc (xs := vs.zip y.1) (bb := fun _ => true) (kk := fun q => q.2.1) (F := fun q => aInt q.1) [("value", 2), ("name", 3), ("many", 4)] hN (blkOk_by (by kernel_rfl)) (di_zip (xs := vs) (ys := y.1) (P := aInt) (P' := aWire K) T.b_zip (d_v 1) (d_meth (m_wires T) T.cl hr y trivial (d_v 0) rfl))
    (fun _ _ _ _ _ c _ => dg_tup rfl (dgs_cons (dg_name 2 hN) (dgs_cons (dg_two 3 4 rfl hN) dgs_nil))) (fun _ _ _ _ _ c _ => dts_nil) (fun _ _ _ _ _ c _ _ => d_v 3) (fun _ _ _ _ _ c _ _ => d_v 2) (by have : vs.length < 1000 := hy; rw [List.length_zip]; omega)) (Imp.of ?_)
  rw [List.filter_eq_self.mpr (fun _ _ => rfl), show ((vs.zip y.1).map fun x => (x.2.1, aInt x.1)) = (vList y vs).map fun q => (q.1, aInt q.2) by unfold vList; rw [List.map_map]; rfl, dOf_int]
  rfl
end
end Lb
set_option Elab.async false
set_option linter.all false
set_option maxRecDepth 100000
set_option maxHeartbeats 4000000
namespace Lb
open PySem PySem.Spec PyProof.Rows L2 Da
theorem okT_names {names : List Str} {t : Tie} (h : OkTie names t) : OkT t ∧ ∀ z ∈ namesT t, z ∈ names := by
  cases t with
  | fixed o n => exact ⟨⟨fun _ _ e => (nomatch e), by show [o].length < 1000; simp⟩, fun z hz => by rw [List.mem_singleton.mp hz]; exact h.1⟩
  | op wd ns => exact ⟨⟨fun _ _ e => by cases e; exact h.1, by have := (ops_ne h.1).2.2.1; show ns.length < 1000; omega⟩, h.2⟩
  | rows ws rs => exact ⟨⟨fun _ _ e => (nomatch e), by have := h.li.hi; show ws.length < 1000; omega⟩, h.li.inn⟩
theorem mG_at {y : Wk} (hy : OkWk y) {q : Str × Nat} (h : q ∈ y.1) : mG y q.1 = some (q.2 : Int) := by
  unfold mG
  exact gOf_mem (l := mList y) (q := (q.1, (q.2 : Int))) (by unfold mList; rw [List.map_map]; exact hy.ws.nd) (List.mem_map.mpr ⟨q, h, rfl⟩)
theorem mG_some {y : Wk} (hy : OkWk y) {z : Str} (h : z ∈ y.1.map (·.1)) : ∃ i, mG y z = some i ∧ 0 < i := by
  obtain ⟨q, hq, rfl⟩ := List.mem_map.mp h
  have := (hy.ws.each q hq).lo
  exact ⟨_, mG_at hy hq, by omega⟩
theorem vList_keys : ∀ {ws : List (Str × Nat)} {vs : List Int}, vs.length = ws.length → ((vs.zip ws).map fun q => (q.2.1, q.1)).map (·.1) = ws.map (·.1)
  | [], [], _ => rfl
  | q :: ws, v :: vs, h => congrArg (q.1 :: ·) (vList_keys (ws := ws) (vs := vs) (by simpa using h))
  | [], _ :: _, h => by cases h
  | _ :: _, [], h => by cases h
theorem gPut_has : ∀ {l : List (Str × Int)} {g : Gn} {z : Str}, z ∈ l.map (·.1) ∨ (∃ i, g z = some i) → ∃ i, gPut g l z = some i
  | [], _, _, h => h.elim (fun h => by cases h) id
  | q :: l, g, z, h => by
    refine gPut_has (l := l) (g := upG g q.1 q.2) ?_
    by_cases e : z = q.1
    · subst e
      exact .inr ⟨_, upG_same⟩
    · rcases h with h | ⟨i, h⟩
      · rcases List.mem_cons.mp h with h | h
        · exact absurd h e
        · exact .inl h
      · exact .inr ⟨i, by rw [upG_ne e]; exact h⟩
theorem vG_some {y : Wk} {vs : List Int} (hl : vs.length = y.1.length) {z : Str} (h : z ∈ y.1.map (·.1)) : ∃ i, vG y vs z = some i := gPut_has (.inl (by unfold vList; rw [vList_keys hl]; exact h))
theorem ask_ok {y : Wk} (hy : OkWk y) {vs : List Int} (hl : vs.length = y.1.length) {q : Str × List Tie} (hq : q ∈ y.2) {t : Tie} (ht : t ∈ q.2) (n1 n2 : Nat) : OkAsk ⟨n1, mG y, t, n2, vG y vs⟩ := by
  obtain ⟨h1, h2⟩ := okT_names (hy.ps.tie q hq t ht).1
  exact ⟨h1, fun z hz => mG_some hy (h2 z hz), fun z hz => vG_some hl (h2 z hz)⟩
def heldB (m : Gn) (ts : List Tie) (v : Gn) : Bool := ts.all fun t => holdsB m t v
def soundL (y : Wk) (vs : List Int) : List Nat := (y.2.zipIdx.filter fun q => heldB (mG y) q.1.2 (vG y vs)).map (·.2)
def stepW (found : List (List Int)) (m : Nat) : List (List Int) := found.flatMap fun w => (List.range m).map fun v : Nat => w ++ [(v : Int)]
def everyL (ms : List Nat) : List (List Int) := ms.foldl stepW [[]]
theorem everyL_more {l : List Nat} {m : Nat} : everyL (l ++ [m]) = stepW (everyL l) m := by
  unfold everyL
  rw [List.foldl_append]
  rfl
theorem stepW_len {found : List (List Int)} {m : Nat} (h : m ≤ 4) : (found.flatMap fun _ => List.range m).length ≤ 4 * found.length := by
  induction found with
  | nil => simp
  | cons a r ih =>
    rw [List.flatMap_cons, List.length_append, List.length_range, List.length_cons]
    omega
theorem stepW_len2 {found : List (List Int)} {m : Nat} : (stepW found m).length = (found.flatMap fun _ => List.range m).length := by
  unfold stepW
  induction found with
  | nil => rfl
  | cons a r ih => rw [List.flatMap_cons, List.flatMap_cons, List.length_append, List.length_append, ih, List.length_map]
theorem everyL_len : ∀ (n : Nat) {l : List Nat}, l.length = n → (∀ m ∈ l, m ≤ 4) → (everyL l).length ≤ 4 ^ n
  | 0, l, h, _ => by
    have : l = [] := List.eq_nil_of_length_eq_zero h
    subst this
    exact Nat.le_refl _
  | n + 1, l, h, hm => by
    have hne : l ≠ [] := fun e => by rw [e] at h; cases h
    have e := (List.dropLast_concat_getLast hne).symm
    have h1 : l.dropLast.length = n := by rw [List.length_dropLast]; omega
    have ih := everyL_len n h1 fun m h => hm m (List.dropLast_subset l h)
    have h4 := hm _ (List.getLast_mem hne)
    rw [e, everyL_more, stepW_len2]
    have := stepW_len (found := everyL l.dropLast) h4
    rw [Nat.pow_succ]
    omega
theorem world_len : ∀ (n : Nat) {l : List Nat}, l.length = n → ∀ w ∈ everyL l, w.length = n
  | 0, l, h, w, hw => by
    have : l = [] := List.eq_nil_of_length_eq_zero h
    subst this
    rw [List.mem_singleton.mp hw]
    rfl
  | n + 1, l, h, w, hw => by
    have hne : l ≠ [] := fun e => by rw [e] at h; cases h
    have e := (List.dropLast_concat_getLast hne).symm
    rw [e, everyL_more] at hw
    obtain ⟨w', hw', hv⟩ := List.mem_flatMap.mp hw
    obtain ⟨v, _, rfl⟩ := List.mem_map.mp hv
    rw [List.length_append, world_len n (by rw [List.length_dropLast]; omega) w' hw']
    rfl
def meetsB (v : Gn) (ls : List (Str × Int)) : Bool := ls.all fun l => decide ((v l.1).getD 0 = l.2)
abbrev mans (y : Wk) : List Nat := y.1.map (·.2)
def seenL (y : Wk) (ls : List (Str × Int)) : List (List Int × List Nat) := ((everyL (mans y)).filter fun w => meetsB (vG y w) ls).map fun w => (w, soundL y w)
section
variable {P : Program} {w : World} {K : PySem.W.Frag} {mg : Str → Option Value} {base : Heap}
structure Asks where
  n1 : Nat
  m : Gn
  ts : List Tie
  n2 : Nat
  v : Gn
theorem scAreHeld : FnScope ["manys", "ties", "values", "tie"] ["manys", "ties", "values"] (defScope sAreHeld) := ⟨rfl, rfl, rfl, by decide +kernel, rfl, by decide +kernel, by decide +kernel⟩
theorem are_held_ok (T : Txt w K mg) : Fok P w K mg base 3 "are_held" ["manys", "ties", "values"] (spF (α := Asks) (fun a => a.ts.length < 1000 ∧ ∀ t ∈ a.ts, OkAsk ⟨a.n1, a.m, t, a.n2, a.v⟩) (fun a => [aDI a.n1 a.m, aLst (a.ts.map (aTie K)), aDI a.n2 a.v]) (fun a => aBl (heldB a.m a.ts a.v))) := by
  refine fok_of T.f_AreHeld T.g_are_held scAreHeld (fun _ => rfl) (fun _ F => F.bindsN fun _ _ _ _ _ _ us hl => match us, hl with | [_, _, _], _ => rfl) fun y hy cdv A outer s H E hr => ?_
  have hN := scAreHeld.nd
  obtain ⟨n1, m, ts, n2, v⟩ := y
  exact ds_ret (d_allC (f := fun t => holdsB m t v) [("tie", 3)] T.b_all hN (blkOk_by (by kernel_rfl)) (di_list (xs := ts) (d_v 1)) (fun _ _ _ _ _ c _ => dg_name 3 hN) (fun _ _ _ _ _ c hc => d_cl (tie_holds_ok T) hr ⟨n1, m, c, n2, v⟩ (hy.2 c hc) (da_cons (d_v 0) (da2 (d_v 3) (d_v 2)))) (by have : ts.length < 1000 := hy.1; omega)) Imp.rfl'
theorem scSoundBy : FnScope ["work", "world", "manys", "values", "part", "name", "ties"] ["work", "world"] (defScope sSoundBy) := ⟨rfl, rfl, rfl, by decide +kernel, rfl, by decide +kernel, by decide +kernel⟩
theorem sound_by_ok (T : Txt w K mg) : Fok P w K mg base 4 "sound_by" ["work", "world"] (spF (α := Wk × List Int) (fun q => OkWk q.1 ∧ q.2.length = q.1.1.length) (fun q => [aWk K q.1, aLst (q.2.map aInt)]) (fun q => aLot K (soundL q.1 q.2))) := by
  refine fok_of T.f_SoundBy T.g_sound_by scSoundBy (fun _ => rfl) (fun _ F => F.bindsN fun _ _ _ _ _ _ us hl => match us, hl with | [_, _], _ => rfl) fun y hy cdv A outer s H E hr => ?_
  have hN := scSoundBy.nd
  obtain ⟨y, vs⟩ := y
  obtain ⟨hk, hl⟩ := hy
  have h1 : y.1.length ≤ 8 := hk.ws.hi
  have h2 : y.2.length ≤ 7 := hk.ps.hi
  have hl' : vs.length = y.1.length := hl
  refine ds_set 2 hN (d_cl (manys_of_ok T) hr y trivial (da1 (d_v 0))) ?_
  refine ds_set 3 hN (d_cl (value_by_ok T) hr (y, vs) (by show vs.length < 1000; omega) (da2 (d_v 0) (d_v 1))) ?_
  refine ds_ret (d_tupleL T.b_tuple ((d_fil (xs := y.2.zipIdx) (P := fun q => aTup K [aInt (q.2 : Int), aPart K q.1]) (Ps := fun q => [aInt (q.2 : Int), aStr q.1.1, aLst (q.1.2.map (aTie K))]) (b := fun q => heldB (mG y) q.1.2 (vG y vs)) (F := fun q => aInt (q.2 : Int)) [("part", 4), ("name", 5), ("ties", 6)] hN (blkOk_by (by kernel_rfl))
    (di_enum T.b_enumerate (d_meth (m_parts T) T.cl hr y (by show y.2.length < 1000; omega) (d_v 0) rfl)) (fun _ _ _ _ _ c _ => dg_tup rfl (dgs_cons (dg_name 4 hN) (dgs_cons (dg_two 5 6 rfl hN) dgs_nil))) (fun _ _ _ _ _ c hc => ?_) (fun _ _ _ _ _ c _ _ => d_v 4) (by rw [List.length_zipIdx]; omega)).as ?_)) Imp.rfl'
  · obtain ⟨i, hi, ei⟩ := List.mem_iff_getElem.mp hc
    have hm := List.mem_of_getElem? (zipIdx_at (i := i) (q := c) (by rw [List.getElem?_eq_getElem hi, ei])).1
    have hts := (hk.ps.each _ hm).hi
    exact dt_val (d_cl (are_held_ok T) hr ⟨y.1.length, mG y, c.1.2, (vs.zip y.1).length, vG y vs⟩ ⟨by show c.1.2.length < 1000; omega, fun t ht => ask_ok hk hl' hm ht _ _⟩ (da_cons (d_v 2) (da2 (d_v 6) (d_v 3))))
  · show aLst _ = aLst ((lI (soundL y vs)).map aInt)
    unfold lI soundL
    rw [List.map_map, List.map_map]
    rfl
theorem scSoundIn : FnScope ["work", "world"] ["work", "world"] (defScope sSoundIn) := ⟨rfl, rfl, rfl, by decide +kernel, rfl, by decide +kernel, by decide +kernel⟩
theorem sound_in_ok (T : Txt w K mg) : Fok P w K mg base 5 "sound_in" ["work", "world"] (spF (α := Wk × List Int) (fun q => OkWk q.1 ∧ OkWorld q.1 q.2) (fun q => [aWk K q.1, aLst (q.2.map aInt)]) (fun q => aLot K (soundL q.1 q.2))) := by
  refine fok_of T.f_SoundIn T.g_sound_in scSoundIn (fun _ => rfl) (fun _ F => F.bindsN fun _ _ _ _ _ _ us hl => match us, hl with | [_, _], _ => rfl) fun y hy cdv A outer s H E hr => ?_
  have hN := scSoundIn.nd
  have h1 : y.1.1.length ≤ 8 := hy.1.ws.hi
  have h2 := hy.2.len
  refine ds_ifF (dt_not (dt_val (d_cl (is_world_ok T) hr y ⟨hy.2, by omega⟩ (da2 (d_v 0) (d_v 1))))) rfl ?_
  exact ds_ret (d_cl (sound_by_ok T) hr y ⟨hy.1, h2⟩ (da2 (d_v 0) (d_v 1))) Imp.rfl'
theorem scEveryWorld : FnScope ["work", "found", "name", "many", "world", "value"] ["work"] (defScope sEveryWorld) := ⟨rfl, rfl, rfl, by decide +kernel, rfl, by decide +kernel, by decide +kernel⟩
theorem every_world_ok (T : Txt w K mg) : Fok P w K mg base 2 "every_world" ["work"] (spF (α := Wk) (OkWk) (fun y => [aWk K y]) (fun y => aLst ((everyL (mans y)).map fun w => aLst (w.map aInt)))) := by
  refine fok_of T.f_EveryWorld T.g_every_world scEveryWorld (fun _ => rfl) (fun _ F => F.bindsN fun _ _ _ _ _ _ us hl => match us, hl with | [_], _ => rfl) fun y hy cdv A outer s H E hr => ?_
  have hN := scEveryWorld.nd
  have h1 : y.1.length ≤ 8 := hy.ws.hi
  refine ds_set (P := aLst [aLst []]) 1 hN (d_lst (da1 (d_lst da_nil))) ?_
  refine ds_for (α := Str × Nat) (xs := y.1) (Pt := aWire K) (is := [2, 3]) (Ts := fun q => [aStr q.1, aInt (q.2 : Int)]) (fun i ρ => ∃ Z1 Z2, ρ = [.v (aWk K y), .v (aLst ((everyL ((mans y).take i)).map fun w => aLst (w.map aInt))), Z1, Z2, .no, .no]) (fun _ _ h => False.elim h) rfl (di_list (d_meth (m_wires T) T.cl hr y trivial (d_v 0) rfl)) ⟨.no, .no, rfl⟩ (fun n _ => dg_two 2 3 rfl hN) (fun i n hn ρ' ⟨Z1, Z2, e⟩ => ?_) (fun ρ' ⟨Z1, Z2, e⟩ => ?_) (fun _ _ => rfl)
  · subst e
    have hn4 := (hy.ws.each n (List.mem_of_getElem? hn)).hi
    have hmn : (mans y)[i]? = some n.2 := by rw [List.getElem?_map, hn]; rfl
    have hi : i < y.1.length := (List.getElem?_eq_some_iff.mp hn).1
    have hlen : ((mans y).take i).length = i := by rw [List.length_take, List.length_map]; omega
    have hw := world_len i hlen
    have hcount : (everyL ((mans y).take i)).length ≤ 4 ^ i := everyL_len i hlen fun m hm => by
      obtain ⟨q, hq, rfl⟩ := List.mem_map.mp (List.mem_of_mem_take hm)
      exact (hy.ws.each q hq).hi
    have hpow : 4 ^ i ≤ 4 ^ 7 := Nat.pow_le_pow_right (by decide) (by omega)
    have h47 : (4 : Nat) ^ 7 = 16384 := by decide
    refine ds_setLc2 1 (xs := everyL ((mans y).take i)) (Pt := fun w => aLst (w.map aInt)) (Ts := fun w => [aLst (w.map aInt)]) (ys := fun _ => List.range n.2) (P1 := fun _ v => aInt (v : Int)) (Ts1 := fun _ v => [aInt (v : Int)]) (F := fun w v => aLst ((w ++ [(v : Int)]).map aInt)) [("world", 4), ("value", 5)] [5] hN (blkOk_by (by kernel_rfl)) (di_list (d_v 1)) (fun _ _ _ _ _ c _ => dg_name 4 hN) (fun _ _ _ _ _ c _ => di_range T.b_range (d_v 3) (by omega)) (fun _ _ _ _ _ c _ z _ => dg_name 5 hN)
      (fun _ _ _ _ _ c hc z _ => ((dn_cat (Ps := c.map aInt) (Qs := [aInt (z : Int)]) (by rw [List.length_map, hw c hc]; show i + 1 < 1000000; omega) (d_v 4) (d_lst (da1 (d_v 5)))).de).as (by rw [List.map_append]; rfl)) (by have := stepW_len (found := everyL ((mans y).take i)) hn4; omega) (ds_nil ⟨.v (aStr n.1), .v (aInt (n.2 : Int)), ?_⟩) rfl
    rw [take_more hmn, everyL_more]
    show [_, Sl.v (aLst _), _, _, _, _] = [_, Sl.v (aLst ((stepW _ _).map _)), _, _, _, _]
    unfold stepW
    rw [List.map_flatMap]
    simp only [List.map_map]
    rfl
  · subst e
    rw [List.take_of_length_le (by rw [List.length_map]; exact Nat.le_refl _)]
    exact ds_ret (d_v 1) Imp.rfl'
theorem scMeets : FnScope ["value", "look"] ["value", "look"] (defScope sMeets) := ⟨rfl, rfl, rfl, by decide +kernel, rfl, by decide +kernel, by decide +kernel⟩
theorem meets_ok (T : Txt w K mg) : Fok P w K mg base 1 "meets" ["value", "look"] (spF (α := Int × Str × Int) (fun _ => True) (fun q => [aInt q.1, aLook K q.2]) (fun q => aBl (decide (q.1 = q.2.2)))) := by
  refine fok_of T.f_Meets T.g_meets scMeets (fun _ => rfl) (fun _ F => F.bindsN fun _ _ _ _ _ _ us hl => match us, hl with | [_, _], _ => rfl) fun y hy cdv A outer s H E hr => ?_
  have hN := scMeets.nd
  obtain ⟨v, z, u⟩ := y
  refine ds_ret (d_eqV (x := V.bl (decide (V.int v = V.int u))) (y := V.bl (decide (V.str "is" = V.str "is"))) rfl (d_eqV rfl (d_v 0) (d_ixT (Ps := [aStr "is", aStr z, aInt u]) 2 (d_v 1) d_int)) (d_eqV rfl (d_ixT (Ps := [aStr "is", aStr z, aInt u]) 0 (d_v 1) d_int) d_str)) (Imp.of ?_)
  by_cases h : v = u
  · subst h
    simp
  · have h' : V.int v ≠ V.int u := fun e => h (by injection e)
    simp [h, h']
theorem scMeetsAll : FnScope ["values", "looks", "look"] ["values", "looks"] (defScope sMeetsAll) := ⟨rfl, rfl, rfl, by decide +kernel, rfl, by decide +kernel, by decide +kernel⟩
theorem meets_all_ok (T : Txt w K mg) : Fok P w K mg base 2 "meets_all" ["values", "looks"] (spF (α := Nat × Gn × List (Str × Int)) (fun q => q.2.2.length < 1000 ∧ ∀ l ∈ q.2.2, ∃ i, q.2.1 l.1 = some i) (fun q => [aDI q.1 q.2.1, aLst (q.2.2.map (aLook K))]) (fun q => aBl (meetsB q.2.1 q.2.2))) := by
  refine fok_of T.f_MeetsAll T.g_meets_all scMeetsAll (fun _ => rfl) (fun _ F => F.bindsN fun _ _ _ _ _ _ us hl => match us, hl with | [_, _], _ => rfl) fun y hy cdv A outer s H E hr => ?_
  have hN := scMeetsAll.nd
  obtain ⟨n, v, ls⟩ := y
  have hv : ∀ l ∈ ls, v l.1 = some ((v l.1).getD 0) := fun l hl => by
    obtain ⟨i, e⟩ := hy.2 l hl
    have e' : v l.1 = some i := e
    rw [e']
    rfl
  exact ds_ret (d_allC (f := fun l : Str × Int => decide ((v l.1).getD 0 = l.2)) [("look", 2)] T.b_all hN (blkOk_by (by kernel_rfl)) (di_list (xs := ls) (d_v 1)) (fun _ _ _ _ _ c _ => dg_name 2 hN) (fun _ _ _ _ _ c hc => d_cl (meets_ok T) hr ((v c.1).getD 0, c) trivial (da2 (d_dgetI (z := c.1) hr (d_v 0) (d_ixT (Ps := [aStr "is", aStr c.1, aInt c.2]) 1 (d_v 2) d_int) (hv c hc)) (d_v 2))) (by have : ls.length < 1000 := hy.1; omega)) Imp.rfl'
def aSeen (K : PySem.W.Frag) (q : List Int × List Nat) : As := aTup K [aLst (q.1.map aInt), aLot K q.2]
structure OkLooks (y : Wk) (ls : List (Str × Int)) : Prop where
  few : ls.length < 1000
  each : ∀ l ∈ ls, OkWorth y l
theorem looks_in {y : Wk} {ls : List (Str × Int)} (h : OkLooks y ls) {l : Str × Int} (hl : l ∈ ls) : l.1 ∈ y.1.map (·.1) := by
  obtain ⟨n, hn, _⟩ := h.each l hl
  refine Classical.byContradiction fun hc => ?_
  have : mG y l.1 = none := by
    unfold mG
    exact gOf_none (by unfold mList; rw [List.map_map]; exact hc)
  rw [hn] at this
  cases this
theorem scSeenWorlds : FnScope ["work", "looks", "found", "world"] ["work", "looks"] (defScope sSeenWorlds) := ⟨rfl, rfl, rfl, by decide +kernel, rfl, by decide +kernel, by decide +kernel⟩
theorem seen_worlds_ok (T : Txt w K mg) : Fok P w K mg base 5 "seen_worlds" ["work", "looks"] (spF (α := Wk × List (Str × Int)) (fun q => OkWk q.1 ∧ OkLooks q.1 q.2) (fun q => [aWk K q.1, aLst (q.2.map (aLook K))]) (fun q => aLst ((seenL q.1 q.2).map (aSeen K)))) := by
  refine fok_of T.f_SeenWorlds T.g_seen_worlds scSeenWorlds (fun _ => rfl) (fun _ F => F.bindsN fun _ _ _ _ _ _ us hl => match us, hl with | [_, _], _ => rfl) fun y hy cdv A outer s H E hr => ?_
  have hN := scSeenWorlds.nd
  obtain ⟨y, ls⟩ := y
  obtain ⟨hk, hls⟩ := hy
  have hwl : ∀ w ∈ everyL (mans y), w.length = y.1.length := fun w hw => world_len _ (List.length_map ..) w hw
  have h1 : y.1.length ≤ 8 := hk.ws.hi
  have hcount : (everyL (mans y)).length ≤ 4 ^ y.1.length := everyL_len _ (List.length_map ..) fun m hm => by
    obtain ⟨q, hq, rfl⟩ := List.mem_map.mp hm
    exact (hk.ws.each q hq).hi
  have hpow : 4 ^ y.1.length ≤ 4 ^ 8 := Nat.pow_le_pow_right (by decide) h1
  have h48 : (4 : Nat) ^ 8 = 65536 := by decide
  refine ds_setOwn (Ps := []) 2 hN (dn_lst da_nil) ?_
  refine ds_for (α := List Int) (xs := everyL (mans y)) (Pt := fun w => aLst (w.map aInt)) (is := [3]) (Ts := fun w => [aLst (w.map aInt)]) (fun i ρ => ∃ Z, ρ = [.v (aWk K y), .v (aLst (ls.map (aLook K))), .own (((((everyL (mans y)).take i).filter fun w => meetsB (vG y w) ls).map fun w => (w, soundL y w)).map (aSeen K)), Z]) (fun _ _ h => False.elim h) rfl (di_list (d_cl (every_world_ok T) hr y hk (da1 (d_v 0)))) ⟨.no, rfl⟩ (fun n _ => dg_name 3 hN) (fun i n hn ρ' ⟨Z, e⟩ => ?_) (fun ρ' ⟨Z, e⟩ => ?_) (fun _ _ => rfl)
  · subst e
    have hmem := List.mem_of_getElem? hn
    have hlen : n.length = y.1.length := hwl n hmem
    have hi : i < (everyL (mans y)).length := (List.getElem?_eq_some_iff.mp hn).1
    refine ds_if (M := fun ρ => ∃ Z, ρ = [.v (aWk K y), .v (aLst (ls.map (aLook K))), .own (((((everyL (mans y)).take (i + 1)).filter fun w => meetsB (vG y w) ls).map fun w => (w, soundL y w)).map (aSeen K)), Z]) (b := meetsB (vG y n) ls) (dt_val (d_cl (meets_all_ok T) hr ((n.zip y.1).length, vG y n, ls) ⟨hls.few, fun l hl => vG_some hlen (looks_in hls hl)⟩ (da2 (d_cl (value_by_ok T) hr (y, n) (by show n.length < 1000; omega) (da2 (d_v 0) (d_v 3))) (d_v 1)))) (fun hb => ?_) (fun hb => ds_nil ⟨.v (aLst (n.map aInt)), ?_⟩) fun ρ' e => ds_nil e
    · refine ds_app 2 (P := aSeen K (n, soundL y n)) rfl (d_tup (da2 (d_v 3) (d_cl (sound_by_ok T) hr (y, n) ⟨hk, hlen⟩ (da2 (d_v 0) (d_v 3))))) (ds_nil ⟨.v (aLst (n.map aInt)), ?_⟩) ?_
      · rw [take_more hn, List.filter_append, List.filter_cons, if_pos hb, List.filter_nil, List.map_append, List.map_append]
        rfl
      · rw [List.length_map, List.length_map]
        refine Nat.lt_of_le_of_lt (List.length_filter_le _ _) ?_
        rw [List.length_take]
        omega
    · rw [take_more hn, List.filter_append, List.filter_cons, if_neg (by rw [hb]; decide), List.filter_nil, List.append_nil]
      rfl
  · subst e
    rw [List.take_length]
    exact ds_ret (d_v 2) Imp.rfl'
def withinL (l o : List Nat) : Bool := l.all fun p => decide (p ∈ o)
theorem scIsWithinLot : FnScope ["lot", "other", "part"] ["lot", "other"] (defScope sIsWithinLot) := ⟨rfl, rfl, rfl, by decide +kernel, rfl, by decide +kernel, by decide +kernel⟩
theorem is_within_lot_ok (T : Txt w K mg) : Fok P w K mg base 1 "is_within_lot" ["lot", "other"] (spF (α := List Nat × List Nat) (fun q => q.1.length < 1000) (fun q => [aLot K q.1, aLot K q.2]) (fun q => aBl (withinL q.1 q.2))) := by
  refine fok_of T.f_IsWithinLot T.g_is_within_lot scIsWithinLot (fun _ => rfl) (fun _ F => F.bindsN fun _ _ _ _ _ _ us hl => match us, hl with | [_, _], _ => rfl) fun y hy cdv A outer s H E hr => ?_
  have hN := scIsWithinLot.nd
  obtain ⟨l, o⟩ := y
  refine ds_ret (d_allC (f := fun p : Int => decide (p ∈ lI o)) [("part", 2)] T.b_all hN (blkOk_by (by kernel_rfl)) (di_tup (xs := lI l) (d_v 0)) (fun _ _ _ _ _ c _ => dg_name 2 hN) (fun _ _ _ _ _ c _ => d_inIT (d_v 2) (d_v 1)) (by have : l.length < 1000 := hy; rw [lI_len]; omega)) (Imp.of ?_)
  show aBl ((l.map fun p : Nat => (p : Int)).all _) = _
  rw [List.all_map]
  unfold withinL
  congr 2
  funext p
  exact decide_eq_decide.mpr lI_mem
end
end Lb
set_option Elab.async false
set_option linter.all false
set_option maxRecDepth 100000
set_option maxHeartbeats 4000000
/-! sorted of lots, with a key or without -/
namespace Da
open PySem PySem.Spec PyProof.Rows L2
/-- a tuple that the heap tells itself -/
def aTupH (Ps : List As) : As := ⟨fun pl H v => ∃ a vs, v = .ref a ∧ H a = some (.tup vs) ∧ Fits pl H vs Ps, fun e ⟨a, vs, h1, h2, h3⟩ => ⟨a, vs, h1, e _ _ h2, h3.mono e⟩⟩
theorem aTupH.tup {K : PySem.W.Frag} {Ps : List As} {pl : Option Addr} {H : Hp} {v : V} (h : (aTupH Ps).is pl H v) : (aTup K Ps).is pl H v := let ⟨a, vs, h1, h2, h3⟩ := h; ⟨a, vs, h1, SqT.of h2, h3⟩
end Da
namespace Lb
open PySem PySem.Spec PyProof.Rows L2 Da PySem.W
abbrev aLotH (l : List Nat) : As := aTupH ((lI l).map aInt)
abbrev lotD (l : List Nat) : PyData := rowD (lI l)
abbrev lv (l : List Nat) : List V := (lI l).map V.int
/-- addresses and the lots that stand there, as Rt says -/
abbrev At (Rt : Hp → Addr → List V → Prop) (H : Hp) (as : List Addr) (ls : List (List Nat)) : Prop := Paired (fun a l => Rt H a (lv l)) as ls
theorem each_of {R : Value → List Nat → Prop} : ∀ {as : List Addr} {ls : List (List Nat)} {F : Addr → List Nat → Prop}, Paired F as ls → (∀ a l, F a l → R (.ref a) l) → EachIs R (as.map Value.ref) ls
  | _, _, _, .nil, _ => .nil
  | _, _, _, .cons h t, g => .cons (g _ _ h) (each_of t g)
theorem of_each {F : Addr → List Nat → Prop} : ∀ {us : List Value} {ls : List (List Nat)}, EachIs (fun u l => ∃ a, u = .ref a ∧ F a l) us ls → ∃ as : List Addr, us = as.map Value.ref ∧ Paired F as ls
  | _, _, .nil => ⟨[], rfl, .nil⟩
  | _, _, .cons ⟨a, e, h⟩ t => by
    obtain ⟨as, h1, h2⟩ := of_each t
    exact ⟨a :: as, by rw [e, h1]; rfl, .cons h h2⟩
theorem vals_refs : ∀ as : List Addr, Vals (as.map V.ref) (as.map Value.ref)
  | [] => .nil
  | _ :: as => .cons rfl (vals_refs as)
theorem refs_vals : ∀ {as : List Addr} {us : List Value}, Vals (as.map V.ref) us → us = as.map Value.ref
  | [], _, .nil => rfl
  | _ :: _, _, .cons r t => by
    rw [refs_vals t, show _ = Value.ref _ from r]
    rfl
theorem alike_ints : ∀ r s : List Int, alikeAll (r.map .int) (s.map .int) = true
  | [], _ => by simp [alikeAll]
  | _ :: _, [] => by simp [alikeAll]
  | a :: r, b :: s => by rw [List.map_cons, List.map_cons, alikeAll, alike_ints r s]; rfl
theorem alike_lots (ls : List (List Nat)) : AllAlike (ls.map lotD) := AllAlike.of fun a b => by
  show alike (rowD (lI a)) (rowD (lI b)) = true
  unfold alike
  exact alike_ints _ _
theorem sort_lots {ls : List (List Nat)} (h : ∀ l ∈ ls, l ≠ []) : Sortable (ls.map lotD) := .inl fun d hd => by
  obtain ⟨l, hl, rfl⟩ := List.mem_map.mp hd
  cases l with
  | nil => exact absurd rfl (h _ hl)
  | cons a r => exact ⟨_, _, rfl⟩
theorem lotD_depth (l : List Nat) : (lotD l).depth = 1 := by
  show PyData.depth (.tuple _) = 1
  simp only [PyData.depth, (rowD_lays (lI l)).2]
abbrev sortL (ls : List (List Nat)) : List (List Nat) := ls.mergeSort (dataLe false lotD)
def keyD (l : List Nat) : PyData := .tuple [.int (l.length : Int), lotD l]
abbrev sortK (ls : List (List Nat)) : List (List Nat) := ls.mergeSort (dataLe false keyD)
section
variable {X : Cx}
theorem reads_lot {pins : List (Addr × Obj)} {σ : L2.St} {H : Hp} {s : Shared} (I : Inv X pins σ H s) {a : Addr} {l : List Nat} (h : SqT X.K H a (lv l)) : ∃ as, Reads s.heap (.ref a) (lotD l) as :=
  Dp.reads I _ _ _ (.tup h (by
    have : ∀ ns : List Int, DpAll X.K H (ns.map V.int) (ns.map PyData.int) := fun ns => by
      induction ns with
      | nil => exact .nil
      | cons a r ih => exact .cons (.int a) ih
    exact this _)) rfl
theorem cs_lots {k : Nat} (hr : Room k X.A) : CallR X (.builtin "sorted") (fun xs H Q => ∃ (F : Addr → List Nat → Prop) (a : Addr) (as : List Addr) (ls : List (List Nat)), (∀ b l, F b l → SqT X.K H b (lv l)) ∧ xs = [.ref a] ∧ SqL X.K H a (as.map V.ref) ∧ Paired F as ls ∧ ls.length < 100000 ∧ (∀ l ∈ ls, l ≠ []) ∧
    ∀ p as', H p = none → Paired F as' (sortL ls) → Q (.ref p) (upd H p (.lst (as'.map V.ref)))) := by
  intro pins s σ H xs us Q I r h
  obtain ⟨Fa, a, as, ls, hF, rfl, hq, hat, hz, hne, q⟩ := h
  obtain ⟨u, rfl, ru⟩ := vals1 r
  obtain rfl : u = Value.ref a := ru
  obtain ⟨its, rv, pl, hz2⟩ := I.list hq
  have ei := refs_vals rv
  subst ei
  refine sorted_data (bs := ls) (enc := lotD) (R := fun u l => ∃ b, u = .ref b ∧ Fa b l) pl.isList (each_of hat fun b l h => ⟨b, rfl, h⟩) (each_of hat fun b l h => reads_lot I (hF _ _ h)) (alike_lots ls) (sort_lots hne) (Nat.le_of_lt (small_of (by omega))) (fun b _ => by rw [lotD_depth]; have := hr.un; omega) fun out ho eo => ?_
  obtain ⟨as', rfl, hat'⟩ := of_each eo
  obtain ⟨ep, he⟩ := sortedAll_at s.heap (as.map Value.ref) (as'.map Value.ref).toArray
  have hl : as'.length = ls.length := by simpa using ho
  exact ⟨.ref _, upd H (s.heap.objs.size + 1) (.lst (as'.map V.ref)), I.laid (t' := s.toks) (fun _ _ => sortedAll_old) (Nat.le_succ _) ⟨by rw [List.length_map, hl]; exact Nat.le_of_lt (small_of (by omega)), _, ep, vals_refs as', he⟩, rfl, q _ _ (I.hok.fresh (Nat.le_succ _)) hat'⟩
/-- sorted(xs, key=f), f's key of a lot l: keyD l -/
theorem cs_lotsK {k : Nat} (hr : Room k X.A) {f : Addr}
    (hf : ∀ (pins : List (Addr × Obj)) (σ : L2.St) (H : Hp) (s : Shared) (a : Addr) (l : List Nat), Inv X pins σ H s → SqT X.K H a (lv l) → l.length < 1000 → wpAny (model X.prog X.w) X.A.in1.in1 (call (.ref f) [.ref a]) (KeyPure (keyD l) s) (fun _ _ => False) s) :
    CallRK X (.builtin "sorted") [Str.ofString "key"] (fun xs zs H Q => ∃ (F : Addr → List Nat → Prop) (a : Addr) (as : List Addr) (ls : List (List Nat)), (∀ b l, F b l → SqT X.K H b (lv l)) ∧ xs = [.ref a] ∧ zs = [.ref f] ∧ SqL X.K H a (as.map V.ref) ∧ Paired F as ls ∧ ls.length < 100000 ∧ (∀ l ∈ ls, l.length < 1000) ∧
      ∀ p as', H p = none → Paired F as' (sortK ls) → Q (.ref p) (upd H p (.lst (as'.map V.ref)))) := by
  intro pins s σ H xs zs us ws Q I r rz h
  obtain ⟨Fa, a, as, ls, hF, rfl, rfl, hq, hat, hz, hlen, q⟩ := h
  obtain ⟨u, rfl, ru⟩ := vals1 r
  obtain rfl : u = Value.ref a := ru
  obtain ⟨u2, rfl, ru2⟩ := vals1 rz
  obtain rfl : u2 = Value.ref f := ru2
  obtain ⟨its, rv, pl, hz2⟩ := I.list hq
  have ei := refs_vals rv
  subst ei
  refine sorted_key_data (b := false) (bs := ls) keyD (R := fun u l => ∃ b, u = .ref b ∧ Fa b l) pl.isList (each_of hat fun b l h => ⟨b, rfl, h⟩) (AllAlike.of fun a b => ?_) (Sortable.tuples fun l => ⟨_, _, rfl⟩) (Nat.le_of_lt (small_of (by omega))) (fun b _ => ?_) (ksk_s1 _ _) (fun _ => ksk_l1 _ _) (fun _ => ksk_t1 _ _)
    (fun v l ⟨b, e, hb⟩ hl h tk kp => ?_) fun out c h' tk kp fr hD ho eo => ?_
  · show alike (keyD a) (keyD b) = true
    unfold keyD alike
    rw [alikeAll, alikeAll, alikeAll, alike, alike, alike_ints]
    rfl
  · have : (keyD b).depth = 2 := by
      unfold keyD
      simp only [PyData.depth, PyData.depthAll, (rowD_lays (lI b)).2]
      rfl
    rw [this]
    have := hr.un
    omega
  · subst e
    exact hf pins σ H { s with heap := h, toks := tk } b l (I.kept kp) (hF _ _ hb) (hlen l hl)
  · obtain ⟨as', rfl, hat'⟩ := of_each eo
    have hl : as'.length = ls.length := by simpa using ho
    have hn : H (s.heap.objs.size + 1) = none := I.hok.fresh (Nat.le_succ _)
    exact ⟨.ref _, upd H (s.heap.objs.size + 1) (.lst (as'.map V.ref)), I.laidN (t' := tk) kp fr hn ⟨by rw [List.length_map, hl]; exact Nat.le_of_lt (small_of (by omega)), _, c, vals_refs as', hD⟩, rfl, q _ _ hn hat'⟩
end
section
variable {X : Cx} {ρ : Rho} {e f : Expr} {p pos kpos : Pos} {k : Nat}
theorem fits_at {pl : Option Addr} {H : Hp} : ∀ {vs : List V} {ls : List (List Nat)}, Fits pl H vs (ls.map aLotH) → ∃ as : List Addr, vs = as.map V.ref ∧ At (fun H a vs => H a = some (.tup vs)) H as ls
  | _, [], .nil => ⟨[], rfl, .nil⟩
  | _, l :: ls, .cons ⟨a, us, e1, e2, f⟩ t => by
    obtain ⟨as, h1, h2⟩ := fits_at t
    exact ⟨a :: as, by rw [e1, h1]; rfl, .cons (by rw [show lv l = us from (fits_map (f := V.int) f).symm]; exact e2) h2⟩
theorem at_fits {pl : Option Addr} {H : Hp} : ∀ {as : List Addr} {ls : List (List Nat)}, At (fun H a vs => H a = some (.tup vs)) H as ls → Fits pl H (as.map V.ref) (ls.map aLotH)
  | _, _, .nil => .nil
  | _, _, .cons h t => .cons ⟨_, _, rfl, h, fits_of (f := V.int) _⟩ (at_fits t)
theorem fits_atT {K : PySem.W.Frag} {pl : Option Addr} {H : Hp} : ∀ {vs : List V} {ls : List (List Nat)}, Fits pl H vs (ls.map (aLot K)) → ∃ as : List Addr, vs = as.map V.ref ∧ At (SqT K) H as ls
  | _, [], .nil => ⟨[], rfl, .nil⟩
  | _, l :: ls, .cons ⟨a, us, e1, e2, f⟩ t => by
    obtain ⟨as, h1, h2⟩ := fits_atT t
    exact ⟨a :: as, by rw [e1, h1]; rfl, .cons (by rw [show lv l = us from (fits_map (f := V.int) f).symm]; exact e2) h2⟩
theorem at_fitsT {K : PySem.W.Frag} {pl : Option Addr} {H : Hp} : ∀ {as : List Addr} {ls : List (List Nat)}, At (SqT K) H as ls → Fits pl H (as.map V.ref) (ls.map (aLot K))
  | _, _, .nil => .nil
  | _, _, .cons h t => .cons ⟨_, _, rfl, h, fits_of (f := V.int) _⟩ (at_fitsT t)
theorem d_sortL {ls : List (List Nat)} (hr : Room k X.A) (hm : X.mg "sorted" = none) (h : De X e ρ (aLst (ls.map aLotH))) (hz : ls.length < 100000) (hne : ∀ l ∈ ls, l ≠ []) (hs : starEach (e :: []) X.env = (false, eval e X.env) :: starEach [] X.env := by rfl) (hg : Gl X "sorted" := by rfl) : De X (.Call (.Name "sorted" p) [e] [] pos) ρ (aLst ((sortL ls).map aLotH)) :=
  d_cb (cs_lots hr) (fun pl H Hc vs g ft Q q => by
    obtain ⟨v, e1, a, ws, h1, h2, f2⟩ := one ft
    subst e1 h1
    obtain ⟨as, ea, hat⟩ := fits_at f2
    subst ea
    exact ⟨fun b l => Hc b = some (.tup (lv l)), a, as, ls, fun b l hb => SqT.of (g.sub _ _ hb), rfl, SqL.of (g.sub _ _ h2), hat, hz, hne, fun d as' hd hat' => q.new g hd ⟨d, _, rfl, upd_same, (at_fits (H := Hc) hat').mono (same_new (clean_none g hd))⟩⟩) hm (da1 h hs) boot_sorted hg (by decide) (by decide) hs rfl
theorem d_sortK {ls : List (List Nat)} {z : Str} {np : Pos} {fa : Addr} (hr : Room k X.A) (hm : X.mg "sorted" = none) (hf : X.mg z = some (.ref fa))
    (hkey : ∀ (pins : List (Addr × Obj)) (σ : L2.St) (H : Hp) (s : Shared) (a : Addr) (l : List Nat), Inv X pins σ H s → SqT X.K H a (lv l) → l.length < 1000 → wpAny (model X.prog X.w) X.A.in1.in1 (call (.ref fa) [.ref a]) (KeyPure (keyD l) s) (fun _ _ => False) s)
    (h : De X e ρ (aLst (ls.map (aLot X.K)))) (hz : ls.length < 100000) (hlen : ∀ l ∈ ls, l.length < 1000) (he : backTo pos (starEach (e :: []) X.env) = (false, eval e X.env) :: backTo pos (starEach [] X.env) := by rfl) (hs : starEach (e :: []) X.env = (false, eval e X.env) :: starEach [] X.env := by rfl) (hg : Gl X "sorted" := by rfl) (hgz : Gl X z := by rfl) (hd : (z == ("__debug__" : Str)) = false := by decide)
    (hpl : (backTo pos (starEach (e :: []) X.env)).any (·.1) = false := by rfl) (hall : (backToKw pos (keywordEach [⟨some "key", .Name z np, kpos⟩] X.env)).all (·.1.isSome) = true := by rfl) (hnone : (backToKw pos (keywordEach [⟨some "key", .Name z np, kpos⟩] X.env)).any (·.1.isNone) = false := by rfl) (hks : (backToKw pos (keywordEach [⟨some "key", .Name z np, kpos⟩] X.env)).filterMap (·.1) = [Str.ofString "key"] := by rfl) :
    De X (.Call (.Name "sorted" p) [e] [⟨some "key", .Name z np, kpos⟩] pos) ρ (aLst ((sortK ls).map (aLot X.K))) := fun pl σ H Hc g ev Q q =>
  tE_of (pe_callBK (cs_lotsK hr hkey) hg hm boot_sorted pa_can (pk_cons (pe_glob (v := .ref fa) hgz hf rfl hd) pk_nil) (by decide) (by decide) he hpl hall hnone hks) (da1 h hs pl σ H Hc g ev _ fun vs H1 Hc1 s1 ft => by
    obtain ⟨v, e1, a, ws, h1, h2, f2⟩ := one ft
    subst e1 h1
    obtain ⟨as, ea, hat⟩ := fits_atT f2
    subst ea
    exact ⟨fun b l => SqT X.K Hc1 b (lv l), a, as, ls, fun b l hb => same_t s1.gd.sub hb, rfl, rfl, SqL.of (s1.gd.sub _ _ h2), hat, hz, hlen, fun d as' hd hat' => (q.step s1).new s1.gd hd ⟨d, _, rfl, upd_same, (at_fitsT (H := Hc1) hat').mono (same_new (clean_none s1.gd hd))⟩⟩)
end
end Lb
set_option Elab.async false
set_option linter.all false
set_option maxRecDepth 100000
set_option maxHeartbeats 4000000
namespace Lb
open PySem PySem.Spec PyProof.Rows L2 Da PySem.W
section
variable {P : Program} {w : World} {K : PySem.W.Frag} {mg : Str → Option Value} {base : Heap}
theorem readsAll_ints {h : Heap} : ∀ {ns : List Int} {us : List Value}, Vals (ns.map V.int) us → ReadsAll h us (ns.map .int) []
  | [], _, .nil => .nil
  | n :: ns, _, .cons r t => by
    obtain ⟨k, rfl⟩ := r
    exact ReadsAll.cons (as := []) (bs := []) (.int n k) (readsAll_ints t)
theorem scLotOrder : FnScope ["lot"] ["lot"] (defScope sLotOrder) := ⟨rfl, rfl, rfl, by decide +kernel, rfl, by decide +kernel, by decide +kernel⟩
/-- lot_order(lot), all of the state told -/
theorem lot_key (T : Txt w K mg) {X : Cx} (hw : X.w = w) (hK : X.K = K) (hg : X.mg = mg) {k : Nat} (hr : Room (k + 3) X.A) {pins : List (Addr × Obj)} {σ : L2.St} {H : Hp} {s : Shared} {a : Addr} {l : List Nat} (I : Inv X pins σ H s) (ha : SqT X.K H a (lv l)) (hl : l.length < 1000) :
    wpAny (model X.prog X.w) X.A.in1.in1 (call (.ref (He.ga K "lot_order")) [.ref a]) (KeyPure (keyD l) s) (fun _ _ => False) s := by
  subst hw hK hg
  obtain ⟨fd, F⟩ := T.f_LotOrder
  have B := F.bindsN (ps := ["lot"]) fun _ _ _ _ _ _ us hl => match us, hl with | [_], _ => rfl
  obtain ⟨oc, od, dV, kV, doc, pm, an, cdv, ct, osl, rfl, lk, hcd, _, _⟩ := F.ex
  have e0 := I.env0
  have KX : X.K.In s.heap := I.kIn
  have lim : s.heap.NoLimit := e0.mod.nolimit.keeps fun b o e => (e0.bs b o e).1
  have e2 : Env0 X.prog X.w X.K X.mg X.base X.A.in1.in1 X.stack s H := e0.in1.in1
  have hr2 : Room (k + 1) X.A.in1.in1 := hr.in1.in1
  refine wpAny_call (codeAny_call_function hr2.depth (KX _ _ lk) rfl scLotOrder.co scLotOrder.gen rfl (PySem.W.codeRec_of KX hcd) (B _ [.ref a] KX rfl _ _ _ _ ?_))
  refine wpAny_newFunctionEnv_cells scLotOrder.kind (fun ⟨n, v⟩ hy => .inl (by
    have : n = "lot" := by
      have := (List.of_mem_zip hy).1
      simpa using this
    subst this
    rfl)) fun env he s1 x => ?_
  subst he
  refine ⟨lim.keeps x.toInCall.keep, codeAny_func ?_⟩
  have I2 : Inv (cxOf CX0 X.prog X.w X.K X.mg X.base ["lot"] dLotOrder.qual dLotOrder.scope (He.ga X.K "lot_order") cdv X.A.in1.in1 X.stack s H E0) [] (start ["lot"] [.ref a]) H s1 := inv_start scLotOrder hr2.hd e2 rfl (.cons rfl .nil) x
  obtain ⟨h1, tk1, es1, hk1⟩ := x.done
  obtain ⟨m, hn, hlk⟩ := I2.loc
  obtain ⟨u, ru, lk2⟩ := hlk 0 "lot" (.ref a) rfl rfl (.inl rfl)
  obtain rfl : u = Value.ref a := ru
  obtain ⟨its, rv, ht, hz⟩ := I2.tuple ha
  have hm : m "lot" = some (Value.ref a) := by
    rcases lk2 with ⟨_, hm⟩ | ⟨hk | hk, _⟩
    · exact hm
    · have z : some NameKind.local = some NameKind.cell := hk
      cases z
    · have z : some NameKind.local = some NameKind.free := hk
      cases z
  have hlen := rv.length
  rw [List.length_map, lI_len] at hlen
  show wpAny _ _ (execs [.Return (some (.Tuple [.Call (.Name "len" _) [.Name "lot" _] [] _, .Name "lot" _] _ _)) _] _) _ _ s1
  refine wpAny_execs_cons (wpAny_Return_some (wpAny_Tuple_spliced (PyProof.Rows.args_cons (Call_ (ld_blt I2 rfl T.b_len boot_len (PyProof.Rows.callWith_builtin1 (PyProof.Rows.args_cons (wpAny_Name (wpAny_loadName_local rfl rfl hn hm ?_) (by decide)) rfl) rfl rfl))) rfl)))
  refine PyProof.Rows.args_nil (len_tuple ht (by rw [List.size_toArray, ← hlen]; omega) ?_)
  refine PyProof.Rows.args_cons (wpAny_Name (wpAny_loadName_local rfl rfl hn hm (PyProof.Rows.args_nil ⟨by show 2 ≤ sizeLine; decide, ?_⟩)) (by decide)) rfl
  subst es1
  refine ⟨_, _, rfl, fun b o e => Heap.get?_push_of_some _ (hk1 b o e), ?_⟩
  obtain ⟨o, ho, hc, n, hd⟩ := ht
  refine Reads.tuple (Heap.get?_push_size _ rfl) rfl rfl (ReadsAll.cons (as := []) (bs := []) (by rw [List.size_toArray, ← hlen]; exact .int _ _) (ReadsAll.cons (as := []) (bs := []) (Reads.tuple (Heap.get?_push_of_some _ ho) hc hd (readsAll_ints rv)) .nil))
end
end Lb
set_option Elab.async false
set_option linter.all false
set_option maxRecDepth 100000
set_option maxHeartbeats 4000000
namespace Lb
open PySem PySem.Spec PyProof.Rows L2 Da PySem.W
def stepF (found : List (List Nat)) (lot : List Nat) : List (List Nat) := if found.any (fun o => withinL o lot) = true then found else found ++ [lot]
def leastF (ls : List (List Nat)) : List (List Nat) := ls.foldl stepF []
theorem leastF_more {l : List (List Nat)} {x : List Nat} : leastF (l ++ [x]) = if (leastF l).any (fun o => withinL o x) = true then leastF l else leastF l ++ [x] := by
  unfold leastF
  rw [List.foldl_append]
  rfl
theorem leastF_sub : ∀ (l : List (List Nat)), ∀ x ∈ leastF l, x ∈ l := by
  have : ∀ (l f : List (List Nat)), ∀ x ∈ l.foldl stepF f, x ∈ f ∨ x ∈ l := by
    intro l
    induction l with
    | nil => exact fun f x h => .inl h
    | cons a r ih =>
      intro f x h
      rcases ih _ x h with h | h
      · unfold stepF at h
        split at h
        · exact .inl h
        · rcases List.mem_append.mp h with h | h
          · exact .inl h
          · exact .inr (by rw [List.mem_singleton.mp h]; exact List.mem_cons_self ..)
      · exact .inr (List.mem_cons_of_mem _ h)
  exact fun l x h => (this l [] x h).elim (fun h => by cases h) id
theorem leastF_len : ∀ (l : List (List Nat)), (leastF l).length ≤ l.length := by
  have : ∀ (l f : List (List Nat)), (l.foldl stepF f).length ≤ f.length + l.length := by
    intro l
    induction l with
    | nil => exact fun f => Nat.le_refl _
    | cons a r ih =>
      intro f
      refine Nat.le_trans (ih _) ?_
      unfold stepF
      split
      · rw [List.length_cons]; omega
      · rw [List.length_append, List.length_singleton, List.length_cons]; omega
  exact fun l => Nat.le_trans (this l []) (by simp)
def leastL (ls : List (List Nat)) : List (List Nat) := leastF (sortK ls)
def restL (n : Nat) (l : List Nat) : List Nat := (List.range n).filter fun p => !decide (p ∈ l)
def brokenL (y : Wk) (ls : List (Str × Int)) : List (List Nat) := leastL ((seenL y ls).map fun q => restL y.2.length q.2)
section
variable {P : Program} {w : World} {K : PySem.W.Frag} {mg : Str → Option Value} {base : Heap}
theorem scLeastOnes : FnScope ["lots", "found", "lot", "other"] ["lots"] (defScope sLeastOnes) := ⟨rfl, rfl, rfl, by decide +kernel, rfl, by decide +kernel, by decide +kernel⟩
theorem least_ones_ok (T : Txt w K mg) : Fok P w K mg base 5 "least_ones" ["lots"] (spF (α := List (List Nat)) (fun ls => ls.length < 90000 ∧ ∀ l ∈ ls, l.length < 1000) (fun ls => [aLst (ls.map (aLot K))]) (fun ls => aLst ((leastL ls).map (aLot K)))) := by
  refine fok_of T.f_LeastOnes T.g_least_ones scLeastOnes (fun _ => rfl) (fun _ F => F.bindsN fun _ _ _ _ _ _ us hl => match us, hl with | [_], _ => rfl) fun y hy cdv A outer s H E hr => ?_
  have hN := scLeastOnes.nd
  obtain ⟨hz, hl⟩ := hy
  have hsl : (sortK y).length = y.length := List.length_mergeSort ..
  have hsm : ∀ l ∈ sortK y, l.length < 1000 := fun l h => hl l (List.mem_mergeSort.mp h)
  refine ds_setOwn (Ps := []) 1 hN (dn_lst da_nil) ?_
  refine ds_for (α := List Nat) (xs := sortK y) (Pt := aLot K) (is := [2]) (Ts := fun l => [aLot K l]) (fun i ρ => ∃ Z, ρ = [.v (aLst (y.map (aLot K))), .own ((leastF ((sortK y).take i)).map (aLot K)), Z, .no]) (fun _ _ h => False.elim h) rfl (di_list (d_sortK (k := 3) (hr.mono (by decide)) T.b_sorted T.g_lot_order (fun pins σ H s a l I ha hl => lot_key T rfl rfl rfl (k := 0) (hr.mono (by decide)) I ha hl) (d_v 0) (by omega) hl)) ⟨.no, rfl⟩ (fun n _ => dg_name 2 hN) (fun i n hn ρ' ⟨Z, e⟩ => ?_) (fun ρ' ⟨Z, e⟩ => ?_) (fun _ _ => rfl)
  · subst e
    have hi : i < (sortK y).length := (List.getElem?_eq_some_iff.mp hn).1
    have hfl : (leastF ((sortK y).take i)).length ≤ i := Nat.le_trans (leastF_len _) (by rw [List.length_take]; omega)
    refine ds_if (M := fun ρ => ∃ Z, ρ = [.v (aLst (y.map (aLot K))), .own ((leastF ((sortK y).take (i + 1))).map (aLot K)), Z, .no]) (b := !((leastF ((sortK y).take i)).any fun o => withinL o n)) (dt_not (dt_val (d_anyC (xs := leastF ((sortK y).take i)) (f := fun o => withinL o n) [("other", 3)] T.b_any hN (blkOk_by (by kernel_rfl)) (di_list (d_v 1)) (fun _ _ _ _ _ c _ => dg_name 3 hN)
      (fun _ _ _ _ _ c hc => d_cl (is_within_lot_ok T) hr (c, n) (hsm c (List.mem_of_mem_take (leastF_sub _ c hc))) (da2 (d_v 3) (d_v 2))) (by omega)))) (fun hb => ?_) (fun hb => ds_nil ⟨.v (aLot K n), ?_⟩) fun ρ' e => ds_nil e
    · refine ds_app 1 (P := aLot K n) rfl (d_v 2) (ds_nil ⟨.v (aLot K n), ?_⟩) (by rw [List.length_map]; omega)
      rw [take_more hn, leastF_more, if_neg (by intro h; rw [h] at hb; cases hb), List.map_append]
      rfl
    · rw [take_more hn, leastF_more, if_pos (by simpa using hb)]
      rfl
  · subst e
    rw [List.take_of_length_le (Nat.le_refl _)]
    exact ds_ret (d_v 1) Imp.rfl'
theorem scRestOf : FnScope ["work", "lot", "part"] ["work", "lot"] (defScope sRestOf) := ⟨rfl, rfl, rfl, by decide +kernel, rfl, by decide +kernel, by decide +kernel⟩
theorem rest_of_ok (T : Txt w K mg) : Fok P w K mg base 3 "rest_of" ["work", "lot"] (spF (α := Wk × List Nat) (fun q => q.1.2.length < 1000) (fun q => [aWk K q.1, aLot K q.2]) (fun q => aLot K (restL q.1.2.length q.2))) := by
  refine fok_of T.f_RestOf T.g_rest_of scRestOf (fun _ => rfl) (fun _ F => F.bindsN fun _ _ _ _ _ _ us hl => match us, hl with | [_, _], _ => rfl) fun y hy cdv A outer s H E hr => ?_
  have hN := scRestOf.nd
  obtain ⟨y, l⟩ := y
  have few : y.2.length < 1000 := hy
  exact ds_ret (d_tupleL T.b_tuple ((d_fil (xs := List.range y.2.length) (P := fun p => aInt (p : Int)) (Ps := fun p => [aInt (p : Int)]) (b := fun p => !decide (p ∈ l)) (F := fun p => aInt (p : Int)) [("part", 2)] hN (blkOk_by (by kernel_rfl)) (di_range T.b_range (d_len T hr few (d_v 0)) (by omega)) (fun _ _ _ _ _ c _ => dg_name 2 hN)
    (fun _ _ _ _ _ c _ => (dt_ninIT (ks := lI l) (d_v 2) (d_v 1)).as (by rw [decide_eq_decide.mpr lI_mem])) (fun _ _ _ _ _ c _ _ => d_v 2) (by rw [List.length_range]; omega)).as (by unfold restL lI; rw [List.map_map]; rfl))) Imp.rfl'
theorem scRestsOf : FnScope ["work", "seen", "world", "sound"] ["work", "seen"] (defScope sRestsOf) := ⟨rfl, rfl, rfl, by decide +kernel, rfl, by decide +kernel, by decide +kernel⟩
theorem rests_of_ok (T : Txt w K mg) : Fok P w K mg base 6 "rests_of" ["work", "seen"] (spF (α := Wk × List (List Int × List Nat)) (fun q => q.1.2.length < 1000 ∧ q.2.length < 90000) (fun q => [aWk K q.1, aLst (q.2.map (aSeen K))]) (fun q => aLst ((leastL (q.2.map fun z => restL q.1.2.length z.2)).map (aLot K)))) := by
  refine fok_of T.f_RestsOf T.g_rests_of scRestsOf (fun _ => rfl) (fun _ F => F.bindsN fun _ _ _ _ _ _ us hl => match us, hl with | [_, _], _ => rfl) fun y hy cdv A outer s H E hr => ?_
  have hN := scRestsOf.nd
  obtain ⟨y, sn⟩ := y
  obtain ⟨few, hz⟩ := hy
  have few' : y.2.length < 1000 := few
  have hz' : sn.length < 90000 := hz
  refine ds_ret (d_cl (least_ones_ok T) hr (sn.map fun z => restL y.2.length z.2) ⟨by rw [List.length_map]; exact hz', fun l hl => ?_⟩ (da1 ((d_map (xs := sn) (P := aSeen K) (F := fun z => aLot K (restL y.2.length z.2)) [("world", 2), ("sound", 3)] hN (blkOk_by (by kernel_rfl)) (di_list (d_v 1)) (fun _ _ _ _ _ c _ => dg_two 2 3 rfl hN) (fun _ _ _ _ _ c _ => d_cl (rest_of_ok T) hr (y, c.2) few' (da2 (d_v 0) (d_v 3))) (by omega)).as (by rw [List.map_map]; rfl)))) Imp.rfl'
  obtain ⟨z, _, rfl⟩ := List.mem_map.mp hl
  exact Nat.lt_of_le_of_lt (List.length_filter_le _ _) (by rw [List.length_range]; exact few')
theorem seenL_len {y : Wk} (hk : OkWk y) (ls : List (Str × Int)) : (seenL y ls).length < 90000 := by
  have hcount : (everyL (mans y)).length ≤ 4 ^ y.1.length := everyL_len _ (List.length_map ..) fun m hm => by
    obtain ⟨q, hq, rfl⟩ := List.mem_map.mp hm
    exact (hk.ws.each q hq).hi
  have hpow : 4 ^ y.1.length ≤ 4 ^ 8 := Nat.pow_le_pow_right (by decide) hk.ws.hi
  have h48 : (4 : Nat) ^ 8 = 65536 := by decide
  unfold seenL
  rw [List.length_map]
  have := List.length_filter_le (fun w => meetsB (vG y w) ls) (everyL (mans y))
  omega
theorem scBroken : FnScope ["work", "looks"] ["work", "looks"] (defScope sBroken) := ⟨rfl, rfl, rfl, by decide +kernel, rfl, by decide +kernel, by decide +kernel⟩
theorem broken_ok (T : Txt w K mg) : Fok P w K mg base 7 "broken" ["work", "looks"] (spF (α := Wk × List (Str × Int)) (fun q => OkWk q.1 ∧ OkLooks q.1 q.2) (fun q => [aWk K q.1, aLst (q.2.map (aLook K))]) (fun q => aLst ((brokenL q.1 q.2).map (aLot K)))) := by
  refine fok_of T.f_Broken T.g_broken scBroken (fun _ => rfl) (fun _ F => F.bindsN fun _ _ _ _ _ _ us hl => match us, hl with | [_, _], _ => rfl) fun y hy cdv A outer s H E hr => ?_
  have hN := scBroken.nd
  obtain ⟨hk, hls⟩ := hy
  have h2 := hk.ps.hi
  refine ds_expr (d_cl (look_at_work_ok T) hr y.1 trivial (da1 (d_v 0))) ?_
  refine ds_expr (d_cl (look_at_looks_ok T) hr y ⟨hls.few, hls.each⟩ (da2 (d_v 0) (d_v 1))) ?_
  exact ds_ret (d_cl (rests_of_ok T) hr (y.1, seenL y.1 y.2) ⟨by show y.1.2.length < 1000; omega, seenL_len hk _⟩ (da2 (d_v 0) (d_cl (seen_worlds_ok T) hr y ⟨hk, hls⟩ (da2 (d_v 0) (d_v 1))))) Imp.rfl'
end
end Lb
set_option Elab.async false
set_option linter.all false
set_option maxRecDepth 100000
set_option maxHeartbeats 4000000
namespace Da
open PySem PySem.Spec PyProof.Rows L2
section
variable {X : Cx} {ρ : Rho} {pos : Pos} {a b c d : Expr}
theorem dt_or4 {x y z t : Bool} (h1 : Dt X a ρ x) (h2 : x = false → Dt X b ρ y) (h3 : x = false → y = false → Dt X c ρ z) (h4 : x = false → y = false → z = false → Dt X d ρ t) : Dt X (.BoolOp .Or [a, b, c, d] pos) ρ (x || (y || (z || t))) := fun _ _ _ _ g ev _ q => tT_of (PW.pt (pw_or pt_can (pw_or pt_can (pw_or pt_can (pw_or1 pt_can))))) (h1 _ _ _ _ g ev _ fun H1 Hc1 s1 => by
  cases x with
  | true => exact iteT (q H1 Hc1 s1)
  | false =>
    refine iteF (h2 rfl _ _ _ _ s1.gd (ev.mono s1.cl) _ fun H2 Hc2 s2 => ?_)
    cases y with
    | true => exact iteT (q H2 Hc2 (s1.trans s2))
    | false =>
      refine iteF (h3 rfl rfl _ _ _ _ s2.gd (ev.mono (s1.trans s2).cl) _ fun H3 Hc3 s3 => ?_)
      cases z with
      | true => exact iteT (q H3 Hc3 ((s1.trans s2).trans s3))
      | false => exact iteF (h4 rfl rfl rfl _ _ _ _ s3.gd (ev.mono ((s1.trans s2).trans s3).cl) _ fun H4 Hc4 s4 => q H4 Hc4 (((s1.trans s2).trans s3).trans s4)))
end
end Da
namespace Lb
open PySem PySem.Spec PyProof.Rows L2 Da PySem.W
abbrev Stg := Str × List Nat
def aStg (K : PySem.W.Frag) (q : Stg) : As := aTup K [aStr q.1, aLotH q.2]
theorem lotH_lot {K : PySem.W.Frag} {l : List Nat} : Imp (aLotH l) (aLot K l) := fun h => aTupH.tup h
theorem dt_emptyL {X : Cx} {ρ : Rho} {pos p : Pos} {a : Expr} {x1} {l : List Nat} {k : Nat} (hr : Room k X.A) (ha : De X a ρ (aLot X.K l)) : Dt X (.Compare a [.Eq] [.Tuple [] x1 p] pos) ρ (decide (l = [])) :=
  (dt_cmp (op_eqD hr.units) (k := PyData.eqv (rowD (lI l)) (rowD [])) (opd_eqD row_is (isd_tup (α := Int) (P := aInt) (d := .int) (xs := []) fun _ h => nomatch h) (row_shaped _) (row_shaped [])) ha (d_tup da_nil)).as (by
    rw [rowD_eqv]
    exact decide_eq_decide.mpr ⟨fun e => List.map_eq_nil_iff.mp e, fun e => by rw [e]; rfl⟩)
structure OkStgLot (n : Nat) (l : List Nat) : Prop where
  lot : OkLot n l
  ne : l ≠ []
def withinStg (ss : List Stg) : List Nat := ss.flatMap fun q => q.2
structure OkStgs (y : Wk) (ss : List Stg) : Prop where
  few : ss.length < 1000
  name : ∀ q ∈ ss, OkName q.1
  lot : ∀ q ∈ ss, OkStgLot y.2.length q.2
  nd : (ss.map (·.1)).Nodup
  dis : (withinStg ss).Nodup
  apart : ∀ q ∈ ss, q.1 ∉ y.2.map (·.1)
  wlen : (withinStg ss).length < 1000
section
variable {P : Program} {w : World} {K : PySem.W.Frag} {mg : Str → Option Value} {base : Heap}
theorem scIsLotOf : FnScope ["many", "thing", "one", "other"] ["many", "thing"] (defScope sIsLotOf) := ⟨rfl, rfl, rfl, by decide +kernel, rfl, by decide +kernel, by decide +kernel⟩
theorem is_lot_of_ok (T : Txt w K mg) : Fok P w K mg base 3 "is_lot_of" ["many", "thing"] (spF (α := Nat × List Nat) (fun q => OkStgLot q.1 q.2) (fun q => [aInt (q.1 : Int), aLot K q.2]) (fun _ => aBl true)) := by
  refine fok_of T.f_IsLotOf T.g_is_lot_of scIsLotOf (fun _ => rfl) (fun _ F => F.bindsN fun _ _ _ _ _ _ us hl => match us, hl with | [_, _], _ => rfl) fun y hy cdv A outer s H E hr => ?_
  have hN := scIsLotOf.nd
  obtain ⟨n, l⟩ := y
  have len : l.length < 1000 := hy.lot.len
  have lt : ∀ p ∈ l, p < n := hy.lot.lt
  refine ds_ifF (dt_or3 (dt_nisT "tuple" "tuple" true T.b_isinstance T.b_tuple (d_v 1) ist_tup) (fun _ => dt_emptyL hr (d_v 1)) fun _ _ => dt_not (dt_val (d_allC (f := fun p : Int => withinB (p, 0, (n : Int) - 1)) [("one", 2)] T.b_all hN (blkOk_by (by kernel_rfl)) (di_tup (xs := lI l) (d_v 1)) (fun _ _ _ _ _ c _ => dg_name 2 hN)
    (fun _ _ _ _ _ c _ => d_call (is_within_ok T) hr (c, 0, (n : Int) - 1) trivial (da_cons (d_v 2) (da_cons d_int (da1 (d_sub (d_v 0) d_int))))) (by rw [lI_len]; omega)))) ?_ ?_
  · rw [decide_eq_false hy.ne, show ((lI l).all fun p : Int => withinB (p, 0, (n : Int) - 1)) = true from List.all_eq_true.mpr fun c hc => by
      obtain ⟨p, hp, rfl⟩ := List.mem_map.mp hc
      exact within_lt (lt p hp)]
    rfl
  refine ds_ret (d_allC (f := fun q : Int × Int => decide (q.1 < q.2)) [("one", 2), ("other", 3)] T.b_all hN (blkOk_by (by kernel_rfl)) (di_zipT (xs := lI l) (ys := (lI l).drop 1) (P := aInt) (P' := aInt) T.b_zip (d_v 1) ((d_slDrop1 (d_v 1)).as (by rw [List.map_drop])))
    (fun _ _ _ _ _ c _ => dg_two 2 3 rfl hN) (fun _ _ _ _ _ c _ => d_lt (d_v 2) (d_v 3)) (by rw [List.length_zip, lI_len]; omega)) (Imp.of (by rw [up_zip hy.lot.up]))
theorem scSeenOf : FnScope ["work", "seen", "names", "name", "many"] ["work", "seen"] (defScope sSeenOf) := ⟨rfl, rfl, rfl, by decide +kernel, rfl, by decide +kernel, by decide +kernel⟩
theorem seen_of_ok (T : Txt w K mg) : Fok P w K mg base 2 "seen_of" ["work", "seen"] (spF (α := Wk) (fun y => y.1.length < 1000) (fun y => [aWk K y, aTup K []]) (fun _ => aLst [])) := by
  refine fok_of T.f_SeenOf T.g_seen_of scSeenOf (fun _ => rfl) (fun _ F => F.bindsN fun _ _ _ _ _ _ us hl => match us, hl with | [_, _], _ => rfl) fun y hy cdv A outer s H E hr => ?_
  have hN := scSeenOf.nd
  have few : y.1.length < 1000 := hy
  refine ds_if (M := fun ρ => ρ = [.v (aWk K y), .v (aLst []), .no, .no, .no]) (b := true) (dt_val (d_isT "tuple" "tuple" true T.b_isinstance T.b_tuple (d_v 1) ist_tup)) (fun _ => ds_set 1 hN (dn_listT T.b_list (d_v 1)).de (ds_nil rfl)) (fun e => nomatch e) fun ρ' e => ?_
  subst e
  refine ds_set 2 hN (d_map (xs := y.1) (P := aWire K) (Ps := fun q => [aStr q.1, aInt (q.2 : Int)]) (F := fun q => aStr q.1) [("name", 3), ("many", 4)] hN (blkOk_by (by kernel_rfl)) (di_list (d_meth (m_wires T) T.cl hr y trivial (d_v 0) rfl)) (fun _ _ _ _ _ c _ => dg_two 3 4 rfl hN) (fun _ _ _ _ _ c _ => d_v 3) (by omega)) ?_
  refine ds_ifF (dt_or2 (dt_nisT "list" "list" true T.b_isinstance T.b_list (d_v 1) ist_lst) fun _ => dt_not (dt_val (d_allC (α := Str) (xs := []) (P := aStr) (Ps := fun z => [aStr z]) (f := fun _ => true) [("name", 3)] T.b_all hN (blkOk_by (by kernel_rfl)) (di_list (d_v 1)) (fun _ _ _ _ _ c _ => dg_name 3 hN) (fun _ _ _ _ _ c hc => nomatch hc) (by decide)))) rfl ?_
  refine ds_ifF (dt_neV (x := V.int 0) (y := V.int 0) rfl (d_lenSet0 rfl T.b_len T.b_set (d_v 1)) (d_lenL (Ps := []) T.b_len (d_v 1))) (by decide) ?_
  exact ds_ret (d_v 1) Imp.rfl'
theorem stg_fresh {ss : List Stg} (nd : (withinStg ss).Nodup) {i : Nat} {q : Stg} (h : ss[i]? = some q) : ∀ p ∈ q.2, p ∉ withinStg (ss.take i) := fun p hp hm => by
  have hi := (List.getElem?_eq_some_iff.mp h).1
  have e : ss = ss.take i ++ (q :: ss.drop (i + 1)) := by
    conv => lhs; rw [← List.take_append_drop i ss]
    rw [List.drop_eq_getElem_cons hi, (List.getElem?_eq_some_iff.mp h).2]
  unfold withinStg at nd hm
  rw [e, List.flatMap_append, List.flatMap_cons] at nd
  exact (List.nodup_append.mp nd).2.2 p hm p (List.mem_append_left _ hp) rfl
theorem scLookAtStages : FnScope ["work", "stages", "number", "one", "taken", "name", "lot", "part", "within", "left", "ties"] ["work", "stages"] (defScope sLookAtStages) := ⟨rfl, rfl, rfl, by decide +kernel, rfl, by decide +kernel, by decide +kernel⟩
theorem look_at_stages_ok (T : Txt w K mg) : Fok P w K mg base 4 "look_at_stages" ["work", "stages"] (spF (α := Wk × List Stg) (fun q => OkStgs q.1 q.2 ∧ q.1.2.length < 1000) (fun q => [aWk K q.1, aLst (q.2.map (aStg K))]) (fun _ => aNon)) := by
  refine fok_of T.f_LookAtStages T.g_look_at_stages scLookAtStages (fun _ => rfl) (fun _ F => F.bindsN fun _ _ _ _ _ _ us hl => match us, hl with | [_, _], _ => rfl) fun y hy cdv A outer s H E hr => ?_
  have hN := scLookAtStages.nd
  obtain ⟨y, ss⟩ := y
  obtain ⟨ok, few⟩ := hy
  have few' : y.2.length < 1000 := few
  have hz : ss.length < 1000 := ok.few
  have hz2 : (withinStg ss).length < 1000 := ok.wlen
  have flat : ∀ l : List Stg, (l.flatMap fun q => (lI q.2).map aInt) = (lI (withinStg l)).map aInt := fun l => by
    unfold lI withinStg
    induction l with
    | nil => rfl
    | cons a r ih => rw [List.flatMap_cons, List.flatMap_cons, List.map_append, List.map_append, ih]
  have flen : ∀ l : List Stg, (l.flatMap fun q => lI q.2).length = (withinStg l).length := fun l => by
    have := congrArg List.length (flat l)
    rw [List.length_map, lI_len] at this
    rw [← this]
    induction l with
    | nil => rfl
    | cons a r ih => rw [List.flatMap_cons, List.flatMap_cons, List.length_append, List.length_append, List.length_map, ← ih (by rw [flat, List.length_map, lI_len])]
  refine ds_ifF (dt_nisT "list" "list" true T.b_isinstance T.b_list (d_v 1) ist_lst) rfl ?_
  refine ds_for (α := Stg × Nat) (xs := ss.zipIdx) (Pt := fun q => aTup K [aInt (q.2 : Int), aStg K q.1]) (is := [2, 3]) (Ts := fun q => [aInt (q.2 : Int), aStg K q.1]) (fun i ρ => ∃ Z1 Z2 Z3, ρ = [.v (aWk K y), .v (aLst (ss.map (aStg K))), Z1, Z2, Z3, .no, .no, .no, .no, .no, .no]) (fun _ _ h => False.elim h) rfl (di_enum T.b_enumerate (d_v 1)) ⟨.no, .no, .no, rfl⟩ (fun n _ => dg_two 2 3 rfl hN) (fun i n hn ρ' ⟨Z1, Z2, Z3, e⟩ => ?_) (fun ρ' ⟨Z1, Z2, Z3, e⟩ => ?_) (fun _ _ => rfl)
  · subst e
    obtain ⟨hn1, hn2⟩ := zipIdx_at hn
    have hm := List.mem_of_getElem? hn1
    have hi : i < ss.length := (List.getElem?_eq_some_iff.mp hn1).1
    refine ds_ifF (dt_or4 (dt_nisT "tuple" "tuple" true T.b_isinstance T.b_tuple (d_v 3) ist_tup) (fun _ => dt_neV rfl (d_lenT (Ps := [aStr n.1.1, aLotH n.1.2]) T.b_len (d_v 3)) d_int) (fun _ _ => dt_not (dt_val (d_cl (is_name_ok T) hr n.1.1 (ok.name _ hm) (da1 (d_ixT (Ps := [aStr n.1.1, aLotH n.1.2]) 0 (d_v 3) d_int))))) fun _ _ _ => dt_not (dt_val (d_cl (is_lot_of_ok T) hr (y.2.length, n.1.2) (ok.lot _ hm) (da2 (d_len (k := 0) T (hr.mono (by decide)) few' (d_v 0)) ((d_ixT (Ps := [aStr n.1.1, aLotH n.1.2]) 1 (d_v 3) d_int).imp lotH_lot))))) rfl ?_
    have hsub : ((ss.take n.2).flatMap fun q => lI q.2).length < 1000000 := by
      rw [flen]
      have : (withinStg (ss.take n.2)).length ≤ (withinStg ss).length := by
        conv => rhs; rw [← List.take_append_drop n.2 ss]
        unfold withinStg
        rw [List.flatMap_append, List.length_append]
        omega
      omega
    refine ds_set 4 hN (dn_lc2 (xs := ss.take n.2) (P := aStg K) (is := [5, 6]) (Ps := fun q => [aStr q.1, aLotH q.2]) (ys := fun q => lI q.2) (P1 := fun _ p => aInt p) (is1 := [7]) (Ps1 := fun _ p => [aInt p]) (F := fun _ p => aInt p) [("name", 5), ("lot", 6), ("part", 7)] [7] rfl hN (blkOk_by (by kernel_rfl)) (di_list ((dn_slTake n.2 (d_v 1) (d_v 2)).de.as (by rw [List.map_take]))) (fun _ _ _ _ _ c _ => dg_two 5 6 rfl hN) (fun _ _ _ _ _ c _ => di_tup ((d_v 6 (P := aLotH c.2)).imp lotH_lot)) (fun _ _ _ _ _ c _ z _ => dg_name 7 hN) (fun _ _ _ _ _ c _ z _ => d_v 7) hsub).de ?_
    rw [flat]
    refine ds_ifF (dt_or2 (dt_inSL (z := n.1.1) (ys := (ss.take n.2).map (·.1)) (d_ixT (Ps := [aStr n.1.1, aLotH n.1.2]) 0 (d_v 3) d_int) ((d_map (xs := ss.take n.2) (P := aStg K) (F := fun q => aStr q.1) [("name", 5), ("lot", 6)] hN (blkOk_by (by kernel_rfl)) (di_list ((dn_slTake n.2 (d_v 1) (d_v 2)).de.as (by rw [List.map_take]))) (fun _ _ _ _ _ c _ => dg_two 5 6 rfl hN) (fun _ _ _ _ _ c _ => d_v 5) (by rw [List.length_take]; omega)).as (by rw [List.map_map]; rfl)))
      fun _ => dt_val (d_anyC (xs := lI n.1.2) (P := aInt) (f := fun p => decide (p ∈ lI (withinStg (ss.take n.2)))) [("part", 7)] T.b_any hN (blkOk_by (by kernel_rfl)) (di_tup ((d_ixT (P := aLotH n.1.2) (Ps := [aStr n.1.1, aLotH n.1.2]) 1 (d_v 3) d_int).imp lotH_lot)) (fun _ _ _ _ _ c _ => dg_name 7 hN) (fun _ _ _ _ _ c _ => d_inIL (d_v 7) (d_v 4)) (by rw [lI_len]; have := (ok.lot _ hm).lot.len; omega))) ?_ (ds_nil ⟨_, _, _, rfl⟩)
    rw [hn2, decide_eq_false (fresh_at ok.nd hn1), Bool.false_or]
    exact List.any_eq_false.mpr fun c hc => by
      obtain ⟨p, hp, rfl⟩ := List.mem_map.mp hc
      simpa [lI_mem] using stg_fresh ok.dis hn1 p hp
  · subst e
    refine ds_set 8 hN (dn_lc2 (xs := ss) (P := aStg K) (is := [5, 6]) (Ps := fun q => [aStr q.1, aLotH q.2]) (ys := fun q => lI q.2) (P1 := fun _ p => aInt p) (is1 := [7]) (Ps1 := fun _ p => [aInt p]) (F := fun _ p => aInt p) [("name", 5), ("lot", 6), ("part", 7)] [7] rfl hN (blkOk_by (by kernel_rfl)) (di_list (d_v 1)) (fun _ _ _ _ _ c _ => dg_two 5 6 rfl hN) (fun _ _ _ _ _ c _ => di_tup ((d_v 6 (P := aLotH c.2)).imp lotH_lot)) (fun _ _ _ _ _ c _ z _ => dg_name 7 hN) (fun _ _ _ _ _ c _ z _ => d_v 7) (by rw [flen]; omega)).de ?_
    rw [flat]
    refine ds_setFil 9 (xs := y.2.zipIdx) (Pt := fun q => aTup K [aInt (q.2 : Int), aPart K q.1]) (is := [7, 5, 10]) (Ts := fun q => [aInt (q.2 : Int), aStr q.1.1, aLst (q.1.2.map (aTie K))]) (b := fun q => !decide (q.2 ∈ withinStg ss)) (F := fun q => aStr q.1.1) [("part", 7), ("name", 5), ("ties", 10)] hN (blkOk_by (by kernel_rfl))
      (di_enum T.b_enumerate (d_meth (m_parts T) T.cl hr y few' (d_v 0) rfl)) (fun _ _ _ _ _ c _ => dg_tup rfl (dgs_cons (dg_name 7 hN) (dgs_cons (dg_two 5 10 rfl hN) dgs_nil))) (fun _ _ _ _ _ c _ => (dt_ninIL (ks := lI (withinStg ss)) (d_v 7) (d_v 8)).as (by rw [decide_eq_decide.mpr lI_mem])) (fun _ _ _ _ _ c _ _ => d_v 5) (by rw [List.length_zipIdx]; omega) ?_
    refine ds_for (α := Stg × Nat) (xs := ss.zipIdx) (Pt := fun q => aTup K [aInt (q.2 : Int), aStg K q.1]) (is := [2, 5, 6]) (Ts := fun q => [aInt (q.2 : Int), aStr q.1.1, aLotH q.1.2]) (fun i ρ => ∃ Z2 Z3 Z4 Z5 Z6 Z7 Z8, ρ = [.v (aWk K y), .v (aLst (ss.map (aStg K))), Z2, Z3, Z4, Z5, Z6, Z7, Z8, .v (aLst ((y.2.zipIdx.filter fun q => !decide (q.2 ∈ withinStg ss)).map fun q => aStr q.1.1)), .no]) (fun _ _ h => False.elim h) rfl (di_enum T.b_enumerate (d_v 1)) ⟨_, _, _, _, _, _, _, rfl⟩
      (fun n _ => dg_tup rfl (dgs_cons (dg_name 2 hN) (dgs_cons (dg_two 5 6 rfl hN) dgs_nil))) (fun i n hn ρ' ⟨Z2, Z3, Z4, Z5, Z6, Z7, Z8, e⟩ => ?_) (fun ρ' ⟨Z2, Z3, Z4, Z5, Z6, Z7, Z8, e⟩ => ds_nil rfl) (fun _ _ => rfl)
    subst e
    have hm := List.mem_of_getElem? (zipIdx_at hn).1
    refine ds_ifF (dt_inSL (z := n.1.1) (ys := (y.2.zipIdx.filter fun q => !decide (q.2 ∈ withinStg ss)).map fun q => q.1.1) (d_v 5) ((d_v 9 (P := aLst _)).as (by rw [List.map_map]; rfl))) (decide_eq_false fun hc => ?_) (ds_nil ⟨_, _, _, _, _, _, _, rfl⟩)
    obtain ⟨q, hq, e⟩ := List.mem_map.mp hc
    have hq1 := (List.mem_filter.mp hq).1
    obtain ⟨j, hj, ej⟩ := List.mem_iff_getElem.mp hq1
    have := (zipIdx_at (i := j) (q := q) (by rw [List.getElem?_eq_getElem hj, ej])).1
    exact ok.apart _ hm (List.mem_map.mpr ⟨q.1, List.mem_of_getElem? this, e⟩)
end
end Lb
set_option Elab.async false
set_option linter.all false
set_option maxRecDepth 100000
set_option maxHeartbeats 4000000
/-! dict comprehensions of one clause with any keys, of three clauses -/
namespace Da
open PySem PySem.Spec PyProof.Rows L2
/-- k: v goes into the dict; again -/
def emitD (e kx vx : Expr) (d : Nat) (it : Value) (D : Addr) (env : Env) : Sem Fin := do
  (do
    let kv ← eval kx env
    let vv ← holding [kv] (eval vx env)
    standAt { kx.pos with endLine := vx.pos.endLine, endCol := vx.pos.endCol }
    holding [kv, vv] (dictSet D kv vv))
  again (.compLoop e d it (.ref D) env)
/-- the next clause's loop; again -/
def nextD (e : Expr) (d : Nat) (i : Expr) (it acc : Value) (env : Env) : Sem Fin := do
  let x ← eval i env
  standAt i.pos
  let x ← foldedSetIterable i env x
  let _ ← runOwn (.compStart e (d + 1) (← holding [x] (pyIter x)) acc env) env
  again (.compLoop e d it acc env)
/-- a turn without tests -/
def turnD (tg : Expr) (p : Pos) (it : Value) (rest : Sem Fin) (env : Env) : Sem Fin := do
  standAt p
  match ← pyNext it with
  | none => pure (.done .next)
  | some v =>
    letOwnedTupleGo tg it v
    assign tg env v
    rest
section
variable (kx vx t0 i0 t1 i1 t2 i2 : Expr) (scope : Scope) (pos : Pos) (it : Value) (D : Addr) (env : Env)
abbrev dc1 : Expr := .DictComp kx vx [⟨t0, i0, [], 0⟩] scope pos
abbrev dc3 : Expr := .DictComp kx vx [⟨t0, i0, [], 0⟩, ⟨t1, i1, [], 0⟩, ⟨t2, i2, [], 0⟩] scope pos
theorem turn1 : compTurn (dc1 kx vx t0 i0 scope pos) 0 it (.ref D) env = turnD t0 i0.pos it (emitD (dc1 kx vx t0 i0 scope pos) kx vx 0 it D env) env := by rfl
theorem turn3_0 : compTurn (dc3 kx vx t0 i0 t1 i1 t2 i2 scope pos) 0 it (.ref D) env = turnD t0 i0.pos it (nextD (dc3 kx vx t0 i0 t1 i1 t2 i2 scope pos) 0 i1 it (.ref D) env) env := by rfl
theorem turn3_1 : compTurn (dc3 kx vx t0 i0 t1 i1 t2 i2 scope pos) 1 it (.ref D) env = turnD t1 i1.pos it (nextD (dc3 kx vx t0 i0 t1 i1 t2 i2 scope pos) 1 i2 it (.ref D) env) env := by rfl
theorem turn3_2 : compTurn (dc3 kx vx t0 i0 t1 i1 t2 i2 scope pos) 2 it (.ref D) env = turnD t2 i2.pos it (emitD (dc3 kx vx t0 i0 t1 i1 t2 i2 scope pos) kx vx 2 it D env) env := by rfl
end
/-- what a loop over J reaches: tb is one turn behind the target's store, towards what is wanted behind it -/
def tLp (J : It) (g : TG) (tb : L2.St → Hp → (Hp → Prop) → Prop) (vs : List Nat) (σ : L2.St) (H : Hp) (Fin : Hp → Prop) : Prop := ∃ W : Nat → Nat → Hp → Prop, (∃ m, W 0 m H) ∧ ∀ i m H, W i m H →
  (J.stop i H ∧ Fin H) ∨ (J.go i H ∧ ∃ Nx : Hp → Prop, (∀ H', Nx H' → ∃ m', m' < m ∧ W (i + 1) m' H') ∧ ∀ x H', J.yld i H x H' → g x (wipe σ vs) H' fun σ2 H2 => wipe σ2 vs = wipe σ vs ∧ tb σ2 H2 Nx)
section
variable {Y : Cx} {e : Expr} {d : Nat} {D it : Addr} {tg : Expr} {J : It} {fp : List Addr} {tn : Nat → Heap → Prop} {g : TG} {p : Pos} {rest : Sem Fin} {tb : L2.St → Hp → (Hp → Prop) → Prop} {vs : List Nat} {R : Result → Shared → Prop} {pins : List (Addr × Obj)} {s : Shared} {σ : L2.St} {H : Hp} {Fn : Hp → Prop}
/-- behind a turn's body: again, the block's names forgotten -/
def Again (Y : Cx) (pins : List (Addr × Obj)) (e : Expr) (d : Nat) (it D : Addr) (vs : List Nat) (σ : L2.St) (Fn : Hp → Prop) (f : Fin) (s : Shared) : Prop := f = .again (.compLoop e d (.ref it) (.ref D) Y.env) ∧ ∃ H', Inv Y pins (wipe σ vs) H' s ∧ Fn H'
theorem dloop (hc : Y.calm = true) (hx : Y.xe = fun _ _ => False) (T : Turn Y.prog Y.w Y.K tg J fp it tn) (pg : PG Y tg g) (eq : compTurn e d (.ref it) (.ref D) Y.env = turnD tg p (.ref it) rest Y.env)
    (hden : ∀ Q E s, wpAny (model Y.prog Y.w) Y.A ((compTurn e d (.ref it) (.ref D) Y.env).onRaise (fun x => do noteFrame x Y.env; theTreesLotGoes x)) Q E s → wpAny (model Y.prog Y.w) (Y.A.under (.compLoop e d (.ref it) (.ref D) Y.env)) ((model Y.prog Y.w).den (.compLoop e d (.ref it) (.ref D) Y.env)) Q E s)
    (hb : ∀ pins s σ H (Fn : Hp → Prop), Inv Y pins σ H s → tb σ H Fn → wpAny (model Y.prog Y.w) Y.A rest (Again Y pins e d it D vs σ Fn) (fun _ _ => False) s)
    (I : Inv Y pins σ H s) (hf : ∀ b ∈ fp, FpOk Y pins H b) (st : tn 0 s.heap) (h : tLp J g tb vs σ H Fn) (fin : ∀ s' H', Inv Y pins (wipe σ vs) H' s' → Fn H' → R (.ok .next) s') :
    codeAny (model Y.prog Y.w) Y.A (.compLoop e d (.ref it) (.ref D) Y.env) R s := by
  obtain ⟨W, ⟨m0, w0⟩, turn⟩ := h
  refine codeAny_loop rfl (fun n s' => ∃ i H', Inv Y pins (wipe σ vs) H' s' ∧ tn i s'.heap ∧ (∀ b ∈ fp, H' b = none) ∧ W i n H') (fun n s5 hI => ?_) m0 ⟨0, H, I.weak (wipe_length _ _) (fun j v e => (wipe_some e).1), st, fun b hb => (hf b hb).1, w0⟩
  obtain ⟨i, H5, I5, st5, n5, w5⟩ := hI
  refine hden _ _ _ (wpAny_noted ?_)
  rw [eq]
  unfold turnD
  refine wpAny_bind (wpAny_standAt (wpAny_bind ?_))
  have stat : ∀ {H' : Hp}, (∀ b ∈ fp, H' b = none) → ∀ b ∈ fp, FpOk Y pins H' b := fun hn b hb => ⟨hn b hb, (hf b hb).2⟩
  rcases turn i n H5 w5 with ⟨stop, qq⟩ | ⟨go, Nx, hNx, step⟩
  · refine thnF (T.done Y rfl rfl rfl hc i pins s5 _ H5 (fun _ _ => False) I5 (stat n5) st5 stop) fun r s6 ⟨hr, I6⟩ => ?_
    subst hr
    exact wpAny_pure (fin s6 H5 I6 qq)
  · refine thnF (T.item Y rfl rfl rfl hc i pins s5 _ H5 (fun _ _ => False) I5 (stat n5) st5 go) fun r s6 ⟨u, hr, h6⟩ => ?_
    subst hr
    refine wpAny_bind (thnF h6 fun _ s7 ⟨x, H7, I7, r7, y7, st7, n7⟩ => ?_)
    have I7' := I7.pinned (stat n7) (T.obj _ _ st7)
    have pr := pg.run _ s7 _ H7 x u _ I7' r7 (step x H7 y7)
    rw [hx] at pr
    refine wpAny_bind (thnF pr fun _ s8 ⟨σ8, H8, I8, hw8, q8⟩ => ?_)
    refine thnF (hb _ s8 σ8 H8 Nx I8 q8) fun f s9 ⟨ef, H9, I9, nx⟩ => ?_
    subst ef
    obtain ⟨m', hm, w'⟩ := hNx H9 nx
    rw [hw8] at I9
    have pin' : ∀ b ∈ fp, ∀ o, s7.heap.get? b = some o → s9.heap.get? b = some o ∧ H9 b = none := fun b hb o e =>
      let z := I9.pin (b, o) (List.mem_append_right _ (List.mem_append_right _ (mem_pinsAt hb e)))
      ⟨z.1, z.2.1⟩
    refine ⟨rfl, m', hm, i + 1, H9, I9.unpinned, T.keep _ _ _ st7 fun b hb o e => (pin' b hb o e).1, fun b hb => ?_, w'⟩
    obtain ⟨o, e, _⟩ := T.obj _ _ st7 b hb
    exact (pin' b hb o e).2
/-- the dict's own put, keys of both kinds -/
theorem dict_put {X : Cx} {pins : List (Addr × Obj)} {σ : L2.St} {H H' : Hp} {s : Shared} {A : Around} {E : Value → Shared → Prop} {a : Addr} {y v : V} {u r : Value} {Q : Unit → Shared → Prop} (hu : A.units + 1 < cLine) (I : Inv X pins σ H s) (g : DPut H a y v H') (ry : RelV y u) (rv : RelV v r) (h : ∀ s', Inv X pins σ H' s' → Q () s') :
    wpAny (model X.prog X.w) A (dictSet a u r) Q E s := by
  rcases g with ⟨kvs, k, e, ey, l, eH⟩ | ⟨kvs, k, b, e, ey, eb, l, eH⟩
  · subst ey eH
    obtain ⟨z, hd, vs, rel, dd⟩ := dk_of I.hok e
    have hl : (putK kvs k v).length ≤ sizeLine := Nat.le_trans (length_putK kvs k v) l
    refine wpAny_dictSet_pairs (hsz := by rw [← rel.length]; exact z) (kV_is ry) dd fun h' dd' hs => h _ ?_
    exact d_write I (by rw [e]; exact True.intro) hs (let ⟨q, _, _, hq, _⟩ := dd'; ⟨q, hq⟩) (dk_new hl hd (rel.put k rv) dd')
  · subst ey eH
    obtain rfl : u = Value.ref b := ry
    obtain ⟨z, hd, xs, rel, dd⟩ := dt_of I.hok e
    have hl : (putK kvs k v).length ≤ sizeLine := Nat.le_trans (length_putK kvs k v) l
    refine wpAny_dictSet_heap (hsz := by rw [← Paired.length rel]; exact z) (show A.units < cLine by omega) (key_of I.hok eb) dd fun h' dd' hs => h _ ?_
    obtain ⟨q, es, ep, hq, h2, h3, h4, _, h5⟩ := dd'
    refine d_write I (by rw [e]; exact True.intro) hs ⟨q, hq⟩ ⟨hl, hd, _, (rel.put k eb rv).keeps fun c ys ec => ?_, q, es, ep, hq, h2, h3, h4, h5⟩
    rw [upd_ne (ne_of ec e (fun z => nomatch z))]
    exact ec
/-- k: v goes into the dict at D -/
def tPut (tk tv : TE) (D : Addr) (σ : L2.St) (H : Hp) (Fn : Hp → Prop) : Prop := tk σ H fun y H1 => tv σ H1 fun z H2 => ∃ H3, DPut H2 D y z H3 ∧ Fn H3
theorem put_body (hx : Y.xe = fun _ _ => False) (hu : Y.A.units + 1 < cLine) {kx vx : Expr} {tk tv : TE} (pk : PE Y kx tk) (pv : PE Y vx tv) (pins : List (Addr × Obj)) (s : Shared) (σ : L2.St) (H : Hp) (Fn : Hp → Prop) (I : Inv Y pins σ H s) (h : tPut tk tv D σ H Fn) : wpAny (model Y.prog Y.w) Y.A (emitD e kx vx d (.ref it) D Y.env) (Again Y pins e d it D vs σ Fn) (fun _ _ => False) s := by
  have a1 := pk.run pins s σ H _ I h
  rw [hx] at a1
  unfold emitD
  refine wpAny_bind (wpAny_bind (thnF a1 fun kv s1 ⟨y, H1, I1, r1, q1⟩ => wpAny_bind (wpAny_holding ?_)))
  have a2 := pv.run pins s1 σ H1 _ I1 q1
  rw [hx] at a2
  refine thnF a2 fun vv s2 ⟨z, H2, I2, r2, H3, g, q2⟩ => wpAny_bind (wpAny_standAt (wpAny_holding ?_))
  exact dict_put hu I2 g r1 r2 fun s3 I3 => wpAny_pure ⟨rfl, H3, I3.weak (wipe_length _ _) (fun j v e => (wipe_some e).1), q2⟩
/-- the next clause -/
def tNext (wi : TI) (g : TG) (tb : L2.St → Hp → (Hp → Prop) → Prop) (vs : List Nat) (σ : L2.St) (H : Hp) (Fn : Hp → Prop) : Prop := wi σ H fun J H1 => tLp J g tb vs σ H1 Fn
theorem comp_start {P : Program} {w : World} {A : Around} {R : Result → Shared → Prop} {s : Shared} {e : Expr} {d : Nat} {it acc : Value} {env : Env} {c : Comprehension} (hcl : (clausesOf e)[d]? = some c) (ha : c.is_async = 0) (hq : ∀ it, (Code.compLoop e d it acc env).quiet = true)
    (hden : ∀ Q E s, wpAny (model P w) A ((compStart e d it acc env).onRaise (fun x => do noteFrame x env; standAt theWindowsPlace)) Q E s → wpAny (model P w) (A.under (.compStart e d it acc env)) ((model P w).den (.compStart e d it acc env)) Q E s)
    (h0 : codeAny (model P w) A (.compLoop e d it acc env) R s) (h : wpAny (model P w) A (pyIter it) (fun it' s' => codeAny (model P w) A (.compLoop e d it' acc env) R s') (fun _ _ => False) s) : codeAny (model P w) A (.compStart e d it acc env) R s := by
  refine codeAny_of_tree (hden _ _ _ (wpAny_notedAt ?_))
  unfold compStart
  rw [hcl]
  have e0 : (some c).elim false (fun g => g.is_async != 0) = false := by
    show (c.is_async != 0) = false
    rw [ha]
    rfl
  rw [e0]
  show wpAny _ _ (ask >>= _) _ _ s
  refine wpAny_bind (wpAny_askSetting (wpAny_ite ?_))
  split
  · first
      | exact wpAny_bind (wpAny_pure (wpAny_pure (And.intro (hq _) h0)))
      | exact wpAny_pure (And.intro (hq _) h0)
  · refine wpAny_bind (wpAny_rule ?_)
    show wpAny _ _ (standAt c.iter.pos >>= _) _ _ s
    exact wpAny_bind (wpAny_standAt (wpAny_bind (wpAny_mono h (fun it' s' h' => wpAny_pure (And.intro (hq _) h')) fun _ _ x => x.elim)))
theorem next_body (hc : Y.calm = true) (hx : Y.xe = fun _ _ => False) {tg1 i1 : Expr} {p1 : Pos} {wi : TI} {g1 : TG} {tb1 : L2.St → Hp → (Hp → Prop) → Prop} {rest1 : Addr → Sem Fin} {c : Comprehension} (pi : PI Y tg1 i1 wi) (pg1 : PG Y tg1 g1) (hs1 : ∀ x, foldedSetIterable i1 Y.env x = pure x)
    (hcl : (clausesOf e)[d + 1]? = some c) (ha : c.is_async = 0) (hq : ∀ it, (Code.compLoop e (d + 1) it (.ref D) Y.env).quiet = true)
    (hdenS : ∀ it Q E s, wpAny (model Y.prog Y.w) Y.A ((compStart e (d + 1) it (.ref D) Y.env).onRaise (fun x => do noteFrame x Y.env; standAt theWindowsPlace)) Q E s → wpAny (model Y.prog Y.w) (Y.A.under (.compStart e (d + 1) it (.ref D) Y.env)) ((model Y.prog Y.w).den (.compStart e (d + 1) it (.ref D) Y.env)) Q E s)
    (hden1 : ∀ it Q E s, wpAny (model Y.prog Y.w) Y.A ((compTurn e (d + 1) (.ref it) (.ref D) Y.env).onRaise (fun x => do noteFrame x Y.env; theTreesLotGoes x)) Q E s → wpAny (model Y.prog Y.w) (Y.A.under (.compLoop e (d + 1) (.ref it) (.ref D) Y.env)) ((model Y.prog Y.w).den (.compLoop e (d + 1) (.ref it) (.ref D) Y.env)) Q E s)
    (eq1 : ∀ it, compTurn e (d + 1) (.ref it) (.ref D) Y.env = turnD tg1 p1 (.ref it) (rest1 it) Y.env) (hb1 : ∀ it pins s σ H (Fn : Hp → Prop), Inv Y pins σ H s → tb1 σ H Fn → wpAny (model Y.prog Y.w) Y.A (rest1 it) (Again Y pins e (d + 1) it D vs σ Fn) (fun _ _ => False) s)
    (pins : List (Addr × Obj)) (s : Shared) (σ : L2.St) (H : Hp) (Fn : Hp → Prop) (I : Inv Y pins σ H s) (h : tNext wi g1 tb1 vs σ H Fn) : wpAny (model Y.prog Y.w) Y.A (nextD e d i1 (.ref it) (.ref D) Y.env) (Again Y pins e d it D vs σ Fn) (fun _ _ => False) s := by
  have a1 := pi.run pins s σ H _ I h
  rw [hx] at a1
  unfold nextD
  refine wpAny_bind (thnF a1 fun xv s1 h1 => wpAny_bind (wpAny_standAt (wpAny_bind (wpAny_of_eq (hs1 xv) (wpAny_bind (wpAny_holding (thnF h1 fun itv s2 h2 => ?_)))))))
  obtain ⟨it1, fp1, tn1, J1, H1, e1, I1, T1, st1, f1, q1⟩ := h2
  subst e1
  refine wpAny_bind (wpAny_runOwn ?_)
  rw [Around.mark_none]
  have loop1 : codeAny (model Y.prog Y.w) Y.A (.compLoop e (d + 1) (.ref it1) (.ref D) Y.env) (fun r s' => match r with
      | .ok _ => ∃ H', Inv Y pins (wipe σ vs) H' s' ∧ Fn H'
      | .error _ => False) s2 := dloop hc hx T1 pg1 (eq1 it1) (hden1 it1) (hb1 it1) I1 f1 st1 q1 fun s' H' I' hf => ⟨H', I', hf⟩
  refine codeAny_mono (comp_start hcl ha hq (hdenS _) loop1 (T1.self Y.A 0 _ _ _ st1 loop1)) fun r s' hr => ?_
  cases r with
  | ok f => first
    | exact wpAny_pure (wpAny_pure ⟨rfl, hr⟩)
    | exact wpAny_bind (wpAny_pure (wpAny_pure ⟨rfl, hr⟩))
    | exact wpAny_pure ⟨rfl, hr⟩
  | error e => exact hr.elim
end
section
variable {X : Cx} {e iter tg : Expr} {scope : Scope} {pos : Pos} {own : List (Str × Nat)} {wi : TI} {g : TG} {tb : Addr → L2.St → Hp → (Hp → Prop) → Prop} {o0 : HO} {gs : List Comprehension}
/-- a dict comprehension by the body of its first clause -/
theorem pe_dcN (hc : X.calm = true) (hN : X.N.Nodup) (hi : PI X tg iter wi) (ok : BlkOk X.N X.env.scope scope own) (hcl : clausesOf e = ⟨tg, iter, [], 0⟩ :: gs) (hev : eval e X.env = comprehension e scope X.env pos newDict false (eval iter X.env) none)
    (h0 : ∀ (H : Hp) (h : Heap), sysModules < h.objs.size → ObjOk X.prog X.w H (h.push { cls := .type "dict", data := .dict #[] }) h.objs.size o0)
    (hg : InBlk X scope fun Y => PG Y tg g) (rest : Env → Addr → Addr → Sem Fin) (hb : InBlk X scope fun Y => ∀ D it pins s σ H (Fn : Hp → Prop), Inv Y pins σ H s → tb D σ H Fn → wpAny (model Y.prog Y.w) Y.A (rest Y.env D it) (Again Y pins e 0 it D (own.map (·.2)) σ Fn) (fun _ _ => False) s)
    (heq : ∀ env D it, compTurn e 0 (.ref it) (.ref D) env = turnD tg iter.pos (.ref it) (rest env D it) env) (hs : ∀ x, foldedSetIterable iter X.env x = pure x)
    (hden : ∀ A it D env Q E s, wpAny (model X.prog X.w) A ((compTurn e 0 (.ref it) (.ref D) env).onRaise (fun x => do noteFrame x env; theTreesLotGoes x)) Q E s → wpAny (model X.prog X.w) (A.under (.compLoop e 0 (.ref it) (.ref D) env)) ((model X.prog X.w).den (.compLoop e 0 (.ref it) (.ref D) env)) Q E s)
    (hstart : ∀ {A : Around} {R : Result → Shared → Prop} {s : Shared} {it acc : Value} {env : Env}, codeAny (model X.prog X.w) A (.compLoop e 0 it acc env) R s → wpAny (model X.prog X.w) A (pyIter it) (fun it' s' => codeAny (model X.prog X.w) A (.compLoop e 0 it' acc env) R s') (notedBy (model X.prog X.w) A env fun x s' => R (.error x) s') s → codeAny (model X.prog X.w) A (.compStart e 0 it acc env) R s) :
    PE X e (fun σ H Q => wi σ H fun J H1 => ∀ D, H1 D = none → tLp J g (tb D) (own.map (·.2)) σ (upd H1 D o0) fun H' => Q (.ref D) H') := by
  refine ⟨fun pins s σ H Q I h => ?_⟩
  rw [hev]
  have hfree : ∀ y ∈ scope.names, y.2 = .free → ∃ c, X.env.cells.lookup y.1 = some c := fun y hy e => by
    rcases ok.free y hy e with k | k
    · exact I.ok.has _ (.inl k)
    · exact I.ok.has _ (.inr k)
  refine wpAny_comprehension_free (use := none) hcl hs (closure_ok hfree) ok.kind (fun y hy e => by rw [ok.uniq y hy, e]) (thn (hi.run pins s σ H _ I h) fun xv s1 hx => thn hx fun itv s2 h2 => ?_)
  obtain ⟨it, fp, tn, J, H2, ei, I2, T, st2, f2, q⟩ := h2
  subst ei
  refine wpAny_newObj_type (newEnv_comp ?_)
  have hDn : H2 s2.heap.objs.size = none := I2.hok.fresh (Nat.le_refl _)
  have q1 := q _ hDn
  generalize hs3 : ({ s2 with heap := s2.heap.push { cls := .type "dict", data := .dict #[] } } : Shared) = s3
  have I3 : Inv X pins σ (upd H2 s2.heap.objs.size o0) s3 := by
    rw [← hs3]
    exact I2.laid (t' := s2.toks) (fun b o e => Heap.get?_push_of_some _ e) (Nat.le_refl _) (h0 _ s2.heap I2.big)
  have h3 : s3.heap = s2.heap.push { cls := .type "dict", data := .dict #[] } := by rw [← hs3]
  have f3 : ∀ b ∈ fp, FpOk X pins (upd H2 s2.heap.objs.size o0) b ∧ b < s3.heap.objs.size := fun b hb => by
    obtain ⟨o, e, _⟩ := T.obj _ _ st2 b hb
    have hlt := Heap.lt_size e
    refine ⟨⟨?_, (f2 b hb).2⟩, by rw [h3, Heap.size_push]; exact Nat.lt_succ_of_lt hlt⟩
    rw [upd_ne (Nat.ne_of_lt hlt)]
    exact (f2 b hb).1
  have st3 : tn 0 s3.heap := T.keep _ _ _ st2 fun b _ o e => by rw [h3]; exact Heap.get?_push_of_some _ e
  have I4 := block_start I3 ok hN f3
  have pg := hg s3 (upd H2 s2.heap.objs.size o0) s3.heap.objs.size (cellsFrom (s3.heap.objs.size + 1) scope.names (cloFrom X.env.cells scope.names [])) fp
  have pb := hb s3 (upd H2 s2.heap.objs.size o0) s3.heap.objs.size (cellsFrom (s3.heap.objs.size + 1) scope.names (cloFrom X.env.cells scope.names [])) fp
  show codeAny _ _ (.compStart e 0 (.ref it) (.ref s2.heap.objs.size) (compEnvC scope (cellsFrom (s3.heap.objs.size + 1) scope.names (cloFrom X.env.cells scope.names [])) s3.heap.objs.size X.env)) (compPost (model X.prog X.w) X.A X.xe none (EP X pins σ Q) (.ref s2.heap.objs.size) s3.heap.objs.size) { s3 with heap := pushCells (s3.heap.push { cls := .type "dict", data := .dict #[] }) scope.names }
  generalize hce : compEnvC scope (cellsFrom (s3.heap.objs.size + 1) scope.names (cloFrom X.env.cells scope.names [])) s3.heap.objs.size X.env = ce at I4 pg pb ⊢
  have cL : ce.locals = s3.heap.objs.size := by subst hce; rfl
  generalize hs4 : ({ s3 with heap := pushCells (s3.heap.push { cls := .type "dict", data := .dict #[] }) scope.names } : Shared) = s4 at I4 ⊢
  have st4 : tn 0 s4.heap := T.keep _ _ _ st3 fun b _ o e => by rw [← hs4]; exact pushCells_keeps _ _ _ _ (Heap.get?_push_of_some _ e)
  have stat : ∀ b ∈ fp, FpOk (X.blk s3 (upd H2 s2.heap.objs.size o0) scope ce fp) [] (upd H2 s2.heap.objs.size o0) b := fun b hb =>
    ⟨(f3 b hb).1.1, (I4.ok.exf b hb).1, I4.ok.exfs b hb, .inl hb, fun x c e => (I4.ok.exf b hb).2 x c e, fun p hp => absurd (show p ∈ ([] : List (Addr × Obj)) ++ [] from hp) (by simp)⟩
  have loop : codeAny (model X.prog X.w) X.A (.compLoop e 0 (.ref it) (.ref s2.heap.objs.size) ce) (compPost (model X.prog X.w) X.A X.xe none (EP X pins σ Q) (.ref s2.heap.objs.size) s3.heap.objs.size) s4 := by
    refine dloop (Y := X.blk s3 (upd H2 s2.heap.objs.size o0) scope ce fp) (vs := own.map (·.2)) (Fn := fun H' => Q (.ref s2.heap.objs.size) H') hc rfl T pg (heq ce _ _) (hden _ _ _ ce) (pb _ it) I4 stat st4 ?_ fun s6 H5 I6 qq => ?_
    · unfold tLp
      rw [wipe_wipe]
      exact q1
    · have I7 : Inv X pins σ H5 s6 := I3.call' (ch := fp) I6.os I6.base I6.hok I6.bare fun b hb => ⟨(f3 b hb).1.2.2.2.1, (f3 b hb).1.2.1, (f3 b hb).1.2.2.2.2.1, (f3 b hb).1.2.2.2.2.2⟩
      have nC : H5 s3.heap.objs.size = none := by
        have z : H5 ce.locals = none := I6.free
        rw [cL] at z
        exact z
      obtain ⟨m, hn, _⟩ := I6.loc
      have hn : s6.heap.Ns ce.locals m := hn
      rw [cL] at hn
      obtain ⟨k0, k1, k2, k3, k4, k5⟩ := I3.fpOk (Nat.le_refl _) nC
      exact ⟨m, hn, fun h2 sb => ⟨.ref s2.heap.objs.size, H5, I7.turned (t' := s6.toks) (fun b o hb e => (sb.2 b hb).trans e) k0 k1 k3 k4 k5, rfl, qq⟩⟩
  exact hstart loop (T.self X.A 0 _ _ _ st4 loop)
end
/-! ### .. by assertions. St L: what stands at the dict while L has been put -/
section
variable {X : Cx} {scope : Scope} {pl : Option Addr} {μ : Type} {St : List μ → Hp → Hp → Prop} {D : Addr} {own : List (Str × Nat)} {α : Type}
/-- St is told of a state and stays true while no one touches the dict -/
structure StOk (pl : Option Addr) (St : List μ → Hp → Hp → Prop) : Prop where
  gd : ∀ {L H Hc}, St L H Hc → Gd pl H Hc
  step : ∀ {L H Hc H' Hc'}, St L H Hc → Stp pl H Hc H' Hc' → St L H' Hc'
/-- from L on, M more is put -/
def Bod (pl : Option Addr) (St : List μ → Hp → Hp → Prop) (tb : L2.St → Hp → (Hp → Prop) → Prop) (ρ : Rho) (L M : List μ) : Prop := ∀ σ H Hc (Fn : Hp → Prop), St L H Hc → EnvOk pl Hc σ ρ → (∀ H' Hc', St (L ++ M) H' Hc' → Same Hc Hc' → Fn H') → tb σ H Fn
theorem lp_bod {tg : Expr} {J : It} {xs : List α} {P : α → As} {is : List Nat} {Ps : α → List As} {M : α → List μ} {tb : L2.St → Hp → (Hp → Prop) → Prop} {ρ : Rho} {L : List μ} (ok : StOk pl St) (hg : InBlk X scope fun Y => ∀ x ∈ xs, Dg Y tg (P x) is (Ps x)) (hw : ∀ i ∈ is, i ∈ own.map (·.2))
    (hb : ∀ i x, xs[i]? = some x → Bod pl St tb (inR ρ own is (Ps x)) (L ++ (xs.take i).flatMap M) (M x)) {σ : L2.St} {H Hc : Hp} {Fn : Hp → Prop} (s : St L H Hc) (ev : EnvOk pl Hc σ ρ) (y : Yields pl J Hc (xs.map P)) (fin : ∀ H' Hc', St (L ++ xs.flatMap M) H' Hc' → Same Hc Hc' → Fn H') :
    tLp J (gB X scope tg) tb (own.map (·.2)) σ H Fn := by
  refine ⟨fun i m H' => m = xs.length - i ∧ i ≤ xs.length ∧ ∃ Hc', St (L ++ (xs.take i).flatMap M) H' Hc' ∧ Same Hc Hc', ⟨xs.length, by simp, Nat.zero_le _, Hc, by simpa using s, Same.refl _⟩, ?_⟩
  rintro i m H' ⟨rfl, hle, Hc', s', sm⟩
  obtain ⟨y1, y2⟩ := y i H' Hc' sm (ok.gd s')
  by_cases hlt : i < xs.length
  · have hx : xs[i]? = some xs[i] := by simp [hlt]
    have hm : xs[i] ∈ xs := List.getElem_mem hlt
    obtain ⟨go, yl⟩ := y1 (P xs[i]) (by rw [List.getElem?_map, hx]; rfl)
    refine .inr ⟨go, fun H2 => ∃ Hc2, St (L ++ (xs.take (i + 1)).flatMap M) H2 Hc2 ∧ Same Hc Hc2, fun H2 n2 => ⟨xs.length - (i + 1), by omega, rfl, hlt, n2⟩, fun v H3 hv => ?_⟩
    obtain ⟨Hc3, s3, pv⟩ := yl v H3 hv
    intro a1 a2 a3 a4 a5
    refine hg a1 a2 a3 a4 a5 _ hm pl _ H3 Hc3 v s3.gd pv _ fun vs f3 l3 => ⟨(wipe_setAll hw).trans wipe_wipe, ?_⟩
    have ev3 : EnvOk pl Hc3 (setAll (wipe σ (own.map (·.2))) is vs) (inR ρ own is (Ps xs[i])) := EnvOk.setAll ((ev.mono (sm.trans s3.cl)).wipe _) f3 l3
    refine hb i _ hx _ H3 Hc3 _ (ok.step s' s3) ev3 fun H4 Hc4 s4 sm4 => ⟨Hc4, ?_, (sm.trans s3.cl).trans sm4⟩
    rw [take_more hx, List.flatMap_append, List.flatMap_cons, List.flatMap_nil, List.append_nil, ← List.append_assoc]
    exact s4
  · have e : i = xs.length := by omega
    subst e
    rw [List.take_length] at s'
    exact .inl ⟨y2 (by rw [List.length_map]; exact Nat.le_refl _) (by rw [List.length_map]), fin H' Hc' s' sm⟩
theorem bod_next {tg it : Expr} {xs : List α} {P : α → As} {is : List Nat} {Ps : α → List As} {M : α → List μ} {tb : L2.St → Hp → (Hp → Prop) → Prop} {ρ : Rho} {L : List μ} (ok : StOk pl St) (hi : InBlk X scope fun Y => Di Y tg it ρ xs P) (hg : InBlk X scope fun Y => ∀ x ∈ xs, Dg Y tg (P x) is (Ps x)) (hw : ∀ i ∈ is, i ∈ own.map (·.2))
    (hb : ∀ i x, xs[i]? = some x → Bod pl St tb (inR ρ own is (Ps x)) (L ++ (xs.take i).flatMap M) (M x)) : Bod pl St (tNext (iB X scope tg it) (gB X scope tg) tb (own.map (·.2))) ρ L (xs.flatMap M) := fun σ H Hc Fn s ev fin => by
  intro a1 a2 a3 a4 a5
  refine hi a1 a2 a3 a4 a5 pl σ H Hc (ok.gd s) ev _ fun J H1 Hc1 s1 y => ?_
  exact lp_bod ok hg hw hb (ok.step s s1) (ev.mono s1.cl) y fun H' Hc' s' sm => fin H' Hc' s' (s1.cl.trans sm)
end
/-! ### text keys -/
section
variable {X : Cx} {scope : Scope} {pl : Option Addr} {H1 Hc1 : Hp} {D : Addr} {own : List (Str × Nat)}
def StK (pl : Option Addr) (H1 Hc1 : Hp) (D : Addr) (L : List (Str × As)) (H Hc : Hp) : Prop := Stp pl H1 Hc1 H Hc ∧ ∃ ws, H D = some (.dK ws) ∧ Hc D = none ∧ ws.length ≤ L.length ∧ HasF pl Hc ws (dOf L)
theorem stK_ok (hp : pl ≠ some D) : StOk pl (StK pl H1 Hc1 D) := ⟨fun s => s.1.gd, fun ⟨s, ws, h1, h2, h3, h4⟩ t => ⟨s.trans t, ws, t.keep D _ hp h1, t.clean h1 h2, h3, h4.mono t.cl⟩⟩
theorem bod_put {kx vx : Expr} {ρ : Rho} {z : Str} {P : As} {L : List (Str × As)} (hD : H1 D = none) (hp : pl ≠ some D) (hk : InBlk X scope fun Y => De Y kx ρ (aStr z)) (hv : InBlk X scope fun Y => De Y vx ρ P) (hz : L.length < 1000000) : Bod pl (StK pl H1 Hc1 D) (tPut (eB X scope kx) (eB X scope vx) D) ρ L [(z, P)] := fun σ H Hc Fn ⟨s, ws, h1, h2, h3, h4⟩ ev fin => by
  intro a1 a2 a3 a4 a5
  refine hk a1 a2 a3 a4 a5 pl σ H Hc s.gd ev _ fun y H2 Hc2 s2 hy => ?_
  intro b1 b2 b3 b4 b5
  refine hv b1 b2 b3 b4 b5 pl σ H2 Hc2 s2.gd (ev.mono s2.cl) _ fun v H3 Hc3 s3 hvv => ?_
  have s23 := s2.trans s3
  have c3 := s23.clean h1 h2
  have hy' : y = kV (.inr z) := hy
  subst hy'
  refine ⟨_, DPut.k (s23.keep D _ hp h1) (small_of (by omega)), fin _ Hc3 ⟨(s.trans s23).mut hD c3 hp _, _, upd_same, c3, Nat.le_trans (length_putK ..) (by rw [List.length_append, List.length_singleton]; omega), ?_⟩ s23.cl⟩
  rw [dOf_more]
  exact (h4.mono s23.cl).put hvv
theorem take_flat {α β : Type} {xs : List α} {i : Nat} {x : α} (hx : xs[i]? = some x) (A : α → List β) : ((xs.take i).flatMap A).length + (A x).length ≤ (xs.flatMap A).length := by
  have hi := (List.getElem?_eq_some_iff.mp hx).1
  have e : xs = xs.take i ++ (x :: xs.drop (i + 1)) := by
    conv => lhs; rw [← List.take_append_drop i xs]
    rw [List.drop_eq_getElem_cons hi, (List.getElem?_eq_some_iff.mp hx).2]
  conv => rhs; rw [e]
  rw [List.flatMap_append, List.flatMap_cons, List.length_append, List.length_append]
  omega
variable {ρ : Rho} {pos : Pos} {kx vx t0 i0 t1 i1 t2 i2 : Expr} {α β γ : Type} {xs : List α} {ys : α → List β} {zs : α → β → List γ} {P0 : α → As} {P1 : α → β → As} {P2 : α → β → γ → As} {j0 j1 j2 : List Nat} {Q0 : α → List As} {Q1 : α → β → List As} {Q2 : α → β → γ → List As} {kk : α → β → γ → Str} {F : α → β → γ → As}
theorem d_dc3 (hN : X.N.Nodup) (own : List (Str × Nat)) (hr : X.A.units + 1 < cLine) (ok : BlkOk X.N X.env.scope scope own) (h0 : Di X t0 i0 ρ xs P0) (g0 : InBlk X scope fun Y => ∀ x ∈ xs, Dg Y t0 (P0 x) j0 (Q0 x)) (h1 : ∀ x ∈ xs, InBlk X scope fun Y => Di Y t1 i1 (inR ρ own j0 (Q0 x)) (ys x) (P1 x)) (g1 : ∀ x ∈ xs, InBlk X scope fun Y => ∀ y ∈ ys x, Dg Y t1 (P1 x y) j1 (Q1 x y))
    (h2 : ∀ x ∈ xs, ∀ y ∈ ys x, InBlk X scope fun Y => Di Y t2 i2 (inR (inR ρ own j0 (Q0 x)) own j1 (Q1 x y)) (zs x y) (P2 x y)) (g2 : ∀ x ∈ xs, ∀ y ∈ ys x, InBlk X scope fun Y => ∀ z ∈ zs x y, Dg Y t2 (P2 x y z) j2 (Q2 x y z))
    (hk : ∀ x ∈ xs, ∀ y ∈ ys x, ∀ z ∈ zs x y, InBlk X scope fun Y => De Y kx (inR (inR (inR ρ own j0 (Q0 x)) own j1 (Q1 x y)) own j2 (Q2 x y z)) (aStr (kk x y z))) (hv : ∀ x ∈ xs, ∀ y ∈ ys x, ∀ z ∈ zs x y, InBlk X scope fun Y => De Y vx (inR (inR (inR ρ own j0 (Q0 x)) own j1 (Q1 x y)) own j2 (Q2 x y z)) (F x y z))
    (hz : (xs.flatMap fun x => (ys x).flatMap fun y => (zs x y).flatMap fun z => [(kk x y z, F x y z)]).length < 1000000) (hw0 : ∀ i ∈ j0, i ∈ own.map (·.2) := by decide) (hw1 : ∀ i ∈ j1, i ∈ own.map (·.2) := by decide) (hw2 : ∀ i ∈ j2, i ∈ own.map (·.2) := by decide) (hc : X.calm = true := by rfl)
    (hs : ∀ x, foldedSetIterable i0 X.env x = pure x := by intro _; rfl) (hs1 : ∀ env x, foldedSetIterable i1 env x = pure x := by intro _ _; rfl) (hs2 : ∀ env x, foldedSetIterable i2 env x = pure x := by intro _ _; rfl) :
    De X (dc3 kx vx t0 i0 t1 i1 t2 i2 scope pos) ρ (aDic 1000000 (dOf (xs.flatMap fun x => (ys x).flatMap fun y => (zs x y).flatMap fun z => [(kk x y z, F x y z)]))) := fun pl σ H Hc g ev Q q => by
  refine tE_of (pe_dcN (o0 := .dK []) (gs := [⟨t1, i1, [], 0⟩, ⟨t2, i2, [], 0⟩]) (g := gB X scope t0) (tb := fun D => tNext (iB X scope t1 i1) (gB X scope t1) (tNext (iB X scope t2 i2) (gB X scope t2) (tPut (eB X scope kx) (eB X scope vx) D) (own.map (·.2))) (own.map (·.2))) hc hN pi_can ok rfl (arm_eval_DictComp ..) (fun H h hb => dk_empty h hb) pg_B (fun env D it => nextD (dc3 kx vx t0 i0 t1 i1 t2 i2 scope pos) 0 i1 (.ref it) (.ref D) env)
    (fun a1 a2 a3 a4 a5 D it pins s' σ' H' Fn I h => next_body (Y := X.blk a1 a2 scope (compEnvC scope a4 a3 X.env) a5) (e := dc3 kx vx t0 i0 t1 i1 t2 i2 scope pos) (d := 0) (D := D) (rest1 := fun it1 => nextD (dc3 kx vx t0 i0 t1 i1 t2 i2 scope pos) 1 i2 (.ref it1) (.ref D) _) hc rfl (pi_B a1 a2 a3 a4 a5) (pg_B a1 a2 a3 a4 a5) (hs1 _) rfl rfl (fun _ => rfl) (fun _ _ _ _ h => h) (fun _ _ _ _ h => h) (fun it1 => turn3_1 ..)
      (fun it1 pins s σ H Fn I h => next_body (Y := X.blk a1 a2 scope (compEnvC scope a4 a3 X.env) a5) (e := dc3 kx vx t0 i0 t1 i1 t2 i2 scope pos) (d := 1) (D := D) (rest1 := fun it2 => emitD (dc3 kx vx t0 i0 t1 i1 t2 i2 scope pos) kx vx 2 (.ref it2) D _) hc rfl (pi_B a1 a2 a3 a4 a5) (pg_B a1 a2 a3 a4 a5) (hs2 _) rfl rfl (fun _ => rfl) (fun _ _ _ _ h => h) (fun _ _ _ _ h => h) (fun it2 => turn3_2 ..)
        (fun it2 pins s σ H Fn I h => put_body (Y := X.blk a1 a2 scope (compEnvC scope a4 a3 X.env) a5) (e := dc3 kx vx t0 i0 t1 i1 t2 i2 scope pos) (d := 2) (D := D) rfl hr (pe_B a1 a2 a3 a4 a5) (pe_B a1 a2 a3 a4 a5) pins s σ H Fn I h) pins s σ H Fn I h) pins s' σ' H' Fn I h)
    (fun env D it => turn3_0 ..) hs (fun _ _ _ _ _ _ _ h => h) (fun h0 h => codeAny_compStart_dict h0 h)) ?_
  refine h0 pl σ H Hc g ev _ fun J H1 Hc1 s1 y D hD => ?_
  have hp := not_pool s1.gd hD
  have ap := Stp.apart s1.gd hD (.dK [])
  refine lp_bod (St := StK pl H1 Hc1 D) (L := []) (M := fun x => (ys x).flatMap fun y => (zs x y).flatMap fun z => [(kk x y z, F x y z)]) (stK_ok hp) g0 hw0 (fun i x hx => ?_) ⟨ap, [], upd_same, clean_none s1.gd hD, Nat.le_refl _, HasF.nil⟩ (ev.mono s1.cl) y fun H' Hc' ⟨s', ws, k1, k2, k3, k4⟩ sm => ?_
  · have hm := List.mem_of_getElem? hx
    refine bod_next (stK_ok hp) (h1 x hm) (g1 x hm) hw1 fun j y hy => ?_
    have hmy := List.mem_of_getElem? hy
    refine bod_next (stK_ok hp) (h2 x hm y hmy) (g2 x hm y hmy) hw2 fun k z hzz => ?_
    have hmz := List.mem_of_getElem? hzz
    refine bod_put hD hp (hk x hm y hmy z hmz) (hv x hm y hmy z hmz) ?_
    have l1 := take_flat hx fun x => (ys x).flatMap fun y => (zs x y).flatMap fun z => [(kk x y z, F x y z)]
    have l2 := take_flat hy fun y => (zs x y).flatMap fun z => [(kk x y z, F x y z)]
    have l3 := take_flat hzz fun z => [(kk x y z, F x y z)]
    rw [List.length_append, List.length_append, List.nil_append]
    simp only [List.length_singleton] at l3
    omega
  · rw [List.nil_append] at k3 k4
    have hD0 : H D = none := by
      cases e : H D with
      | none => rfl
      | some o =>
        rw [s1.keep D o hp e] at hD
        cases hD
    obtain ⟨s3, sm3⟩ := Out.promote (s1.trans s') k1 k2 hp hD0
    exact q _ _ _ s3 ⟨D, ws, rfl, upd_same, by omega, k4.mono sm3⟩
end
end Da
set_option Elab.async false
set_option linter.all false
set_option maxRecDepth 100000
set_option maxHeartbeats 4000000
/-! dicts whose keys are lots -/
namespace Lb
open PySem PySem.Spec PyProof.Rows L2 Da
def lkey (l : List Nat) : List Key := l.map fun p : Nat => Sum.inl (p : Int)
theorem paired_app {α β : Type} {F : α → β → Prop} : ∀ {l l' : List α} {m m' : List β}, Paired F l m → Paired F l' m' → Paired F (l ++ l') (m ++ m')
  | _, _, _, _, .nil, h => h
  | _, _, _, _, .cons a t, h => .cons a (paired_app t h)
theorem paired_get {α β : Type} {F : α → β → Prop} : ∀ {l : List α} {m : List β} {i : Nat} {x : α} {y : β}, Paired F l m → l[i]? = some x → m[i]? = some y → F x y
  | _, _, _, _, _, .nil, h, _ => by simp at h
  | _, _, 0, _, _, .cons a _, h1, h2 => by
    simp at h1 h2
    subst h1 h2
    exact a
  | _, _, i + 1, _, _, .cons _ t, h1, h2 => paired_get (i := i) t (by simpa using h1) (by simpa using h2)
theorem lkey_V (l : List Nat) : (lkey l).map kV = lv l := by
  show List.map kV (List.map (fun p : Nat => Sum.inl (p : Int)) l) = List.map V.int (List.map (fun p : Nat => (p : Int)) l)
  rw [List.map_map, List.map_map]
  rfl
theorem lkey_inj : ∀ {a b : List Nat}, lkey a = lkey b → a = b
  | [], [], _ => rfl
  | [], _ :: _, h => by cases h
  | _ :: _, [], h => by cases h
  | x :: a, y :: b, h => by
    have h1 := List.cons.inj h
    have e : (x : Int) = (y : Int) := by
      have := h1.1
      injection this
    have e' : x = y := by omega
    rw [e', lkey_inj h1.2]
def HasT (pl : Option Addr) (H : Hp) (ws : List (List Key × V)) (L : List (List Nat × As)) : Prop := Paired (fun (w : List Key × V) (q : List Nat × As) => w.1 = lkey q.1 ∧ q.2.is pl H w.2) ws L
theorem HasT.mono {pl : Option Addr} {H H' : Hp} {ws : List (List Key × V)} {L : List (List Nat × As)} (e : Same H H') (h : HasT pl H ws L) : HasT pl H' ws L := Paired.mapP h fun _ q ⟨h1, h2⟩ => ⟨h1, q.2.mono e h2⟩
def aDicT (L : List (List Nat × As)) : As := ⟨fun pl H v => ∃ a ws o, v = .ref a ∧ H a = some (.frz o (.dT ws)) ∧ HasT pl H ws L, fun e ⟨a, ws, o, h1, h2, h3⟩ => ⟨a, ws, o, h1, e _ _ h2, h3.mono e⟩⟩
theorem hasT_none {pl : Option Addr} {H : Hp} {l : List Nat} : ∀ {ws : List (List Key × V)} {L : List (List Nat × As)}, HasT pl H ws L → l ∉ L.map (·.1) → valV ws (lkey l) = none
  | _, _, .nil, _ => rfl
  | w :: ws, q :: L, .cons ⟨h1, _⟩ t, hn => by
    rw [valV_neg (fun e => hn (by have := lkey_inj (h1.symm.trans e); rw [← this]; exact List.mem_cons_self ..))]
    exact hasT_none t fun m => hn (List.mem_cons_of_mem _ m)
theorem hasT_at {pl : Option Addr} {H : Hp} {l : List Nat} {P : As} : ∀ {ws : List (List Key × V)} {L : List (List Nat × As)}, HasT pl H ws L → (L.map (·.1)).Nodup → (l, P) ∈ L → ∃ v, valV ws (lkey l) = some v ∧ P.is pl H v
  | _, _, .nil, _, h => by cases h
  | w :: ws, q :: L, .cons ⟨h1, h2⟩ t, nd, hm => by
    have nd' := List.nodup_cons.mp nd
    rcases List.mem_cons.mp hm with e | hm
    · subst e
      exact ⟨w.2, valV_pos h1, h2⟩
    · have ne : ¬ w.1 = lkey l := fun e => nd'.1 (by show q.1 ∈ _; rw [lkey_inj (h1.symm.trans e)]; exact List.mem_map.mpr ⟨_, hm, rfl⟩)
      rw [valV_neg ne]
      exact hasT_at t nd'.2 hm
section
variable {X : Cx} {scope : Scope} {pl : Option Addr} {H1 Hc1 : Hp} {D : Addr} {own : List (Str × Nat)}
def StT (pl : Option Addr) (H1 Hc1 : Hp) (D : Addr) (L : List (List Nat × As)) (H Hc : Hp) : Prop := Stp pl H1 Hc1 H Hc ∧ ∃ ws, H D = some (.dT ws) ∧ Hc D = none ∧ HasT pl Hc ws L
theorem stT_ok (hp : pl ≠ some D) : StOk pl (StT pl H1 Hc1 D) := ⟨fun s => s.1.gd, fun ⟨s, ws, h1, h2, h4⟩ t => ⟨s.trans t, ws, t.keep D _ hp h1, t.clean h1 h2, h4.mono t.cl⟩⟩
theorem bod_putT {kx vx : Expr} {ρ : Rho} {l : List Nat} {P : As} {L : List (List Nat × As)} (hD : H1 D = none) (hp : pl ≠ some D) (hk : InBlk X scope fun Y => De Y kx ρ (aLotH l)) (hv : InBlk X scope fun Y => De Y vx ρ P) (hz : L.length < 1000000) (hn : l ∉ L.map (·.1)) : Bod pl (StT pl H1 Hc1 D) (tPut (eB X scope kx) (eB X scope vx) D) ρ L [(l, P)] := fun σ H Hc Fn ⟨s, ws, h1, h2, h4⟩ ev fin => by
  intro a1 a2 a3 a4 a5
  refine hk a1 a2 a3 a4 a5 pl σ H Hc s.gd ev _ fun y H2 Hc2 s2 ⟨b, us, e1, e2, f⟩ => ?_
  intro b1 b2 b3 b4 b5
  refine hv b1 b2 b3 b4 b5 pl σ H2 Hc2 s2.gd (ev.mono s2.cl) _ fun v H3 Hc3 s3 hvv => ?_
  have s23 := s2.trans s3
  have c3 := s23.clean h1 h2
  have h4' := h4.mono s23.cl
  have eu : us = (lkey l).map kV := by rw [lkey_V]; exact fits_map (f := V.int) f
  subst e1 eu
  have hl : ws.length = L.length := Paired.length h4
  refine ⟨_, DPut.t (s23.keep D _ hp h1) (s3.gd.sub _ _ (s3.cl _ _ e2)) (small_of (by omega)), fin _ Hc3 ⟨(s.trans s23).mut hD c3 hp _, _, upd_same, c3, ?_⟩ s23.cl⟩
  rw [putK_new v (hasT_none h4' hn)]
  exact paired_app h4' (.cons ⟨rfl, hvv⟩ .nil)
end
section
variable {X : Cx}
theorem pe_keepLock {e : Expr} {t : TE} (h : PE X e t) : PE X e (fun σ H Q => t σ H fun v H1 => ∃ d u, v = .ref d ∧ H1 d = some u ∧ Mut (some u) ∧ ∀ od, Q v (upd H1 d (.frz od u))) := ⟨fun pins s σ H Q I hw => thn (h.run pins s σ H _ I hw) fun v s1 ⟨x, H1, I1, r, d, u, e, hd, mu, q⟩ => by
  obtain ⟨od, I2⟩ := I1.lock hd mu
  exact ⟨x, _, I2, r, q od⟩⟩
variable {scope : Scope} {ρ : Rho} {pos : Pos} {kx vx t0 i0 : Expr} {α : Type} {xs : List α} {P0 : α → As} {j0 : List Nat} {Q0 : α → List As} {kk : α → List Nat} {F : α → As}
theorem d_dct (hN : X.N.Nodup) (own : List (Str × Nat)) (hr : X.A.units + 1 < cLine) (ok : BlkOk X.N X.env.scope scope own) (h0 : Di X t0 i0 ρ xs P0) (g0 : InBlk X scope fun Y => ∀ x ∈ xs, Dg Y t0 (P0 x) j0 (Q0 x))
    (hk : ∀ x ∈ xs, InBlk X scope fun Y => De Y kx (inR ρ own j0 (Q0 x)) (aLotH (kk x))) (hv : ∀ x ∈ xs, InBlk X scope fun Y => De Y vx (inR ρ own j0 (Q0 x)) (F x)) (nd : (xs.map kk).Nodup) (hz : xs.length < 1000000) (hw0 : ∀ i ∈ j0, i ∈ own.map (·.2) := by decide) (hc : X.calm = true := by rfl)
    (hs : ∀ x, foldedSetIterable i0 X.env x = pure x := by intro _; rfl) : De X (dc1 kx vx t0 i0 scope pos) ρ (aDicT (xs.map fun x => (kk x, F x))) := fun pl σ H Hc g ev Q q => by
  refine tE_of (pe_keepLock (pe_dcN (o0 := .dT []) (gs := []) (g := gB X scope t0) (tb := fun D => tPut (eB X scope kx) (eB X scope vx) D) hc hN pi_can ok rfl (arm_eval_DictComp ..) (fun H h hb => L2.dt_empty h hb) pg_B (fun env D it => emitD (dc1 kx vx t0 i0 scope pos) kx vx 0 (.ref it) D env)
    (fun a1 a2 a3 a4 a5 D it pins s σ H Fn I h => put_body (Y := X.blk a1 a2 scope (compEnvC scope a4 a3 X.env) a5) (e := dc1 kx vx t0 i0 scope pos) (d := 0) (D := D) rfl hr (pe_B a1 a2 a3 a4 a5) (pe_B a1 a2 a3 a4 a5) pins s σ H Fn I h)
    (fun env D it => turn1 ..) hs (fun _ _ _ _ _ _ _ h => h) (fun h0 h => codeAny_compStart_dict h0 h))) ?_
  refine h0 pl σ H Hc g ev _ fun J H1 Hc1 s1 y D hD => ?_
  have hp := not_pool s1.gd hD
  have ap := Stp.apart s1.gd hD (.dT [])
  have fm : ∀ l : List α, (l.flatMap fun x => [(kk x, F x)]) = l.map fun x => (kk x, F x) := fun l => by
    induction l with
    | nil => rfl
    | cons a r ih => rw [List.flatMap_cons, ih]; rfl
  refine lp_bod (St := StT pl H1 Hc1 D) (L := []) (M := fun x => [(kk x, F x)]) (stT_ok hp) g0 hw0 (fun i x hx => ?_) ⟨ap, [], upd_same, clean_none s1.gd hD, .nil⟩ (ev.mono s1.cl) y fun H' Hc' ⟨s', ws, k1, k2, k4⟩ sm => ?_
  · have hm := List.mem_of_getElem? hx
    have hi := (List.getElem?_eq_some_iff.mp hx).1
    refine bod_putT hD hp (hk x hm) (hv x hm) ?_ ?_
    · rw [fm, List.nil_append, List.length_map, List.length_take]
      omega
    · rw [fm, List.nil_append, List.map_map]
      intro hc'
      obtain ⟨z, hz', e⟩ := List.mem_map.mp hc'
      obtain ⟨j, hj, ej⟩ := List.mem_iff_getElem.mp hz'
      rw [List.length_take] at hj
      rw [List.getElem_take] at ej
      refine (List.pairwise_iff_getElem.mp nd) j i (by rw [List.length_map]; omega) (by rw [List.length_map]; omega) (by omega) ?_
      rw [List.getElem_map, List.getElem_map, ej, (List.getElem?_eq_some_iff.mp hx).2]
      exact e
  · rw [fm, List.nil_append] at k4
    have hD0 : H D = none := by
      cases e : H D with
      | none => rfl
      | some o =>
        rw [s1.keep D o hp e] at hD
        cases hD
    refine ⟨D, .dT ws, rfl, k1, True.intro, fun od => ?_⟩
    obtain ⟨s3, sm3⟩ := Out.promote ((s1.trans s').mut hD0 k2 hp (.frz od (.dT ws))) upd_same k2 hp hD0
    exact q _ _ _ s3 ⟨D, ws, od, rfl, upd_same, k4.mono sm3⟩
variable {a i : Expr} {k : Nat} {l : List Nat} {L : List (List Nat × As)} {P : As} {tg : Expr}
theorem d_dgetT (hr : Room k X.A) (ha : De X a ρ (aDicT L)) (hi : De X i ρ (aLotH l)) (nd : (L.map (·.1)).Nodup) (hm : (l, P) ∈ L) (hs : NoSl i := by intro _ _; rfl) : De X (.Subscript a i pos) ρ P := fun pl σ H Hc g ev Q q =>
  tE_of (pe_dget (by have := hr.un; omega) pe_can pe_can hs) (ha pl σ H Hc g ev _ fun v H1 Hc1 s1 ⟨d, ws, o, e1, e2, h⟩ => hi pl σ H1 Hc1 s1.gd (ev.mono s1.cl) _ fun u H2 Hc2 s2 ⟨b, us, e3, e4, f⟩ => by
    obtain ⟨y, h1, h2⟩ := hasT_at h nd hm
    refine ⟨d, y, e1, ?_, q y H2 Hc2 (s1.trans s2) (P.mono s2.cl h2)⟩
    have eu : us = (lkey l).map kV := by rw [lkey_V]; exact fits_map (f := V.int) f
    subst eu e3
    rw [← h1]
    exact .inr ⟨ws, lkey l, b, .inr ⟨o, s2.gd.sub _ _ (s2.cl _ _ e2)⟩, rfl, s2.gd.sub _ _ e4, rfl⟩)
theorem dt_dinT (hr : Room k X.A) (ha : De X i ρ (aLotH l)) (hb : De X a ρ (aDicT L)) (nd : (L.map (·.1)).Nodup) (hm : behindInMarks .In a = false := by rfl) : Dt X (.Compare i [.In] [a] pos) ρ (decide (l ∈ L.map (·.1))) := fun pl σ H Hc g ev Q q =>
  tT_of (pt_cmp (pc_din (by have := hr.un; omega) pe_can pe_can) hm) (ha pl σ H Hc g ev _ fun v H1 Hc1 s1 ⟨b, us, e3, e4, f⟩ => hb pl σ H1 Hc1 s1.gd (ev.mono s1.cl) _ fun u H2 Hc2 s2 ⟨d, ws, o, e1, e2, h⟩ => by
    have eu : us = (lkey l).map kV := by rw [lkey_V]; exact fits_map (f := V.int) f
    subst eu e3
    refine ⟨d, valV ws (lkey l), e1, .inr ⟨ws, lkey l, b, .inr ⟨o, s2.gd.sub _ _ e2⟩, rfl, s2.gd.sub _ _ (s2.cl _ _ e4), rfl⟩, _, rfl, ?_⟩
    have e : (valV ws (lkey l)).isSome = decide (l ∈ L.map (·.1)) := by
      by_cases hl : l ∈ L.map (·.1)
      · obtain ⟨z, hz, ez⟩ := List.mem_map.mp hl
        obtain ⟨P', hP⟩ : ∃ P', (l, P') ∈ L := ⟨z.2, by rw [← ez]; exact hz⟩
        obtain ⟨y, h1, _⟩ := hasT_at h nd hP
        rw [h1, decide_eq_true hl]
        rfl
      · rw [hasT_none h hl, decide_eq_false hl]
        rfl
    rw [e]
    exact q _ _ (s1.trans s2))
/-- for lot in d -/
theorem di_keysT (h : De X a ρ (aDicT L)) : Di X tg a ρ L fun q => aLotH q.1 := fun pl σ H Hc g ev R q =>
  tI_of (pi_keys pe_can) (h pl σ H Hc g ev _ fun v H1 Hc1 s1 ⟨d, ws, o, e1, e2, hh⟩ => ⟨d, o, e1, .inr ⟨ws, s1.gd.sub _ _ e2, q _ H1 Hc1 s1 fun i H2 Hc2 sm g2 => by
    have hf : H2 d = some (.frz o (.dT ws)) := g2.sub _ _ (sm _ _ e2)
    have hl : ws.length = L.length := Paired.length hh
    refine ⟨fun Pi hi => ?_, fun h1 h2 => ⟨hf, by rw [List.length_map] at h1; omega⟩⟩
    rw [List.getElem?_map] at hi
    cases hx : L[i]? with
    | none =>
      rw [hx] at hi
      cases hi
    | some x =>
      rw [hx] at hi
      cases hi
      have hlt := (List.getElem?_eq_some_iff.mp hx).1
      refine ⟨⟨hf, by omega⟩, fun y H3 ⟨z1, k, v', b, z2, z3, z4⟩ => ?_⟩
      obtain ⟨hk, _⟩ := paired_get hh z2 hx
      have hk' : k = lkey x.1 := hk
      subst hk'
      subst z1 z3
      have hb2 : ∀ o, Hc2 b = some o → o = .tup ((lkey x.1).map kV) := fun o e => by
        have := g2.sub _ _ e
        rw [z4] at this
        cases this
        rfl
      have sub : Same Hc2 (upd Hc2 b (.tup ((lkey x.1).map kV))) := fun c o e => by
        by_cases hc : c = b
        · subst hc
          rw [upd_same, hb2 o e]
        · rw [upd_ne hc]
          exact e
      refine ⟨upd Hc2 b (.tup ((lkey x.1).map kV)), ⟨fun _ _ _ h => h, sub, ⟨fun c o e => ?_, fun p hp => ?_⟩, fun c o e => ?_⟩, b, _, rfl, upd_same, ?_⟩
      · by_cases hc : c = b
        · subst hc
          rw [upd_same] at e
          cases e
          exact z4
        · rw [upd_ne hc] at e
          exact g2.sub _ _ e
      · obtain ⟨p1, i1, i2, p2, p3⟩ := g2.pool p hp
        have hne : p ≠ b := fun e => by
          rw [e, z4] at p2
          cases p2
        exact ⟨by rw [upd_ne hne]; exact p1, i1, i2, p2, p3⟩
      · by_cases hc : c = b
        · subst hc
          exact .inr (.inr ⟨_, z4⟩)
        · rw [upd_ne hc] at e
          exact .inl e
      · rw [lkey_V]
        exact fits_of (f := V.int) _⟩⟩)
end
end Lb
set_option Elab.async false
set_option linter.all false
set_option maxRecDepth 100000
set_option maxHeartbeats 4000000
namespace Da
open PySem PySem.Spec PyProof.Rows L2
section
variable {X : Cx} {ρ : Rho} {pos : Pos} {es : List Expr} {Ps : List As}
theorem d_tupH {x1} (h : DeA X es ρ Ps) (hz : Ps.length ≤ 1000 := by first | decide | exact Nat.le_of_ble_eq_true rfl) : De X (.Tuple es x1 pos) ρ (aTupH Ps) := fun pl σ H Hc g ev Q q =>
  tE_of (pe_tup pa_can) (h pl σ H Hc g ev _ fun vs H1 Hc1 s1 h1 => ⟨Nat.le_trans (by rw [Paired.length h1]; exact hz) (by decide), fun p hp => (q.step s1).new s1.gd hp ⟨p, vs, rfl, upd_same, h1.mono (same_new (clean_none s1.gd hp))⟩⟩)
end
theorem flat_le {α β : Type} {xs : List α} {f : α → List β} {k : Nat} (h : ∀ x ∈ xs, (f x).length ≤ k) : (xs.flatMap f).length ≤ xs.length * k := by
  induction xs with
  | nil => simp
  | cons a r ih =>
    rw [List.flatMap_cons, List.length_append, List.length_cons, Nat.succ_mul]
    have h1 := h a (List.mem_cons_self ..)
    have h2 := ih fun x hx => h x (List.mem_cons_of_mem _ hx)
    omega
theorem dOf_has : ∀ {l : List (Str × As)} {f : Fn} {z : Str}, ((l.foldl (fun f q => upF f q.1 q.2) f) z).isSome = (decide (z ∈ l.map (·.1)) || (f z).isSome)
  | [], f, z => by simp
  | q :: l, f, z => by
    rw [List.foldl_cons, dOf_has (l := l)]
    have e2 : decide (z ∈ (q :: l).map (·.1)) = (decide (z = q.1) || decide (z ∈ l.map (·.1))) := by
      rw [List.map_cons]
      by_cases e : z = q.1
      · rw [decide_eq_true e, decide_eq_true (by rw [e]; exact List.mem_cons_self ..), Bool.true_or]
      · rw [decide_eq_false e, Bool.false_or]
        exact decide_eq_decide.mpr ⟨fun h => (List.mem_cons.mp h).resolve_left e, fun h => List.mem_cons_of_mem _ h⟩
    rw [e2]
    unfold upF
    by_cases e : z = q.1
    · rw [if_pos e, decide_eq_true e]
      simp
    · rw [if_neg e, decide_eq_false e, Bool.false_or]
theorem dOf_some {l : List (Str × As)} {z : Str} : (dOf l z).isSome = decide (z ∈ l.map (·.1)) := by
  unfold dOf
  rw [dOf_has]
  simp
end Da
namespace Lb
open PySem PySem.Spec PyProof.Rows L2 Da PySem.W
def tiesAt (y : Wk) (p : Nat) : List Tie := match y.2[p]? with
  | some q => q.2
  | none => []
def usedL (y : Wk) (l : List Nat) : List Str := l.flatMap fun p => (tiesAt y p).flatMap fun t => wiresT t
def wiresL (y : Wk) (l : List Nat) : List Str := (y.1.filter fun q => decide (q.1 ∈ usedL y l)).map (·.1)
def innerL (y : Wk) (l : List Nat) : List Str := (wiresL y l).filter fun z => !decide (z ∈ wiresL y (restL y.2.length l)) && !decide (z ∈ ([] : List Str))
def holdersL (y : Wk) (ss : List Stg) : List (List Nat) := sortL ((((List.range y.2.length).filter fun p => !decide (p ∈ withinStg ss)).map fun p => [p]) ++ ss.map (·.2))
theorem wiresT_few {names : List Str} {t : Tie} (h : OkTie names t) : (wiresT t).length ≤ 9 := by
  cases t with
  | fixed o n => exact Nat.le_of_ble_eq_true rfl
  | op wd ns =>
    have := (ops_ne h.1).2.2.1
    refine Nat.le_trans (m := ns.length) ?_ (by omega)
    show (dedup ns).length ≤ _
    unfold dedup
    rw [List.length_map]
    exact Nat.le_trans (List.length_filter_le _ _) (by rw [List.length_zipIdx]; exact Nat.le_refl _)
  | rows ws rs => exact Nat.le_trans h.li.hi (by decide)
theorem tiesAt_in {y : Wk} {p : Nat} {t : Tie} (h : t ∈ tiesAt y p) : ∃ q ∈ y.2, t ∈ q.2 := by
  unfold tiesAt at h
  cases e : y.2[p]? with
  | none =>
    rw [e] at h
    cases h
  | some q =>
    rw [e] at h
    exact ⟨q, List.mem_of_getElem? e, h⟩
theorem tiesAt_few {y : Wk} (hk : OkWk y) (p : Nat) : (tiesAt y p).length ≤ 24 := by
  unfold tiesAt
  cases e : y.2[p]? with
  | none => exact Nat.zero_le _
  | some q => exact (hk.ps.each q (List.mem_of_getElem? e)).hi
section
variable {P : Program} {w : World} {K : PySem.W.Frag} {mg : Str → Option Value} {base : Heap}
theorem scWiresOfLot : FnScope ["work", "lot", "parts", "named", "part", "tie", "name", "many"] ["work", "lot"] (defScope sWiresOfLot) := ⟨rfl, rfl, rfl, by decide +kernel, rfl, by decide +kernel, by decide +kernel⟩
theorem wires_of_lot_ok (T : Txt w K mg) : Fok P w K mg base 3 "wires_of_lot" ["work", "lot"] (spF (α := Wk × List Nat) (fun q => OkWk q.1 ∧ q.2.length < 1000 ∧ ∀ p ∈ q.2, p < q.1.2.length) (fun q => [aWk K q.1, aLot K q.2]) (fun q => aLst ((wiresL q.1 q.2).map aStr))) := by
  refine fok_of T.f_WiresOfLot T.g_wires_of_lot scWiresOfLot (fun _ => rfl) (fun _ F => F.bindsN fun _ _ _ _ _ _ us hl => match us, hl with | [_, _], _ => rfl) fun y hy cdv A outer s H E hr => ?_
  have hN := scWiresOfLot.nd
  obtain ⟨y, l⟩ := y
  obtain ⟨hk, few, lt⟩ := hy
  have few' : l.length < 1000 := few
  have h1 : y.1.length ≤ 8 := hk.ws.hi
  have h2 : y.2.length ≤ 7 := hk.ps.hi
  have okt : ∀ {p : Nat} {t : Tie}, t ∈ tiesAt y p → OkTie (y.1.map (·.1)) t := fun ht => by
    obtain ⟨q, hq, hm⟩ := tiesAt_in ht
    exact (hk.ps.tie q hq _ hm).1
  refine ds_set 2 hN (d_meth (m_parts T) T.cl hr y (by show y.2.length < 1000; omega) (d_v 0) rfl) ?_
  refine ds_set 3 hN (d_dc3 (xs := l) (ys := fun p => tiesAt y p) (zs := fun _ t => wiresT t) (P0 := fun p => aInt (p : Int)) (P1 := fun _ t => aTie K t) (P2 := fun _ _ z => aStr z) (Q0 := fun p => [aInt (p : Int)]) (Q1 := fun _ t => [aTie K t]) (Q2 := fun _ _ z => [aStr z]) (kk := fun _ _ z => z) (F := fun _ _ _ => aBl true) hN [("part", 4), ("tie", 5), ("name", 6)] (by have := hr.un; show (A.deeper _).units + 1 < cLine; omega) (blkOk_by (by kernel_rfl))
    (di_tup ((d_v 1 (P := aLot K l)).as (by show aTup K (List.map aInt (List.map (fun p : Nat => (p : Int)) l)) = _; rw [List.map_map]; rfl))) (fun _ _ _ _ _ c _ => dg_name 4 hN) (fun p hp => fun _ _ _ _ _ => ?_) (fun p hp => fun _ _ _ _ _ t _ => dg_name 5 hN) (fun p hp t ht => fun _ _ _ _ _ => di_list (d_cl (tie_wires_ok T) hr t (okT_names (okt ht)).1 (da1 (d_v 5)))) (fun p hp t ht => fun _ _ _ _ _ z _ => dg_name 6 hN)
    (fun p hp t ht z hz => fun _ _ _ _ _ => d_v 6) (fun p hp t ht z hz => fun _ _ _ _ _ => d_bl) ?_) ?_
  · have hlt : p < y.2.length := lt p hp
    refine di_list (d_ixT (P := aLst ((tiesAt y p).map (aTie K))) (Ps := [aStr y.2[p].1, aLst (y.2[p].2.map (aTie K))]) 1 (d_ixL (P := aPart K y.2[p]) p (d_v 2) (d_v 4) (by rw [List.getElem?_map, List.getElem?_eq_getElem hlt]; rfl)) d_int ?_)
    show some _ = _
    unfold tiesAt
    rw [List.getElem?_eq_getElem hlt]
  · refine Nat.lt_of_le_of_lt (flat_le (k := 24 * 9) fun p _ => ?_) (by have : l.length * (24 * 9) < 1000 * (24 * 9) := Nat.mul_lt_mul_of_pos_right few' (by decide); omega)
    refine Nat.le_trans (flat_le (k := 9) fun t ht => ?_) (Nat.mul_le_mul_right _ (tiesAt_few hk p))
    exact Nat.le_trans (flat_le (k := 1) fun _ _ => Nat.le_refl _) (by rw [Nat.mul_one]; exact wiresT_few (okt ht))
  refine ds_ret (d_fil (xs := y.1) (P := aWire K) (Ps := fun q => [aStr q.1, aInt (q.2 : Int)]) (b := fun q => decide (q.1 ∈ usedL y l)) (F := fun q => aStr q.1) [("name", 6), ("many", 7)] hN (blkOk_by (by kernel_rfl)) (di_list (d_meth (m_wires T) T.cl hr y trivial (d_v 0) rfl)) (fun _ _ _ _ _ c _ => dg_two 6 7 rfl hN)
    (fun _ _ _ _ _ c _ => (dt_din (z := c.1) hr (d_v 6) (d_v 3)).as ?_) (fun _ _ _ _ _ c _ _ => d_v 6) (by omega)) (Imp.of (by show aLst _ = aLst ((wiresL y l).map aStr); unfold wiresL; rw [List.map_map]; rfl))
  rw [dOf_some]
  refine decide_eq_decide.mpr ?_
  have e : ((l.flatMap fun p => (tiesAt y p).flatMap fun t => (wiresT t).flatMap fun z => [(z, aBl true)]).map (·.1)) = usedL y l := by
    unfold usedL
    rw [List.map_flatMap]
    congr 1
    funext p
    rw [List.map_flatMap]
    congr 1
    funext t
    induction wiresT t with
    | nil => rfl
    | cons a r ih => rw [List.flatMap_cons, List.map_append, ih]; rfl
  rw [e]
theorem scInnerWires : FnScope ["work", "lot", "seen", "others", "part", "name"] ["work", "lot", "seen"] (defScope sInnerWires) := ⟨rfl, rfl, rfl, by decide +kernel, rfl, by decide +kernel, by decide +kernel⟩
theorem inner_wires_ok (T : Txt w K mg) : Fok P w K mg base 4 "inner_wires" ["work", "lot", "seen"] (spF (α := Wk × List Nat) (fun q => OkWk q.1 ∧ q.2.length < 1000 ∧ ∀ p ∈ q.2, p < q.1.2.length) (fun q => [aWk K q.1, aLot K q.2, aLst []]) (fun q => aLst ((innerL q.1 q.2).map aStr))) := by
  refine fok_of T.f_InnerWires T.g_inner_wires scInnerWires (fun _ => rfl) (fun _ F => F.bindsN fun _ _ _ _ _ _ us hl => match us, hl with | [_, _, _], _ => rfl) fun y hy cdv A outer s H E hr => ?_
  have hN := scInnerWires.nd
  obtain ⟨y, l⟩ := y
  obtain ⟨hk, few, lt⟩ := hy
  have h1 : y.1.length ≤ 8 := hk.ws.hi
  have h2 : y.2.length ≤ 7 := hk.ps.hi
  have hw : (wiresL y l).length ≤ 8 := by
    unfold wiresL
    rw [List.length_map]
    exact Nat.le_trans (List.length_filter_le _ _) h1
  refine ds_set 3 hN (d_cl (wires_of_lot_ok T) hr (y, restL y.2.length l) ⟨hk, by show (restL y.2.length l).length < 1000; exact Nat.lt_of_le_of_lt (List.length_filter_le _ _) (by rw [List.length_range]; omega), fun p hp => List.mem_range.mp (List.mem_filter.mp hp).1⟩ (da2 (d_v 0) (d_tupleL T.b_tuple ((d_fil (xs := List.range y.2.length) (P := fun p => aInt (p : Int)) (Ps := fun p => [aInt (p : Int)]) (b := fun p => !decide (p ∈ l)) (F := fun p => aInt (p : Int)) [("part", 4)] hN (blkOk_by (by kernel_rfl)) (di_range T.b_range (d_len (k := 0) T (hr.mono (by decide)) (by omega) (d_v 0)) (by omega)) (fun _ _ _ _ _ c _ => dg_name 4 hN)
    (fun _ _ _ _ _ c _ => (dt_ninIT (ks := lI l) (d_v 4) (d_v 1)).as (by rw [decide_eq_decide.mpr lI_mem])) (fun _ _ _ _ _ c _ _ => d_v 4) (by rw [List.length_range]; omega)).as (by show aLst _ = aLst (List.map aInt (List.map (fun p : Nat => (p : Int)) (restL y.2.length l))); unfold restL; rw [List.map_map]; rfl))))) ?_
  exact ds_ret (d_fil (xs := wiresL y l) (P := aStr) (Ps := fun z => [aStr z]) (b := fun z => !decide (z ∈ wiresL y (restL y.2.length l)) && !decide (z ∈ ([] : List Str))) (F := aStr) [("name", 5)] hN (blkOk_by (by kernel_rfl)) (di_list (d_cl (wires_of_lot_ok T) hr (y, l) ⟨hk, few, lt⟩ (da2 (d_v 0) (d_v 1)))) (fun _ _ _ _ _ c _ => dg_name 5 hN) (fun _ _ _ _ _ c _ => dt_and2 (dt_ninSL (d_v 5) (d_v 3)) fun _ => dt_ninSL (ys := []) (d_v 5) (d_v 2)) (fun _ _ _ _ _ c _ _ => d_v 5) (by omega)) Imp.rfl'
end
end Lb
set_option Elab.async false
set_option linter.all false
set_option maxRecDepth 100000
set_option maxHeartbeats 4000000
namespace Da
open PySem PySem.Spec PyProof.Rows L2
theorem hasF_int {pl pl' : Option Addr} {H H' : Hp} {ws : List (Key × V)} {g : Gn} (h : HasF pl H ws fun z => (g z).map aInt) : HasF pl' H' ws fun z => (g z).map aInt := fun z => ⟨fun P hp => by
  obtain ⟨v, a, b⟩ := (h z).1 P hp
  refine ⟨v, a, ?_⟩
  have hp' : (g z).map aInt = some P := hp
  cases e : g z with
  | none =>
    rw [e] at hp'
    cases hp'
  | some i =>
    rw [e] at hp'
    cases hp'
    exact b, (h z).2⟩
section
variable {X : Cx} {ρ : Slots} {N : Slots → Prop} {R : As → Prop} {p1 p2 p3 p4 p5 pc pos1 pos2 pos3 : Pos} {e ke ve : Expr} {rest : List Stmt} {n : Nat} {g : Gn} {z : Str} {v : Int}
/-- x = dict(e); x[k] = v; return x -/
theorem ds_copyPut (i : Nat) {x : Str} (hu : X.A.units + 1 < cLine) (hN : X.N.Nodup) (hm : X.mg "dict" = none) (he : De X e (exR ρ) (aDI n g)) (hk : De X ke ((exR ρ).set i (some aAny)) (aStr z)) (hv : De X ve ((exR ρ).set i (some aAny)) (aInt v)) (hz : n < 1000000) (hil : i < ρ.length) (hR : R (aDI (n + 1) (upG g z v))) (hi : X.N[i]? = some x := by rfl) (hx : Loc X.env.scope x := by first | exact Or.inl rfl | exact Or.inr rfl) (hvis : Vis X.env.scope x := by first | exact Or.inl rfl | exact Or.inr (Or.inl rfl) | exact Or.inr (Or.inr rfl))
    (hd : (x == ("__debug__" : Str)) = false := by decide) (hcd : (x == ("__classdict__" : Str)) = false := by decide) (hf : X.fn x = true ∨ X.env.scope.names.lookup x = some .local := by first | exact .inl rfl | exact .inr rfl | assumption) (hg : Gl X "dict" := by rfl) (hs0 : starEach (e :: []) X.env = (false, eval e X.env) :: starEach [] X.env := by rfl)
    (hs : swapsWith (.Call (.Name "dict" p1) [e] [] pc) (some (.Name x p2)) pos1.line X.env = pure false := by rfl) (hs2 : swapsWith ve (some (.Subscript (.Name x p3) ke p4)) pos2.line X.env = pure false := by rfl) :
    Ds X (.Assign [.Name x p2] (.Call (.Name "dict" p1) [e] [] pc) pos1 :: .Assign [.Subscript (.Name x p3) ke p4] ve pos2 :: .Return (some (.Name x p5)) pos3 :: rest) ρ N R := fun pl H0 Hc0 σ H D ⟨Hc, s⟩ hn hr => by
  have il : i < σ.length := by rw [s.len]; exact hil
  refine tSs_of (pss_cons (ps_set hN hi hx (pe_callTy call_dictD hg hm boot_dict pa_can (by decide) (by decide) hs0 rfl) hs hf) (pss_cons (ps_dput hu (pe_var hi hvis hd hcd) pe_can pe_can hs2) (pss_cons (ps_ret (pe_var hi hvis hd hcd)) pss_can))) ?_
  refine da1 he hs0 pl σ H Hc s.stp.gd s.env _ fun vs H1 Hc1 s1 f => ?_
  obtain ⟨u, e1, d, ws, e2, e3, e4, e5⟩ := one f
  subst e1 e2
  refine ⟨d, ws, rfl, .inl (s1.gd.sub _ _ e3), fun p hp => ?_⟩
  have np := not_pool s1.gd hp
  have cp := clean_none s1.gd hp
  have ap := Stp.apart s1.gd hp (.dK ws)
  have ev : EnvOk pl Hc1 (σ.set i (some (.ref p))) ((exR ρ).set i (some aAny)) := (s.env.mono s1.cl).set i trivial
  have at_ : (σ.set i (some (V.ref p)))[i]? = some (some (.ref p)) := List.getElem?_set_self il
  refine hv pl _ _ Hc1 ap.gd ev _ fun v2 H2 Hc2 s2 hv2 => ⟨.ref p, at_, ?_⟩
  refine hk pl _ H2 Hc2 s2.gd (ev.mono s2.cl) _ fun y H3 Hc3 s3 hy => ?_
  have s23 := s2.trans s3
  have k3 : H3 p = some (.dK ws) := s23.keep p _ np upd_same
  have c3 : Hc3 p = none := s23.clean upd_same cp
  have y' : y = kV (.inr z) := hy
  subst y'
  refine ⟨p, _, rfl, DPut.k k3 (small_of (by omega)), .ref p, at_, ?_⟩
  have n0 : H0 p = none := by
    cases e : H0 p with
    | none => rfl
    | some o =>
      rw [(s.stp.trans s1).keep p o np e] at hp
      cases hp
  have all := ((s.stp.trans s1).trans ap).trans s23
  obtain ⟨pr, sm⟩ := Out.promote (all.mut n0 c3 np (.dK (putK ws (.inr z) v2))) upd_same c3 np n0
  refine hr _ _ _ _ hR pr ⟨p, _, rfl, upd_same, Nat.le_trans (length_putK ..) (by omega), ?_⟩
  have h6 := (hasF_int (pl' := pl) (H' := upd Hc3 p (.dK (putK ws (.inr z) v2))) e5).put (z := z) (P := aInt v) (v := v2) hv2
  rw [upF_map] at h6
  exact h6
end
end Da
namespace Lb
open PySem PySem.Spec PyProof.Rows L2 Da PySem.W
section
variable {P : Program} {w : World} {K : PySem.W.Frag} {mg : Str → Option Value} {base : Heap}
theorem scJoined : FnScope ["one", "name", "value", "found"] ["one", "name", "value"] (defScope sJoined) := ⟨rfl, rfl, rfl, by decide +kernel, rfl, by decide +kernel, by decide +kernel⟩
theorem joined_ok (T : Txt w K mg) : Fok P w K mg base 1 "joined" ["one", "name", "value"] (spF (α := Nat × Gn × Str × Int) (fun q => q.1 < 1000) (fun q => [aDI q.1 q.2.1, aStr q.2.2.1, aInt q.2.2.2]) (fun q => aDI (q.1 + 1) (upG q.2.1 q.2.2.1 q.2.2.2))) := by
  refine fok_of T.f_Joined T.g_joined scJoined (fun _ => rfl) (fun _ F => F.bindsN fun _ _ _ _ _ _ us hl => match us, hl with | [_, _, _], _ => rfl) fun y hy cdv A outer s H E hr => ?_
  have hN := scJoined.nd
  obtain ⟨n, g, z, v⟩ := y
  have hz : n < 1000 := hy
  exact ds_copyPut 3 (by have := hr.un; show (A.deeper _).units + 1 < cLine; omega) hN T.b_dict (d_v 0) (d_v 1) (d_v 2) (by omega) (Nat.le_of_ble_eq_true rfl) Imp.rfl'
theorem d_new {X : Cx} {ρ : Rho} {pos : Pos} : De X (.Dict [] [] pos) ρ (aDI 0 fun _ => none) := fun pl σ H Hc g ev Q q => tE_of pe_dnewK fun p hp => q.new g hp ⟨p, [], rfl, upd_same, Nat.le_refl _, HasF.nil⟩
def mN (y : Wk) (z : Str) : Nat := ((mG y z).getD 0).toNat
def stepG (y : Wk) (found : List Gn) (z : Str) : List Gn := found.flatMap fun g => (List.range (mN y z)).map fun v : Nat => upG g z (v : Int)
def fillL (y : Wk) (ns : List Str) : List Gn := ns.foldl (stepG y) [fun _ => none]
theorem fillL_more {y : Wk} {l : List Str} {z : Str} : fillL y (l ++ [z]) = stepG y (fillL y l) z := by
  unfold fillL
  rw [List.foldl_append]
  rfl
theorem mN_at {y : Wk} (hy : OkWk y) {z : Str} (h : z ∈ y.1.map (·.1)) : mG y z = some (mN y z : Int) ∧ mN y z ≤ 4 ∧ 2 ≤ mN y z := by
  obtain ⟨q, hq, rfl⟩ := List.mem_map.mp h
  have e := mG_at hy hq
  have h1 := hy.ws.each q hq
  have e2 : mN y q.1 = q.2 := by
    unfold mN
    rw [e]
    rfl
  exact ⟨by rw [e2]; exact e, by rw [e2]; exact h1.hi, by rw [e2]; exact h1.lo⟩
theorem stepG_len {y : Wk} {found : List Gn} {z : Str} (h : mN y z ≤ 4) : (found.flatMap fun _ => List.range (mN y z)).length ≤ 4 * found.length ∧ (stepG y found z).length ≤ 4 * found.length := by
  unfold stepG
  induction found with
  | nil => simp
  | cons a r ih =>
    rw [List.flatMap_cons, List.flatMap_cons, List.length_append, List.length_append, List.length_map, List.length_range, List.length_cons]
    omega
theorem fillL_len {y : Wk} (hy : OkWk y) : ∀ (n : Nat) {l : List Str}, l.length = n → (∀ z ∈ l, z ∈ y.1.map (·.1)) → (fillL y l).length ≤ 4 ^ n
  | 0, l, h, _ => by
    have : l = [] := List.eq_nil_of_length_eq_zero h
    subst this
    exact Nat.le_refl _
  | n + 1, l, h, hm => by
    have hne : l ≠ [] := fun e => by rw [e] at h; cases h
    have e := (List.dropLast_concat_getLast hne).symm
    have ih := fillL_len hy n (l := l.dropLast) (by rw [List.length_dropLast]; omega) fun m h => hm m (List.dropLast_subset l h)
    have h4 := (mN_at hy (hm _ (List.getLast_mem hne))).2.1
    rw [e, fillL_more]
    have := (stepG_len (found := fillL y l.dropLast) h4).2
    rw [Nat.pow_succ]
    omega
theorem scFillings : FnScope ["work", "names", "manys", "found", "name", "one", "value"] ["work", "names"] (defScope sFillings) := ⟨rfl, rfl, rfl, by decide +kernel, rfl, by decide +kernel, by decide +kernel⟩
theorem fillings_ok (T : Txt w K mg) : Fok P w K mg base 3 "fillings" ["work", "names"] (spF (α := Wk × List Str) (fun q => OkWk q.1 ∧ q.2.length ≤ 8 ∧ ∀ z ∈ q.2, z ∈ q.1.1.map (·.1)) (fun q => [aWk K q.1, aLst (q.2.map aStr)]) (fun q => aLst ((fillL q.1 q.2).map fun g => aDI q.2.length g))) := by
  refine fok_of T.f_Fillings T.g_fillings scFillings (fun _ => rfl) (fun _ F => F.bindsN fun _ _ _ _ _ _ us hl => match us, hl with | [_, _], _ => rfl) fun y hy cdv A outer s H E hr => ?_
  have hN := scFillings.nd
  obtain ⟨y, ns⟩ := y
  obtain ⟨hk, h8, hin⟩ := hy
  have h8' : ns.length ≤ 8 := h8
  replace hk : OkWk y := hk
  refine ds_set 2 hN (d_cl (manys_of_ok T) hr y trivial (da1 (d_v 0))) ?_
  refine ds_set (P := aLst [aDI 0 fun _ => none]) 3 hN (d_lst (da1 d_new)) ?_
  refine ds_for (α := Str) (xs := ns) (Pt := aStr) (is := [4]) (Ts := fun z => [aStr z]) (fun i ρ => ∃ Z, ρ = [.v (aWk K y), .v (aLst (ns.map aStr)), .v (aDI y.1.length (mG y)), .v (aLst ((fillL y (ns.take i)).map fun g => aDI i g)), Z, .no, .no]) (fun _ _ h => False.elim h) rfl (di_list (d_v 1)) ⟨.no, rfl⟩ (fun n _ => dg_name 4 hN) (fun i z hz ρ' ⟨Z, e⟩ => ?_) (fun ρ' ⟨Z, e⟩ => ?_) (fun _ _ => rfl)
  · subst e
    have hi : i < ns.length := (List.getElem?_eq_some_iff.mp hz).1
    have hzi : z ∈ y.1.map (·.1) := hin z (List.mem_of_getElem? hz)
    obtain ⟨hm, hm4, _⟩ := mN_at hk hzi
    have hlen : (ns.take i).length = i := by rw [List.length_take]; omega
    have hcount : (fillL y (ns.take i)).length ≤ 4 ^ i := fillL_len hk i hlen fun z h => hin z (List.mem_of_mem_take h)
    have hpow : 4 ^ i ≤ 4 ^ 7 := Nat.pow_le_pow_right (by decide) (by omega)
    have h47 : (4 : Nat) ^ 7 = 16384 := by decide
    have hst := (stepG_len (found := fillL y (ns.take i)) hm4).1
    refine ds_setLc2 3 (xs := fillL y (ns.take i)) (Pt := fun g => aDI i g) (is := [5]) (Ts := fun g => [aDI i g]) (ys := fun _ => List.range (mN y z)) (P1 := fun _ v => aInt (v : Int)) (is1 := [6]) (Ts1 := fun _ v => [aInt (v : Int)]) (F := fun g v => aDI (i + 1) (upG g z (v : Int))) [("one", 5), ("value", 6)] [6] hN (blkOk_by (by kernel_rfl)) (di_list (d_v 3)) (fun _ _ _ _ _ c _ => dg_name 5 hN) (fun _ _ _ _ _ c _ => di_range T.b_range (d_dgetI (z := z) hr (d_v 2) (d_v 4) hm) (by omega)) (fun _ _ _ _ _ c _ v _ => dg_name 6 hN)
      (fun _ _ _ _ _ c _ v _ => d_cl (joined_ok T) hr (i, c, z, (v : Int)) (by show i < 1000; omega) (da_cons (d_v 5) (da2 (d_v 4) (d_v 6)))) (by omega) (ds_nil ⟨.v (aStr z), ?_⟩) rfl
    rw [take_more hz, fillL_more]
    show [_, _, _, Sl.v (aLst _), _, _, _] = [_, _, _, Sl.v (aLst ((stepG y _ z).map _)), _, _, _]
    unfold stepG
    rw [List.map_flatMap]
    simp only [List.map_map]
    rfl
  · subst e
    rw [List.take_length]
    exact ds_ret (d_v 3) Imp.rfl'
end
end Lb
set_option Elab.async false
set_option linter.all false
set_option maxRecDepth 100000
set_option maxHeartbeats 4000000
namespace Lb
open PySem PySem.Spec PyProof.Rows L2 Da PySem.W
theorem flatI (l : List Stg) : (l.flatMap fun q => (lI q.2).map aInt) = (lI (withinStg l)).map aInt := by
  unfold lI withinStg
  induction l with
  | nil => rfl
  | cons a r ih => rw [List.flatMap_cons, List.flatMap_cons, List.map_append, List.map_append, ih]
theorem flatI_len (l : List Stg) : (l.flatMap fun q => lI q.2).length = (withinStg l).length := by
  unfold withinStg
  induction l with
  | nil => rfl
  | cons a r ih => rw [List.flatMap_cons, List.flatMap_cons, List.length_append, List.length_append, ih, lI_len]
section
variable {P : Program} {w : World} {K : PySem.W.Frag} {mg : Str → Option Value} {base : Heap}
theorem scHolders : FnScope ["work", "stages", "within", "name", "lot", "part", "alone"] ["work", "stages"] (defScope sHolders) := ⟨rfl, rfl, rfl, by decide +kernel, rfl, by decide +kernel, by decide +kernel⟩
theorem holders_ok (T : Txt w K mg) : Fok P w K mg base 4 "holders" ["work", "stages"] (spF (α := Wk × List Stg) (fun q => OkStgs q.1 q.2 ∧ q.1.2.length < 1000) (fun q => [aWk K q.1, aLst (q.2.map (aStg K))]) (fun q => aLst ((holdersL q.1 q.2).map aLotH))) := by
  refine fok_of T.f_Holders T.g_holders scHolders (fun _ => rfl) (fun _ F => F.bindsN fun _ _ _ _ _ _ us hl => match us, hl with | [_, _], _ => rfl) fun y hy cdv A outer s H E hr => ?_
  have hN := scHolders.nd
  obtain ⟨y, ss⟩ := y
  obtain ⟨ok, few⟩ := hy
  have few' : y.2.length < 1000 := few
  have hz : ss.length < 1000 := ok.few
  have hz2 : (withinStg ss).length < 1000 := ok.wlen
  refine ds_set 2 hN (dn_lc2 (xs := ss) (P := aStg K) (is := [3, 4]) (Ps := fun q => [aStr q.1, aLotH q.2]) (ys := fun q => lI q.2) (P1 := fun _ p => aInt p) (is1 := [5]) (Ps1 := fun _ p => [aInt p]) (F := fun _ p => aInt p) [("name", 3), ("lot", 4), ("part", 5)] [5] rfl hN (blkOk_by (by kernel_rfl)) (di_list (d_v 1)) (fun _ _ _ _ _ c _ => dg_two 3 4 rfl hN) (fun _ _ _ _ _ c _ => di_tup ((d_v 4 (P := aLotH c.2)).imp lotH_lot)) (fun _ _ _ _ _ c _ z _ => dg_name 5 hN) (fun _ _ _ _ _ c _ z _ => d_v 5) (by rw [flatI_len]; omega)).de ?_
  rw [flatI]
  refine ds_setFil 6 (xs := List.range y.2.length) (Pt := fun p => aInt (p : Int)) (is := [5]) (Ts := fun p => [aInt (p : Int)]) (b := fun p => !decide (p ∈ withinStg ss)) (F := fun p => aLotH [p]) [("part", 5)] hN (blkOk_by (by kernel_rfl)) (di_range T.b_range (d_len (k := 0) T (hr.mono (by decide)) few' (d_v 0)) (by omega)) (fun _ _ _ _ _ c _ => dg_name 5 hN)
    (fun _ _ _ _ _ c _ => (dt_ninIL (ks := lI (withinStg ss)) (d_v 5) (d_v 2)).as (by rw [decide_eq_decide.mpr lI_mem])) (fun _ _ _ _ _ c _ _ => d_tupH (da1 (d_v 5))) (by rw [List.length_range]; omega) ?_
  have hl : (((List.range y.2.length).filter fun p => !decide (p ∈ withinStg ss)).map fun p => aLotH [p]).length < 1000 := by
    rw [List.length_map]
    exact Nat.lt_of_le_of_lt (List.length_filter_le _ _) (by rw [List.length_range]; exact few')
  refine ds_ret (d_sortL hr T.b_sorted ((dn_cat (Ps := (((List.range y.2.length).filter fun p => !decide (p ∈ withinStg ss)).map fun p => aLotH [p])) (Qs := ss.map fun q => aLotH q.2) (by rw [List.length_map (as := ss)]; omega) (d_v 6) (d_map (xs := ss) (P := aStg K) (Ps := fun q => [aStr q.1, aLotH q.2]) (F := fun q => aLotH q.2) [("name", 3), ("lot", 4)] hN (blkOk_by (by kernel_rfl)) (di_list (d_v 1)) (fun _ _ _ _ _ c _ => dg_two 3 4 rfl hN) (fun _ _ _ _ _ c _ => d_v 4) (by omega))).de.as ?_) ?_ ?_) (Imp.of rfl)
  · rw [List.map_append, List.map_map, List.map_map]
    rfl
  · rw [List.length_append, List.length_map, List.length_map]
    rw [List.length_map] at hl
    have hz' : (y, ss).2.length < 1000 := hz
    have hl' : ((List.range (y, ss).1.2.length).filter fun p => !decide (p ∈ withinStg (y, ss).2)).length < 1000 := hl
    omega
  · intro l hm
    rcases List.mem_append.mp hm with h | h
    · obtain ⟨p, _, rfl⟩ := List.mem_map.mp h
      exact fun e => nomatch e
    · obtain ⟨q, hq, rfl⟩ := List.mem_map.mp h
      exact (ok.lot q hq).ne
end
end Lb
set_option Elab.async false
set_option linter.all false
set_option maxRecDepth 100000
set_option maxHeartbeats 4000000
namespace Da
open PySem PySem.Spec PyProof.Rows L2
/-! ### d.update(e) -/
def rUpdate : V → List V → Hp → VK → Prop := fun x vs H Q => ∃ d o kvs more, x = .ref d ∧ vs = [.ref o] ∧ H d = some (.dK kvs) ∧ H o = some (.dK more) ∧ d ≠ o ∧ kvs.length + more.length ≤ sizeLine ∧ ((more.map (·.1)).Nodup → Q .non (upd H d (.dK (mergeK kvs more))))
theorem kv_keys : ∀ {kvs : List (Key × V)} {vs : List (Key × Value)}, KV kvs vs → kvs.map (·.1) = vs.map (·.1) := fun {kvs vs} r => by
  unfold KV at r
  induction r with
  | nil => rfl
  | cons h t ih => rw [List.map_cons, List.map_cons, ih, h.1]
theorem mt_update {X : Cx} : MtR X "dict.update" rUpdate := by
  intro pins s σ H x xs v us Q I rx rv ⟨d, o, kvs, more, e1, e2, hd, ho, hne, hz, q⟩
  subst e1 e2
  cases rx
  obtain ⟨u, rfl, ru⟩ := rv.one
  cases ru
  obtain ⟨z1, b1, vs1, k1, D1⟩ := dk_of I.hok hd
  obtain ⟨z2, b2, vs2, k2, D2⟩ := dk_of I.hok ho
  have hnd : (more.map (·.1)).Nodup := by
    rw [kv_keys k2]
    obtain ⟨_, _, _, _, _, _, _, _, hn⟩ := D2
    exact hn
  have hl : (mergeK kvs more).length ≤ sizeLine := Nat.le_trans (length_mergeK more kvs) hz
  refine call_meetsIn PySem.F.slot_dict_update D1.typeIs PySem.F.entry_dict_update (PySem.F.args_dict_update_2 _ _) (meets_dict_update _ d o hne b2) ⟨vs1, vs2, D1, D2, by rw [← k1.length, ← k2.length]; exact hz, fun h' d1 d2 hs => ?_⟩
  have he : ∃ q, h'.get? d = some q := let ⟨q, _, _, hq, _⟩ := d1; ⟨q, hq⟩
  exact ⟨.non, _, d_write (t' := s.toks) I (by rw [hd]; exact True.intro) hs he (dk_new hl b1 (k2.merge k1) d1), rfl, q hnd⟩
theorem valV_none {kvs : List (Key × V)} {j : Key} (h : j ∉ kvs.map (·.1)) : valV kvs j = none := by
  induction kvs with
  | nil => rfl
  | cons p r ih =>
    rw [valV_neg fun e => h (by rw [List.map_cons, e]; exact List.mem_cons_self ..)]
    exact ih fun m => h (by rw [List.map_cons]; exact List.mem_cons_of_mem _ m)
theorem valV_merge : ∀ {more kvs : List (Key × V)} (nd : (more.map (·.1)).Nodup) (j : Key), valV (mergeK kvs more) j = (valV more j).or (valV kvs j)
  | [], kvs, _, j => rfl
  | p :: r, kvs, nd, j => by
    rw [List.map_cons, List.nodup_cons] at nd
    have ih := valV_merge (more := r) (kvs := putK kvs p.1 p.2) nd.2 j
    rw [show mergeK kvs (p :: r) = mergeK (putK kvs p.1 p.2) r from rfl, ih, valV_put]
    by_cases e : p.1 = j
    · rw [valV_pos e, valV_none (by rw [← e]; exact nd.1), if_pos e.symm]
      rfl
    · rw [valV_neg e, if_neg fun z => e z.symm]
def orG (f g : Str → Option Int) : Str → Option Int := fun z => (f z).or (g z)
theorem hasF_merge {pl pl' pl'' : Option Addr} {H H' H'' : Hp} {ws more : List (Key × V)} {g go : Str → Option Int} (h : HasF pl H ws fun z => (g z).map aInt) (ho : HasF pl' H' more fun z => (go z).map aInt) (nd : (more.map (·.1)).Nodup) : HasF pl'' H'' (mergeK ws more) fun z => (orG go g z).map aInt := fun z => by
  rw [valV_merge nd]
  have a := h z
  have b := ho z
  unfold orG
  dsimp only at a b ⊢
  cases e : go z with
  | some i =>
    rw [e] at b
    obtain ⟨v, b1, b2⟩ := b.1 _ rfl
    rw [b1]
    refine ⟨fun P hP => ⟨v, rfl, ?_⟩, fun hn => nomatch hn⟩
    cases hP
    exact b2
  | none =>
    rw [e] at b
    rw [b.2 rfl]
    cases e2 : g z with
    | some i =>
      rw [e2] at a
      obtain ⟨v, a1, a2⟩ := a.1 _ rfl
      rw [a1]
      refine ⟨fun P hP => ⟨v, rfl, ?_⟩, (fun hn => by cases hn)⟩
      cases hP
      exact a2
    | none =>
      rw [e2] at a
      rw [a.2 rfl]
      exact ⟨(fun P hP => nomatch hP), fun _ => rfl⟩
/-! ### what leans on no dict -/
def cutD (H : Hp) : Hp := fun a => match H a with
  | some (.dK _) => none
  | o => o
theorem cutD_same {H : Hp} : Same (cutD H) H := fun a o h => by
  unfold cutD at h
  split at h
  · cases h
  · exact h
theorem cutD_of {H : Hp} {a : Addr} {o : HO} (h : H a = some o) (hn : ∀ ws, o ≠ .dK ws) : cutD H a = some o := by
  unfold cutD
  rw [h]
  split
  · rename_i e
    cases e
    exact absurd rfl (hn _)
  · rfl
theorem cutD_not {H : Hp} {a : Addr} {ws : List (Key × V)} : cutD H a ≠ some (.dK ws) := fun h => by
  unfold cutD at h
  split at h
  · cases h
  · rename_i hn
    exact hn _ h
theorem cutD_dK {H : Hp} {a : Addr} {ws : List (Key × V)} (h : H a = some (.dK ws)) : cutD H a = none := by
  unfold cutD
  rw [h]
def DFree (P : As) : Prop := ∀ pl H v, P.is pl H v → P.is pl (cutD H) v
theorem dfree_V {x : V} : DFree (aV x) := fun _ _ _ h => h
theorem dfree_fits {Ps : List As} (hp : ∀ P ∈ Ps, DFree P) : ∀ {pl H} {vs : List V}, Fits pl H vs Ps → Fits pl (cutD H) vs Ps := fun {pl H vs} f => by
  induction f with
  | nil => exact .nil
  | cons h t ih => exact .cons (hp _ (List.mem_cons_self ..) _ _ _ h) (ih fun P m => hp P (List.mem_cons_of_mem _ m))
theorem dfree_L {Ps : List As} (hp : ∀ P ∈ Ps, DFree P) : DFree (aLst Ps) := fun pl H v ⟨a, vs, h1, h2, h3⟩ => ⟨a, vs, h1, cutD_of h2 (fun _ h => nomatch h), dfree_fits hp h3⟩
theorem dfree_T {K : PySem.W.Frag} {Ps : List As} (hp : ∀ P ∈ Ps, DFree P) : DFree (aTup K Ps) := fun pl H v ⟨a, vs, h1, h2, h3⟩ => ⟨a, vs, h1, by
  rcases h2 with (h | ⟨o, h⟩) | h
  · exact .inl (.inl (cutD_of h fun _ h => nomatch h))
  · exact .inl (.inr ⟨o, cutD_of h fun _ h => nomatch h⟩)
  · exact .inr h, dfree_fits hp h3⟩
theorem dfree_O {C : Addr} {fs : List (Str × As)} (hp : ∀ P ∈ fs.map Prod.snd, DFree P) : DFree (aObj C fs) := fun pl H v ⟨a, dx, ws, h1, h2, h3, h4⟩ => ⟨a, dx, ws, h1, cutD_of h2 (fun _ h => nomatch h), h3, dfree_fits hp h4⟩
theorem dfree_map {α : Type} {xs : List α} {F : α → As} (h : ∀ x, DFree (F x)) : ∀ P ∈ xs.map F, DFree P := fun P hP => by
  obtain ⟨x, _, rfl⟩ := List.mem_map.mp hP
  exact h x
/-- behind a step that was taken with a smaller clean part: the clean part as it was, and what is new that is no dict -/
def joinH (Hc Hd : Hp) : Hp := fun a => match Hc a with
  | some o => some o
  | none => cutD Hd a
theorem joinH_l {Hc Hd : Hp} : Same Hc (joinH Hc Hd) := fun a o h => by
  unfold joinH
  rw [h]
section
variable {pl : Option Addr} {H Hc H' Hd : Hp}
theorem Gd.cut (g : Gd pl H Hc) : Gd pl H (cutD Hc) := ⟨fun a o h => g.sub _ _ (cutD_same _ _ h), fun p hp => by
  obtain ⟨h1, h2⟩ := g.pool p hp
  refine ⟨?_, h2⟩
  unfold cutD
  rw [h1]⟩
theorem joinH_r (g : Gd pl H Hc) (s : Stp pl H (cutD Hc) H' Hd) : Same (cutD Hd) (joinH Hc Hd) := fun a o h => by
  unfold joinH
  cases e : Hc a with
  | none => exact h
  | some u =>
    have np : pl ≠ some a := fun hp => by rw [(g.pool a hp).1] at e; cases e
    have k1 := s.keep a u np (g.sub _ _ e)
    have k2 := s.gd.sub _ _ (cutD_same _ _ h)
    rw [k1] at k2
    cases k2
    rfl
theorem Stp.uncut (g : Gd pl H Hc) (s : Stp pl H (cutD Hc) H' Hd) : Stp pl H Hc H' (joinH Hc Hd) where
  keep := s.keep
  cl := joinH_l
  gd := ⟨fun a o h => by
    unfold joinH at h
    cases e : Hc a with
    | none =>
      rw [e] at h
      exact s.gd.sub _ _ (cutD_same _ _ h)
    | some u =>
      rw [e] at h
      cases h
      exact s.keep a _ (fun hp => by rw [(g.pool a hp).1] at e; cases e) (g.sub _ _ e), fun p hp => ⟨by
      unfold joinH
      rw [(g.pool p hp).1]
      show cutD Hd p = none
      unfold cutD
      rw [(s.gd.pool p hp).1], (s.gd.pool p hp).2⟩⟩
  new := fun a o h => by
    unfold joinH at h
    cases e : Hc a with
    | some u =>
      rw [e] at h
      exact .inl h
    | none =>
      rw [e] at h
      rcases s.new a o (cutD_same _ _ h) with z | z
      · rw [cutD_same _ _ z] at e
        cases e
      · exact .inr z
/-- the clean part as it was -/
theorem Stp.back (s0 : Gd pl H Hc) (s : Stp pl H Hc H' Hd) : Stp pl H Hc H' Hc := ⟨s.keep, Same.refl _, ⟨s.sub, fun p hp => ⟨(s0.pool p hp).1, (s.gd.pool p hp).2⟩⟩, fun _ _ h => .inl h⟩
end
/-- a dict that stands apart: beyond what go tells it tells what g tells -/
def DOk (pl : Option Addr) (H0 Hc H : Hp) (N : Nat) (go g : Str → Option Int) (v : V) : Prop := ∃ (d : Addr) (ws : List (Key × V)) (f : Str → Option Int), v = .ref d ∧ H d = some (.dK ws) ∧ Hc d = none ∧ pl ≠ some d ∧ H0 d = none ∧ ws.length ≤ N ∧ HasF pl Hc ws (fun z => (f z).map aInt) ∧ ∀ z, go z = none → f z = g z
theorem hasF_int' {pl pl' : Option Addr} {H H' : Hp} {ws : List (Key × V)} {g : Str → Option Int} (h : HasF pl H ws fun z => (g z).map aInt) : HasF pl' H' ws fun z => (g z).map aInt := fun z => ⟨fun P hp => by
  obtain ⟨v, a, b⟩ := (h z).1 P hp
  refine ⟨v, a, ?_⟩
  have hp' : (g z).map aInt = some P := hp
  cases e : g z with
  | none =>
    rw [e] at hp'
    cases hp'
  | some i =>
    rw [e] at hp'
    cases hp'
    exact b, (h z).2⟩
section
variable {pl : Option Addr} {H0 Hc0 H Hc H' Hc' : Hp} {ρ : Slots} {σ : L2.St}
theorem SOk.drop (s : SOk pl H0 Hc0 ρ σ H Hc) (i : Nat) (x : Option V) (hi : ρ[i]? = some .no) : SOk pl H0 Hc0 ρ (σ.set i x) H Hc := by
  have e : ρ.set i .no = ρ := by
    refine List.ext_getElem? fun j => ?_
    by_cases hj : i = j
    · subst hj
      rw [List.getElem?_set_self (List.getElem?_eq_some_iff.mp hi).1, hi]
    · rw [List.getElem?_set_ne hj]
  have := s.forget i x
  rw [e] at this
  exact this
/-- a dict of the def's own, which no slot tells of, changes -/
theorem SOk.mutD (s : SOk pl H0 Hc0 ρ σ H Hc) {d : Addr} {ws : List (Key × V)} (h1 : H d = some (.dK ws)) (h2 : Hc d = none) (h3 : pl ≠ some d) (h4 : H0 d = none) (ws' : List (Key × V)) : SOk pl H0 Hc0 ρ σ (upd H d (.dK ws')) Hc where
  stp := s.stp.mut h4 h2 h3 _
  len := s.len
  val := s.val
  own := fun i Ps h => let ⟨p, vs, k1, k2, k3, k4, k5, k6⟩ := s.own i Ps h; ⟨p, vs, k1, by
    rw [upd_ne fun e => by
      subst e
      rw [h1] at k2
      cases k2]
    exact k2, k3, k4, k5, k6⟩
  ne := s.ne
end
end Da
set_option Elab.async false
set_option linter.all false
set_option maxRecDepth 100000
set_option maxHeartbeats 4000000
namespace Da
open PySem PySem.Spec PyProof.Rows L2 Lb
section
variable {X : Cx} {ρ : Slots} {N : Slots → Prop} {R : As → Prop} {px p1 p2 pos pos1 pos2 pos3 bpos apos cpos apos2 cpos2 : Pos} {it oe c re : Expr} {rest : List Stmt} {Pr : As} {Ps : List As} {xs : List Gn} {n m : Nat} {go : Gn} {b : Gn → Bool} {ρx : Rho}
/-- for x in it: x.update(oe); if c: y.append(re); break -/
theorem ds_forUpd (iI iR : Nat) {x y : Str} (hp : PassesOwn (model X.prog X.w) X.A X.env X.xe) (hc : X.calm = true)
    (hx0 : ρx.length = ρ.length) (hx : ∀ (i : Nat) (P : As), ρx[i]? = some (some P) → (exR ρ)[i]? = some (some P) ∧ DFree P) (hit : De X it ρx (aLst (xs.map (aDI n))))
    (hI : ρ[iI]? = some .no) (hR : ρ[iR]? = some (.own Ps)) (hg : ∀ v, Dg X (.Name x px) (aV v) [iI] [aV v])
    (ho : De X oe (exR ρ) (aDI m go)) (hcd : ∀ g ∈ xs, Dt X c ((exR ρ).set iI (some (aDI (n + xs.length * m) (orG go g)))) (b g)) (hre : De X re (exR ρ) Pr) (hz : n + xs.length * m < 1000000) (hzP : Ps.length < 100000)
    (k0 : xs.any b = false → Ds X rest ρ N R) (k1 : xs.any b = true → Ds X rest (ρ.set iR (.own (Ps ++ [Pr]))) N R)
    (hNx : X.N[iI]? = some x := by rfl) (hNy : X.N[iR]? = some y := by rfl) (hvx : Vis X.env.scope x := by first | exact Or.inl rfl | exact Or.inr (Or.inl rfl) | exact Or.inr (Or.inr rfl)) (hvy : Vis X.env.scope y := by first | exact Or.inl rfl | exact Or.inr (Or.inl rfl) | exact Or.inr (Or.inr rfl))
    (hdx : (x == ("__debug__" : Str)) = false := by decide) (hcx : (x == ("__classdict__" : Str)) = false := by decide) (hdy : (y == ("__debug__" : Str)) = false := by decide) (hcy : (y == ("__classdict__" : Str)) = false := by decide)
    (hb1 : attributeBase (.Name x p1) "update" X.env (eval (.Name x p1) X.env) = eval (.Name x p1) X.env := by rfl)
    (hfew1 : ((backTo cpos (starEach (oe :: []) X.env)).all (fun x => !x.1) && (backToKw cpos (keywordEach [] X.env)).all (fun x => x.1.isSome)
      && decide ((oe :: []).length + ([] : List Keyword).length + (if ([] : List Keyword).isEmpty then 0 else 1) < 30)) = true := by rfl)
    (hl1 : (apos.endLine == cpos.line) = true := by rfl) (hs1 : starEach (oe :: []) X.env = (false, eval oe X.env) :: starEach [] X.env := by rfl) (hq1 : (backTo cpos (starEach [] X.env)).any (·.1) = false := by rfl)
    (hw1 : swapsWith (.Call (.Attribute (.Name x p1) "update" apos) [oe] [] cpos) none pos1.line X.env = pure false := by rfl)
    (hb2 : attributeBase (.Name y p2) "append" X.env (eval (.Name y p2) X.env) = eval (.Name y p2) X.env := by rfl)
    (hfew2 : ((backTo cpos2 (starEach (re :: []) X.env)).all (fun x => !x.1) && (backToKw cpos2 (keywordEach [] X.env)).all (fun x => x.1.isSome)
      && decide ((re :: []).length + ([] : List Keyword).length + (if ([] : List Keyword).isEmpty then 0 else 1) < 30)) = true := by rfl)
    (hl2 : (apos2.endLine == cpos2.line) = true := by rfl) (hs2 : starEach (re :: []) X.env = (false, eval re X.env) :: starEach [] X.env := by rfl) (hq2 : (backTo cpos2 (starEach [] X.env)).any (·.1) = false := by rfl)
    (hw2 : swapsWith (.Call (.Attribute (.Name y p2) "append" apos2) [re] [] cpos2) none pos2.line X.env = pure false := by rfl)
    (hs : ∀ x, foldedSetIterable it X.env x = pure x := by intro _; rfl) :
    Ds X (.For (.Name x px) it [.Expr (.Call (.Attribute (.Name x p1) "update" apos) [oe] [] cpos) pos1, .If c [.Expr (.Call (.Attribute (.Name y p2) "append" apos2) [re] [] cpos2) pos2, .Break bpos] [] pos3] [] pos :: rest) ρ N R := fun pl H0 Hc0 σ H D ⟨Hc, s⟩ hn hr => by
  have gc := s.stp.gd
  have evx : EnvOk pl (cutD Hc) σ ρx := ⟨by rw [s.len, hx0], fun i P h => by
    obtain ⟨h1, h2⟩ := hx i P h
    obtain ⟨v, a1, a2⟩ := s.env.at_ i P h1
    exact ⟨v, a1, h2 _ _ _ a2⟩⟩
  refine tSs_of (pss_cons (ps_for hp hc (pi_list pe_can) pg_can (pss_cons (ps_expr (pe_bm PySem.F.plainAttrs_dict PySem.F.slot_dict_update PySem.F.type_dict_update mt_update (pe_var hNx hvx hdx hcx) (pa_cons pe_can pa_nil hs1) hb1 hfew1 hl1 hs1 hq1) hw1)
    (pss_cons (ps_if pt_can (pss_cons (ps_expr (pe_bm PySem.F.plainAttrs_list PySem.F.slot_list_append PySem.F.type_list_append mt_append (pe_var hNy hvy hdy hcy) (pa_cons pe_can pa_nil hs2) hb2 hfew2 hl2 hs2 hq2) hw2) (pss_cons ps_break pss_nil)) pss_nil) pss_nil)) hs) pss_can) ?_
  refine hit pl σ H (cutD Hc) gc.cut evx _ fun v H1 Hd s1 ⟨a, vs, e1, e2, f⟩ => ⟨a, e1, ⟨vs, SqL.of (s1.gd.sub _ _ e2)⟩, ?_⟩
  have s1' := Stp.uncut gc s1
  have hlen : vs.length = xs.length := by rw [f.len, List.length_map]
  have ha1 : joinH Hc Hd a = some (.lst vs) := joinH_r gc s1 _ _ (cutD_of e2 fun _ h => nomatch h)
  refine for_list (fun i σ' H' => ∃ Hc', SOk pl H0 Hc0 ρ σ' H' Hc' ∧ Same (joinH Hc Hd) Hc' ∧ i ≤ xs.length ∧ (∀ (j : Nat) (g : Gn), xs[j]? = some g → ∃ v, vs[j]? = some v ∧ DOk pl H0 Hc' H' (n + i * m) go g v) ∧ ∀ g ∈ xs.take i, b g = false)
    ⟨joinH Hc Hd, s.step s1', Same.refl _, Nat.zero_le _, fun j g hj => ?_, fun g hg => (by rw [List.take_zero] at hg; cases hg)⟩ (fun i σ' H' hi ⟨Hc', s', sm, _⟩ => SqL.of (s'.stp.gd.sub _ _ (sm _ _ ha1))) (fun i v σ' H' hv ⟨Hc', s', sm, hi, hd, hf⟩ => ?_) (fun σ' H' ⟨Hc', s', sm, hi, hd, hf⟩ => ?_)
  · obtain ⟨v, hv, d, ws, q1, q2, q3, q4⟩ := f.get (i := j) (P := aDI n g) (by rw [List.getElem?_map, hj]; rfl)
    have np : pl ≠ some d := fun hp => by
      rw [(s1.gd.pool d hp).1] at q2
      cases q2
    have k : H1 d = some (.dK ws) := s1.gd.sub _ _ q2
    have hn : H d = none := by
      rcases s1.new d _ q2 with z | z | ⟨us, z⟩
      · exact absurd z cutD_not
      · exact z
      · rw [s1.keep d _ np z] at k
        cases k
    have h0 : H0 d = none := by
      cases e : H0 d with
      | none => rfl
      | some o =>
        rw [s.stp.keep d o np e] at hn
        cases hn
    refine ⟨v, hv, d, ws, g, q1, k, ?_, np, h0, by omega, hasF_int' q4, fun _ _ => rfl⟩
    show joinH Hc Hd d = none
    unfold joinH
    rw [clean_none gc hn]
    exact cutD_dK q2
  · have hix : i < xs.length := by
      have := (List.getElem?_eq_some_iff.mp hv).1
      omega
    have hgx : xs[i]? = some xs[i] := List.getElem?_eq_getElem hix
    have hgm : xs[i] ∈ xs := List.getElem_mem hix
    obtain ⟨v', hv', d, ws, f0, q1, q2, q3, q4, q5, q6, q7, q8⟩ := hd i _ hgx
    rw [hv] at hv'
    cases hv'
    subst q1
    refine hg _ pl σ' H' Hc' _ s'.stp.gd rfl _ fun us fu lu => ?_
    obtain ⟨u, e3, hu⟩ := one fu
    subst e3
    have hu' : u = V.ref d := hu
    subst hu'
    have il : iI < σ'.length := by rw [s'.len]; exact (List.getElem?_eq_some_iff.mp hI).1
    have at_ : (σ'.set iI (some (V.ref d)))[iI]? = some (some (.ref d)) := List.getElem?_set_self il
    have sd := s'.drop iI (some (V.ref d)) hI
    refine ⟨V.ref d, at_, .inr (.inr (.inl ⟨rfl, .inl ⟨_, q2⟩⟩)), ?_⟩
    refine ho pl _ H' Hc' sd.stp.gd sd.env _ fun v2 H3 Hc3 s3 ⟨o, more, r1, r2, r3, r4⟩ => ?_
    subst r1
    have d3 : H3 d = some (.dK ws) := s3.keep d _ q4 q2
    have c3 : Hc3 d = none := s3.clean q2 q3
    have hne : d ≠ o := fun e => by
      subst e
      rw [c3] at r2
      cases r2
    have hmul : (i + 1) * m ≤ xs.length * m := Nat.mul_le_mul_right _ hix
    have hmul2 : (i + 1) * m = i * m + m := Nat.succ_mul i m
    refine ⟨d, o, ws, more, rfl, rfl, d3, s3.gd.sub _ _ r2, hne, Nat.le_of_lt (small_of (by omega)), fun nd => ?_⟩
    have sok3 := sd.step s3
    have sok4 := sok3.mutD d3 c3 q4 q5 (mergeK ws more)
    have hl4 : (mergeK ws more).length ≤ n + (i + 1) * m := Nat.le_trans (length_mergeK more ws) (by omega)
    obtain ⟨pr, smp⟩ := Out.promote sok4.stp upd_same c3 q4 q5
    have hmix : ∀ {g : Gn} {f : Gn}, (∀ z, go z = none → f z = g z) → orG go f = orG go g := fun {g f} h => by
      funext z
      unfold orG
      cases e : go z with
      | some i => rfl
      | none => exact h z e
    have ev5 : EnvOk pl (upd Hc3 d (.dK (mergeK ws more))) (σ'.set iI (some (V.ref d))) ((exR ρ).set iI (some (aDI (n + xs.length * m) (orG go xs[i])))) := ((s'.step s3).env.mono smp).set iI ⟨d, _, rfl, upd_same, by omega, by
      rw [← hmix q8]
      exact hasF_merge q7 r4 nd⟩
    refine hcd _ hgm pl _ _ _ pr.gd ev5 _ fun H5 Hc5 s5 => ?_
    have t5 : Stp pl (upd H3 d (.dK (mergeK ws more))) Hc3 H5 Hc3 := ⟨s5.keep, Same.refl _, ⟨fun q o h => s5.sub q o (smp q o h), fun p hp => ⟨(sok4.stp.gd.pool p hp).1, (s5.gd.pool p hp).2⟩⟩, fun _ _ h => .inl h⟩
    have sok5 := sok4.step t5
    cases hb : b xs[i] with
    | false =>
      refine iteF ⟨Hc3, sok5, sm.trans s3.cl, hix, fun j g hj => ?_, fun g hg => ?_⟩
      · obtain ⟨v6, hv6, d6, ws6, f6, z1, z2, z3, z4, z5, z6, z7, z8⟩ := hd j g hj
        by_cases hde : d6 = d
        · subst hde
          rw [q2] at z2
          cases z2
          exact ⟨v6, hv6, d6, _, orG go f6, z1, t5.keep _ _ q4 upd_same, c3, q4, q5, hl4, hasF_merge z7 r4 nd, fun z hz => by
            unfold orG
            rw [hz]
            exact z8 z hz⟩
        · have k6 : H3 d6 = some (.dK ws6) := s3.keep d6 _ z4 z2
          exact ⟨v6, hv6, d6, ws6, f6, z1, t5.keep _ _ z4 (by rw [upd_ne hde]; exact k6), s3.clean z2 z3, z4, z5, by omega, hasF_int' z7, z8⟩
      · rw [take_more hgx, List.mem_append] at hg
        rcases hg with h | h
        · exact hf g h
        · rw [List.mem_singleton] at h
          rw [h]
          exact hb
    | true =>
      refine iteT ?_
      obtain ⟨q, us, w1, w2, w3, w4, w5, w6⟩ := sok5.own iR Ps hR
      refine ⟨_, w1, .inl ⟨rfl, _, SqL.of w2⟩, ?_⟩
      refine hre pl _ H5 Hc3 sok5.stp.gd sok5.env _ fun v7 H7 Hc7 s7 hv7 => ⟨q, us, v7, rfl, rfl, s7.keep q _ w4 w2, small_of (by rw [w6.len]; omega), ?_⟩
      have ha : xs.any b = true := List.any_eq_true.mpr ⟨_, hgm, hb⟩
      exact k1 ha pl H0 Hc0 _ _ D ⟨Hc7, (sok5.step s7).mut hR w1 ((w6.mono s7.cl).app (.cons hv7 .nil))⟩ hn hr
  · have ha : xs.any b = false := List.any_eq_false.mpr fun g hg => by
      rw [hlen, List.take_length] at hf
      rw [hf g hg]
      decide
    exact k0 ha pl H0 Hc0 σ' H' D ⟨Hc', s'⟩ hn hr
end
end Da
set_option Elab.async false
set_option linter.all false
set_option maxRecDepth 100000
set_option maxHeartbeats 4000000
namespace Lb
open PySem PySem.Spec PyProof.Rows L2 Da PySem.W
theorem dfree_tie {K : PySem.W.Frag} (t : Tie) : DFree (aTie K t) := dfree_T (match t with
  | .fixed o n => fun P h => by
    rcases List.mem_cons.mp h with rfl | h
    · exact dfree_V
    · rcases List.mem_cons.mp h with rfl | h
      · exact dfree_V
      · rw [List.mem_singleton.mp h]
        exact dfree_V
  | .op w ns => fun P h => by
    rcases List.mem_cons.mp h with rfl | h
    · exact dfree_V
    · exact dfree_map (fun _ => dfree_V) P h
  | .rows ws rs => fun P h => by
    rcases List.mem_cons.mp h with rfl | h
    · exact dfree_V
    · rcases List.mem_cons.mp h with rfl | h
      · exact dfree_T (dfree_map fun _ => dfree_V)
      · rw [List.mem_singleton.mp h]
        exact dfree_T (dfree_map fun _ => dfree_T (dfree_map fun _ => dfree_V)))
theorem dfree_part {K : PySem.W.Frag} (q : Str × List Tie) : DFree (aPart K q) := dfree_T fun P h => by
  rcases List.mem_cons.mp h with rfl | h
  · exact dfree_V
  · rw [List.mem_singleton.mp h]
    exact dfree_L (dfree_map dfree_tie)
theorem dfree_wire {K : PySem.W.Frag} (q : Str × Nat) : DFree (aWire K q) := dfree_T fun P h => by
  rcases List.mem_cons.mp h with rfl | h
  · exact dfree_V
  · rw [List.mem_singleton.mp h]
    exact dfree_V
theorem dfree_wk {K : PySem.W.Frag} (y : Wk) : DFree (aWk K y) := dfree_O fun P h => by
  rcases List.mem_cons.mp h with rfl | h
  · exact dfree_L (dfree_map dfree_wire)
  · rcases List.mem_cons.mp h with rfl | h
    · exact dfree_L (dfree_map dfree_part)
    · rcases List.mem_cons.mp h with rfl | h
      · exact fun _ _ _ _ => trivial
      · rw [List.mem_singleton.mp h]
        exact fun _ _ _ _ => trivial
theorem fold_dom {y : Wk} : ∀ {ns : List Str} {found : List Gn} {g : Gn}, g ∈ ns.foldl (stepG y) found → ∃ g0 ∈ found, ∀ z, (z ∈ ns → ∃ v : Nat, g z = some (v : Int) ∧ v < mN y z) ∧ (z ∉ ns → g z = g0 z)
  | [], found, g, h => ⟨g, h, fun z => ⟨(fun h => nomatch h), fun _ => rfl⟩⟩
  | a :: r, found, g, h => by
    obtain ⟨g1, h1, h2⟩ := fold_dom (ns := r) (found := stepG y found a) h
    unfold stepG at h1
    obtain ⟨g0, h3, h4⟩ := List.mem_flatMap.mp h1
    obtain ⟨v, h5, h6⟩ := List.mem_map.mp h4
    refine ⟨g0, h3, fun z => ⟨fun hz => ?_, fun hz => ?_⟩⟩
    · by_cases hr : z ∈ r
      · exact (h2 z).1 hr
      · have e : z = a := (List.mem_cons.mp hz).resolve_right hr
        subst e
        refine ⟨v, ?_, List.mem_range.mp h5⟩
        rw [(h2 z).2 hr, ← h6]
        exact if_pos rfl
    · rw [(h2 z).2 fun hr => hz (List.mem_cons_of_mem _ hr), ← h6]
      exact if_neg fun e => hz (by rw [e]; exact List.mem_cons_self ..)
theorem fillL_dom {y : Wk} {ns : List Str} {g : Gn} (h : g ∈ fillL y ns) (z : Str) : (z ∈ ns → ∃ v : Nat, g z = some (v : Int) ∧ v < mN y z) ∧ (z ∉ ns → g z = none) := by
  obtain ⟨g0, h1, h2⟩ := fold_dom h
  rw [List.mem_singleton.mp h1] at h2
  exact h2 z
def outerL (y : Wk) (l : List Nat) (ns : List Str) : List Str := (wiresL y l).filter fun z => !decide (z ∈ ns)
def tiesL (y : Wk) (l : List Nat) : List Tie := l.flatMap fun p => tiesAt y p
def opensB (y : Wk) (ts : List Tie) (ns : List Str) (go : Gn) : Bool := (fillL y ns).any fun g => ts.all fun t => holdsB (mG y) t (orG go g)
def stageRows (y : Wk) (ts : List Tie) (os ns : List Str) : List (List Int) := ((fillL y os).filter fun go => opensB y ts ns go).map fun go => os.map fun z => (go z).getD 0
def stageT (y : Wk) (l : List Nat) (ns : List Str) : Tie := .rows (outerL y l ns) (stageRows y (tiesL y l) (outerL y l ns) ns)
section
variable {P : Program} {w : World} {K : PySem.W.Frag} {mg : Str → Option Value} {base : Heap}
theorem scStageTie : FnScope ["work", "lot", "inner", "wires", "outer", "name", "ties", "part", "tie", "manys", "rows", "outside", "inside"] ["work", "lot", "inner"] (defScope sStageTie) := ⟨rfl, rfl, rfl, by decide +kernel, rfl, by decide +kernel, by decide +kernel⟩
theorem stage_tie_ok (T : Txt w K mg) : Fok P w K mg base 4 "stage_tie" ["work", "lot", "inner"] (spF (α := Wk × List Nat × List Str) (fun q => OkWk q.1 ∧ q.2.1.length < 1000 ∧ (∀ p ∈ q.2.1, p < q.1.2.length) ∧ q.2.2.length ≤ 8 ∧ ∀ z ∈ q.2.2, z ∈ q.1.1.map (·.1)) (fun q => [aWk K q.1, aLot K q.2.1, aLst (q.2.2.map aStr)]) (fun q => aTie K (stageT q.1 q.2.1 q.2.2))) := by
  refine fok_of T.f_StageTie T.g_stage_tie scStageTie (fun _ => rfl) (fun _ F => F.bindsN fun _ _ _ _ _ _ us hl => match us, hl with | [_, _, _], _ => rfl) fun y hy cdv A outer s H E hr => ?_
  have hN := scStageTie.nd
  obtain ⟨y, l, ns⟩ := y
  obtain ⟨hk, few, lt, n8, hin⟩ := hy
  replace hk : OkWk y := hk
  have few' : l.length < 1000 := few
  have n8' : ns.length ≤ 8 := n8
  have h1 : y.1.length ≤ 8 := hk.ws.hi
  have h2 : y.2.length ≤ 7 := hk.ps.hi
  have hw : (wiresL y l).length ≤ 8 := by
    unfold wiresL
    rw [List.length_map]
    exact Nat.le_trans (List.length_filter_le _ _) h1
  have hwin : ∀ z ∈ wiresL y l, z ∈ y.1.map (·.1) := fun z hz => by
    unfold wiresL at hz
    obtain ⟨q, hq, rfl⟩ := List.mem_map.mp hz
    exact List.mem_map.mpr ⟨q, (List.mem_filter.mp hq).1, rfl⟩
  have ho8 : (outerL y l ns).length ≤ 8 := Nat.le_trans (List.length_filter_le _ _) hw
  have hoin : ∀ z ∈ outerL y l ns, z ∈ y.1.map (·.1) := fun z hz => hwin z (List.mem_filter.mp hz).1
  have okt : ∀ {p : Nat} {t : Tie}, t ∈ tiesAt y p → OkTie (y.1.map (·.1)) t := fun ht => by
    obtain ⟨q, hq, hm⟩ := tiesAt_in ht
    exact (hk.ps.tie q hq _ hm).1
  have htl : (tiesL y l).length ≤ l.length * 24 := flat_le fun p _ => tiesAt_few hk p
  have hcount : ∀ {ms : List Str}, ms.length ≤ 8 → (∀ z ∈ ms, z ∈ y.1.map (·.1)) → (fillL y ms).length ≤ 65536 := fun {ms} hl hm => Nat.le_trans (fillL_len hk ms.length rfl hm) (Nat.le_trans (Nat.pow_le_pow_right (by decide) hl) (by decide))
  have hask : ∀ go ∈ fillL y (outerL y l ns), ∀ g ∈ fillL y ns, ∀ t ∈ tiesL y l, ∀ n1 n2, OkAsk ⟨n1, mG y, t, n2, orG go g⟩ := fun go hgo g hg t ht n1 n2 => by
    obtain ⟨p, hp, ht'⟩ := List.mem_flatMap.mp ht
    obtain ⟨k1, k2⟩ := okT_names (okt ht')
    refine ⟨k1, fun z hz => mG_some hk (k2 z hz), fun z hz => ?_⟩
    have hu : z ∈ wiresL y l := by
      obtain ⟨q, hq, hqz⟩ := List.mem_map.mp (k2 z hz)
      refine List.mem_map.mpr ⟨q, List.mem_filter.mpr ⟨hq, decide_eq_true ?_⟩, hqz⟩
      have hqz' : q.1 = z := hqz
      rw [hqz']
      refine List.mem_flatMap.mpr ⟨p, hp, List.mem_flatMap.mpr ⟨t, ht', ?_⟩⟩
      cases t with
      | fixed o n => exact hz
      | op wd ns => exact dedup_mem.mpr hz
      | rows ws rs => exact hz
    show ∃ i, orG go g z = some i
    unfold orG
    by_cases hn : z ∈ ns
    · obtain ⟨v, e, _⟩ := (fillL_dom hg z).1 hn
      rw [e, (fillL_dom hgo z).2 fun h => by simpa [hn] using (List.mem_filter.mp h).2]
      exact ⟨_, rfl⟩
    · obtain ⟨v, e, _⟩ := (fillL_dom hgo z).1 (List.mem_filter.mpr ⟨hu, by rw [decide_eq_false hn]; rfl⟩)
      rw [e]
      exact ⟨_, rfl⟩
  refine ds_set 3 hN (d_cl (wires_of_lot_ok T) hr (y, l) ⟨hk, few, lt⟩ (da2 (d_v 0) (d_v 1))) ?_
  refine ds_setFil 4 (xs := wiresL y l) (Pt := aStr) (is := [5]) (Ts := fun z => [aStr z]) (b := fun z => !decide (z ∈ ns)) (F := aStr) [("name", 5)] hN (blkOk_by (by kernel_rfl)) (di_list (d_v 3)) (fun _ _ _ _ _ c _ => dg_name 5 hN) (fun _ _ _ _ _ c _ => dt_ninSL (d_v 5) (d_v 2)) (fun _ _ _ _ _ c _ _ => d_v 5) (by omega) ?_
  refine ds_setLc2 6 (xs := l) (Pt := fun p => aInt (p : Int)) (is := [7]) (Ts := fun p => [aInt (p : Int)]) (ys := fun p => tiesAt y p) (P1 := fun _ t => aTie K t) (is1 := [8]) (Ts1 := fun _ t => [aTie K t]) (F := fun _ t => aTie K t) [("part", 7), ("tie", 8)] [8] hN (blkOk_by (by kernel_rfl))
    (di_tup (De.as (P := aLot K l) (d_v 1) ?_)) (fun _ _ _ _ _ c _ => dg_name 7 hN) (fun _ _ _ _ _ p hp => ?_) (fun _ _ _ _ _ c _ t _ => dg_name 8 hN) (fun _ _ _ _ _ c _ t _ => d_v 8) (by show (tiesL y l).length < _; omega) ?_ rfl
  · show aTup K (List.map aInt (List.map (fun p : Nat => (p : Int)) l)) = _
    rw [List.map_map]
    rfl
  · have hlt : p < y.2.length := lt p hp
    refine di_list (d_ixT (P := aLst ((tiesAt y p).map (aTie K))) (Ps := [aStr y.2[p].1, aLst (y.2[p].2.map (aTie K))]) 1 (d_ixL (P := aPart K y.2[p]) p (d_meth (m_parts T) T.cl hr y (by show y.2.length < 1000; omega) (d_v 0) rfl) (d_v 7) (by rw [List.getElem?_map, List.getElem?_eq_getElem hlt]; rfl)) d_int ?_)
    show some _ = _
    unfold tiesAt
    rw [List.getElem?_eq_getElem hlt]
  have et : (l.flatMap fun p => (tiesAt y p).map fun t => aTie K t) = (tiesL y l).map (aTie K) := by
    unfold tiesL
    rw [List.map_flatMap]
  rw [et]
  refine ds_set 9 hN (d_cl (manys_of_ok T) hr y trivial (da1 (d_v 0))) ?_
  refine ds_setOwn 10 hN (dn_lst da_nil) ?_
  refine ds_for (α := Gn) (xs := fillL y (outerL y l ns)) (Pt := fun g => aDI (outerL y l ns).length g) (is := [11]) (Ts := fun g => [aDI (outerL y l ns).length g]) (fun i ρ => ∃ Z, ρ = [.v (aWk K y), .v (aLot K l), .v (aLst (ns.map aStr)), .v (aLst ((wiresL y l).map aStr)), .v (aLst ((outerL y l ns).map aStr)), .no, .v (aLst ((tiesL y l).map (aTie K))), .no, .no, .v (aDI y.1.length (mG y)), .own ((((fillL y (outerL y l ns)).take i).filter fun go => opensB y (tiesL y l) ns go).map fun go => aTup K ((outerL y l ns).map fun z => aInt ((go z).getD 0))), Z, .no]) (fun _ _ h => False.elim h) rfl (di_list (d_cl (fillings_ok T) hr (y, outerL y l ns) ⟨hk, ho8, hoin⟩ (da2 (d_v 0) (d_v 4)))) ⟨.no, rfl⟩ (fun n _ => dg_name 11 hN) (fun i go hgo' ρ' ⟨Z, e⟩ => ?_) (fun ρ' ⟨Z, e⟩ => ?_) (fun _ _ => rfl)
  · subst e
    have hgo := List.mem_of_getElem? hgo'
    have hn65 := hcount n8' hin
    have ho65 := hcount ho8 hoin
    refine ds_forUpd (xs := fillL y ns) (n := ns.length) (m := (outerL y l ns).length) (go := go) (Pr := aTup K ((outerL y l ns).map fun z => aInt ((go z).getD 0))) (b := fun g => (tiesL y l).all fun t => holdsB (mG y) t (orG go g)) (ρx := some (aWk K y) :: none :: some (aLst (ns.map aStr)) :: List.replicate 10 none) 12 10 (fun _ _ h => False.elim h) rfl rfl (fun i P h => ?_) (d_cl (fillings_ok T) hr (y, ns) ⟨hk, n8, hin⟩ (da2 (d_v 0) (d_v 2))) rfl rfl (fun v => dg_name 12 hN) (d_v 11)
      (fun g hg => dt_val (d_allC (xs := tiesL y l) (P := aTie K) (Ps := fun t => [aTie K t]) (f := fun t => holdsB (mG y) t (orG go g)) [("tie", 8)] T.b_all hN (blkOk_by (by kernel_rfl)) (di_list (d_v 6)) (fun _ _ _ _ _ c _ => dg_name 8 hN) (fun _ _ _ _ _ t ht => d_cl (tie_holds_ok T) hr ⟨_, mG y, t, _, orG go g⟩ (hask go hgo g hg t ht _ _) (da_cons (d_v 9) (da2 (d_v 8) (d_v 12)))) (by omega)))
      (d_tupleL T.b_tuple (d_map (xs := outerL y l ns) (P := aStr) (Ps := fun z => [aStr z]) (F := fun z => aInt ((go z).getD 0)) [("name", 5)] hN (blkOk_by (by kernel_rfl)) (di_list (d_v 4)) (fun _ _ _ _ _ c _ => dg_name 5 hN) (fun _ _ _ _ _ z hz => d_dgetI (z := z) hr (d_v 11) (d_v 5) (by obtain ⟨v, e, _⟩ := (fillL_dom hgo z).1 hz; rw [e]; rfl)) (by omega)))
      (by have : (fillL y ns).length * (outerL y l ns).length ≤ 65536 * 8 := Nat.mul_le_mul hn65 ho8; omega) ?_ (fun hb => ds_nil ⟨.v (aDI (outerL y l ns).length go), ?_⟩) (fun hb => ds_nil ⟨.v (aDI (outerL y l ns).length go), ?_⟩)
    · match i, h with
      | 0, h => cases h; exact ⟨rfl, dfree_wk y⟩
      | 1, h => cases h
      | 2, h => cases h; exact ⟨rfl, dfree_L (dfree_map fun _ => dfree_V)⟩
      | i + 3, h =>
        have := List.eq_of_mem_replicate (List.mem_of_getElem? (l := List.replicate 10 (none : Option As)) (i := i) h)
        cases this
    · rw [List.length_map]
      exact Nat.lt_of_le_of_lt (List.length_filter_le _ _) (by rw [List.length_take]; omega)
    · rw [take_more hgo', List.filter_append, List.filter_cons, if_neg (by show ¬ opensB y (tiesL y l) ns go = true; unfold opensB; rw [hb]; decide), List.filter_nil, List.append_nil]
      rfl
    · rw [take_more hgo', List.filter_append, List.filter_cons, if_pos (by show opensB y (tiesL y l) ns go = true; exact hb), List.filter_nil, List.map_append]
      rfl
  · subst e
    rw [List.take_length]
    have e3 : (stageRows y (tiesL y l) (outerL y l ns) ns).map (aRow K) = (((fillL y (outerL y l ns)).filter fun go => opensB y (tiesL y l) ns go).map fun go => aTup K ((outerL y l ns).map fun z => aInt ((go z).getD 0))) := by
      unfold stageRows
      rw [List.map_map]
      refine List.map_congr_left fun go _ => ?_
      show aTup K (List.map aInt _) = _
      rw [List.map_map]
      rfl
    refine ds_ret (d_tup (da_cons d_str (da2 (d_tupleL T.b_tuple (d_v 4)) (d_tupleL T.b_tuple (d_v 10))))) (Imp.of ?_)
    show aTup K [_, _, _] = aTup K [_, _, aTup K ((stageRows y (tiesL y l) (outerL y l ns) ns).map (aRow K))]
    rw [e3]
    rfl
end
end Lb
set_option Elab.async false
set_option linter.all false
set_option maxRecDepth 100000
set_option maxHeartbeats 4000000
namespace Da
open PySem PySem.Spec PyProof.Rows L2
/-! ### statements that may raise: W takes it; bad, that it does -/
def DsE (X : Cx) (W : WX) (C : Value) (bad : Prop) (sts : List Stmt) (ρ : Slots) (N : Slots → Prop) (R : As → Prop) : Prop := ∀ pl H0 Hc0 σ H (D : Ends), St1 pl H0 Hc0 ρ σ H → (∀ ρ' σ' H', N ρ' → St1 pl H0 Hc0 ρ' σ' H' → D.nx σ' H') → (∀ P v H' Hc', R P → Stp pl H0 Hc0 H' Hc' → P.is pl Hc' v → D.rt v H') →
  (bad → ∀ d σ' H' Hc', Stp pl H0 Hc0 H' Hc' → W C d σ' H') → tSs X sts D σ H
section
variable {X : Cx} {W : WX} {C : Value} {bad : Prop} {ρ : Slots} {N M : Slots → Prop} {R : As → Prop} {pos p' pos' : Pos} {e c : Expr} {P : As} {Ps : List As} {rest A B body : List Stmt} {st : Stmt}
theorem Ds.toE (h : Ds X rest ρ N R) : DsE X W C bad rest ρ N R := fun pl H0 Hc0 σ H D s hn hr _ => h pl H0 Hc0 σ H D s hn hr
theorem dse_set (i : Nat) {x : Str} (hN : X.N.Nodup) (he : De X e (exR ρ) P) (k : DsE X W C bad rest (ρ.set i (.v P)) N R) (hi : X.N[i]? = some x := by rfl) (hx : Loc X.env.scope x := by first | exact Or.inl rfl | exact Or.inr rfl) (hs : swapsWith e (some (.Name x p')) pos.line X.env = pure false := by rfl) (hf : X.fn x = true ∨ X.env.scope.names.lookup x = some .local := by first | exact .inl rfl | exact .inr rfl | assumption) :
    DsE X W C bad (.Assign [.Name x p'] e pos :: rest) ρ N R := fun pl H0 Hc0 σ H D ⟨Hc, s⟩ hn hr hE =>
  tSs_of (pss_cons (ps_set hN hi hx pe_can hs hf) pss_can) (he pl σ H Hc s.stp.gd s.env _ fun v H1 Hc1 t hv => k pl H0 Hc0 _ H1 D ⟨Hc1, (s.step t).setV i hv⟩ hn hr hE)
theorem dse_expr (he : De X e (exR ρ) P) (k : DsE X W C bad rest ρ N R) (hs : swapsWith e none pos.line X.env = pure false := by rfl) : DsE X W C bad (.Expr e pos :: rest) ρ N R := fun pl H0 Hc0 σ H D ⟨Hc, s⟩ hn hr hE =>
  tSs_of (pss_cons (ps_expr pe_can hs) pss_can) (he pl σ H Hc s.stp.gd s.env _ fun v H1 Hc1 t hv => k pl H0 Hc0 _ H1 D ⟨Hc1, s.step t⟩ hn hr hE)
theorem dse_ifR {b : Bool} (hc : Dt X c (frR ρ) b) (h1 : b = true → DsE X W C bad A ρ (fun _ => False) R) (k : b = false → DsE X W C bad rest ρ N R) : DsE X W C bad (.If c A [] pos :: rest) ρ N R := fun pl H0 Hc0 σ H D ⟨Hc, s⟩ hn hr hE => by
  obtain ⟨Hc1, t1, sm, ev⟩ := s.freeze
  refine tSs_of (pss_cons (ps_if pt_can pss_can pss_can) pss_can) (hc pl σ H Hc1 t1.gd ev _ fun H1 Hc2 t => ?_)
  have s' : St1 pl H0 Hc0 ρ σ H1 := ⟨Hc, s.thaw sm t⟩
  cases b with
  | true => exact iteT (h1 rfl pl H0 Hc0 σ H1 _ s' (fun ρ' σ' H' m st => m.elim) hr hE)
  | false => exact iteF (tSs_of pss_nil (k rfl pl H0 Hc0 σ H1 D s' hn hr hE))
theorem dse_for {α : Type} {tg it : Expr} {xs : List α} {Pt : α → As} {is : List Nat} {Ts : α → List As} (I : Nat → Slots → Prop) (hp : PassesOwn (model X.prog X.w) X.A X.env X.xe) (hc : X.calm = true) (hi : Di X tg it (exR ρ) xs Pt) (h0 : I 0 ρ) (hg : ∀ x ∈ xs, Dg X tg (Pt x) is (Ts x))
    (hb : ∀ i x, xs[i]? = some x → ∀ ρ', I i ρ' → DsE X W C bad body (is.zip (Ts x) |>.foldl (fun r q => r.set q.1 (.v q.2)) ρ') (I (i + 1)) R) (k : ∀ ρ', I xs.length ρ' → DsE X W C bad rest ρ' N R) (hl : ∀ x ∈ xs, (Ts x).length = is.length) (hs : ∀ x, foldedSetIterable it X.env x = pure x := by intro _; rfl) :
    DsE X W C bad (.For tg it body [] pos :: rest) ρ N R := fun pl H0 Hc0 σ H D ⟨Hc, s⟩ hn hr hE => by
  refine tSs_of (pss_cons (ps_for hp hc pi_can pg_can pss_can hs) pss_can) (hi pl σ H Hc s.stp.gd s.env _ fun J H1 Hc1 t y => ?_)
  refine ⟨fun i m σ' H' => m = xs.length - i ∧ i ≤ xs.length ∧ ∃ ρ' Hc', I i ρ' ∧ SOk pl H0 Hc0 ρ' σ' H' Hc' ∧ Same Hc1 Hc', ⟨xs.length, by simp, Nat.zero_le _, ρ, Hc1, h0, s.step t, Same.refl _⟩, ?_⟩
  rintro i m σ' H' ⟨rfl, hle, ρ', Hc', hI, s', sm⟩
  obtain ⟨y1, y2⟩ := y i H' Hc' sm s'.stp.gd
  by_cases hlt : i < xs.length
  · have hx : xs[i]? = some xs[i] := by simp [hlt]
    have hm : xs[i] ∈ xs := List.getElem_mem hlt
    obtain ⟨go, yl⟩ := y1 (Pt xs[i]) (by rw [List.getElem?_map, hx]; rfl)
    refine .inr ⟨go, fun σ2 H2 => ∃ ρ' Hc', I (i + 1) ρ' ∧ SOk pl H0 Hc0 ρ' σ2 H2 Hc' ∧ Same Hc1 Hc', fun σ2 H2 n2 => ⟨xs.length - (i + 1), by omega, rfl, hlt, n2⟩, fun v H3 hv => ?_⟩
    obtain ⟨Hc3, s3, pv⟩ := yl v H3 hv
    refine hg _ hm pl σ' H3 Hc3 v s3.gd pv _ fun vs f3 l3 => ?_
    have sA : ∀ (is : List Nat) (vs : List V) (Qs : List As) (r : Slots) (τ : L2.St), SOk pl H0 Hc0 r τ H3 Hc3 → Fits pl Hc3 vs Qs → vs.length = is.length → SOk pl H0 Hc0 (is.zip Qs |>.foldl (fun r q => r.set q.1 (.v q.2)) r) (setAll τ is vs) H3 Hc3 := by
      intro is
      induction is with
      | nil =>
        intro vs Qs r τ h f l
        cases f with
        | nil => exact h
        | cons a b => cases l
      | cons a as ih =>
        intro vs Qs r τ h f l
        cases f with
        | nil => cases l
        | cons f1 f2 => exact ih _ _ _ _ (h.setV a f1) f2 (by simpa using l)
    have s4 := sA is vs (Ts xs[i]) ρ' σ' (s'.step s3) f3 l3
    obtain ⟨H9, s9, u1, u2⟩ := s4.rebase
    exact hb i _ hx ρ' hI pl H9 Hc3 _ H3 _ ⟨Hc3, s9⟩ (fun ρ2 σ2 H2 n2 ⟨Hc2, st2⟩ => ⟨ρ2, Hc2, n2, SOk.unbase u1 u2 st2, (sm.trans s3.cl).trans st2.stp.cl⟩) (fun P v H2 Hc2 r2 t2 h2 => hr P v H2 Hc2 r2 (u1 _ _ t2) h2) fun hb d σ2 H2 Hc2 t2 => hE hb d σ2 H2 Hc2 (u1 _ _ t2)
  · have e : i = xs.length := by omega
    subst e
    exact .inl ⟨y2 (by rw [List.length_map]; exact Nat.le_refl _) (by rw [List.length_map]), k ρ' hI pl H0 Hc0 σ' H' D ⟨Hc', s'⟩ hn hr hE⟩
end
/-- what a def keeps that may raise -/
def spE {α : Type} (ok : α → Prop) (args : α → List As) (bad : α → Bool) (res : α → As) (C : Value) : Sp := fun vs H Q E => ∃ pl Hc x, Gd pl H Hc ∧ ok x ∧ Fits pl Hc vs (args x) ∧ (bad x = false → Out pl H Hc (res x) Q) ∧ (bad x = true → ∀ d H' Hc', Stp pl H Hc H' Hc' → E C d H')
section
variable {P : Program} {w : World} {K : PySem.W.Frag} {mg : Str → Option Value} {base : Heap} {x qual : Str} {params : Arguments} {body : List Stmt} {scope : Scope} {f : Addr} {fd : FuncData} {N ps : List Str} {k : Nat}
theorem def_okE {α : Type} {ok : α → Prop} {args : α → List As} {bad : α → Bool} {res : α → As} {C : Value} {dvs : List V} {kws : List (Str × V)} (F : FunD K x qual params body scope dvs kws f fd) (S : FnScope N ps scope) (hl : ∀ y, (args y).length = ps.length)
    (hb : ∀ (y : α), ok y → ∀ (cdv : Value) (A : Around) (outer : List Env) (s : Shared) (H : Hp) (E : XK), Room k (A.deeper (envOfC qual scope s.heap.objs.size f cdv)) → Takes (cxOf (L2.CX P w) P w K mg base N qual scope f cdv A outer s H E) (fun cls d _ H => E cls d H) →
      DsE (cxOf (L2.CX P w) P w K mg base N qual scope f cdv A outer s H E) (fun cls d _ H => E cls d H) C (bad y = true) body (inSl (args y) N.length) (fun _ => False) (fun R => bad y = false ∧ Imp R (res y))) : FnOk P w K mg base (L2.CX P w) (k + 1) f fd ps (spE ok args bad res C) := by
  refine F.ok S (fun vs H Q E ⟨pl, Hc, y, g, hy, f, q⟩ => by rw [f.len, hl]) fun cdv A outer s H vs Q E hr ⟨pl, Hc, y, g, hy, f, q, qe⟩ => ⟨_, pss_can, ?_⟩
  refine hb y hy cdv A outer s H E hr (takes_of rfl rfl rfl rfl) pl H Hc _ H _ ⟨Hc, start_ok g f⟩ (fun ρ' σ' H' e ⟨Hc', s'⟩ => e.elim) (fun R v H' Hc' i t h => q i.1 v H' Hc' t (i.2 h)) fun hb d σ' H' Hc' t => qe hb d H' Hc' t
end
end Da
namespace Lb
open PySem PySem.Spec PyProof.Rows L2 Da PySem.W
section
variable {P : Program} {w : World} {K : PySem.W.Frag} {mg : Str → Option Value} {base : Heap}
def spNs (K : PySem.W.Frag) : Sp := fun vs H Q _ => ∃ a n, vs = [.ref a, .int n] ∧ H a = some (exo a (aNoSt K) none) ∧ ∀ d, H d = none → d ≠ a → Q .non (upd (upd H d (exd d [("number", .int n)])) a (exo a (aNoSt K) (some d)))
theorem scNoStagesInit : FnScope ["self", "number"] ["self", "number"] (defScope sNoStagesInit) := ⟨rfl, rfl, rfl, by decide +kernel, rfl, by decide +kernel, by decide +kernel⟩
theorem ns_init (T : Txt w K mg) : ∃ fd, FnOk P w K mg base CX0 1 (He.fAd K ("NoStages", some "__init__")) fd ["self", "number"] (spNs K) ∧ Binds K fd ["self", "number"] [] := by
  obtain ⟨fd, F⟩ := T.f_NoStagesInit
  refine ⟨fd, F.ok scNoStagesInit (fun vs H Q E ⟨a, n, e, _⟩ => by rw [e]; rfl) fun cdv A outer s H vs Q E hr ⟨a, n, e, ha, q⟩ => ?_, F.bindsN fun _ _ _ _ _ _ us hl => match us, hl with | [_, _], _ => rfl⟩
  subst e
  refine ⟨_, PSs.nox (pss_cons (ps_expr (pe_veinit rfl T.b_ValueError T.veInit (pa_cons (pe_var (i := 0) rfl (Or.inl rfl)) (pa_cons pe_str pa_nil)) rfl)) (pss_cons (ps_ost (pe_var (i := 0) rfl (Or.inl rfl)) (pe_var (i := 1) rfl (Or.inl rfl))) pss_nil)), ?_⟩
  refine ⟨.ref a, rfl, ?_⟩
  refine ⟨a, aNoSt K, _, rfl, by decide, T.oex T.kp_NoStages, ha, ?_⟩
  refine ⟨.int n, rfl, .ref a, rfl, a, aNoSt K, rfl, T.oex T.kp_NoStages, T.na_number, .inl ⟨ha, fun dx h1 h2 => q dx h1 h2⟩⟩
end
section
variable {X : Cx} {W : WX} {bad : Prop} {ρ : Slots} {N : Slots → Prop} {R : As → Prop} {p cp rp : Pos} {e1 : Expr} {rest : List Stmt} {i : Int}
theorem dse_raise (T : Txt X.w X.K X.mg) (tk : Takes X W) (hc : X.calm = true) (hr : Room 2 X.A) (he : De X e1 (exR ρ) (aInt i)) (hb : bad) (hg : Gl X "NoStages" := by rfl) (hs : starEach (e1 :: []) X.env = (false, eval e1 X.env) :: starEach [] X.env := by rfl) (hpl : (backTo cp (starEach [] X.env)).any (·.1) = false := by rfl) :
    DsE X W (.ref (aNoSt X.K)) bad (.Raise (some (.Call (.Name "NoStages" p) [e1] [] cp)) none rp :: rest) ρ N R := fun pl H0 Hc0 σ H D ⟨Hc, s⟩ hn hrr hE => by
  obtain ⟨fd, F1, B⟩ := ns_init (P := X.prog) (w := X.w) (K := X.K) (mg := X.mg) (base := X.base) T
  refine tSs_of (pss_cons (ps_raise hc tk (pmk_oex (T.oex T.kp_NoStages) T.nsInit T.nsInitT F1 hr B .nil pass0 hg T.g_NoStages pa_can (by decide) hs hpl)) pss_can) ?_
  refine da1 he hs pl σ H Hc s.stp.gd s.env _ fun vs H1 Hc1 s1 f => ?_
  obtain ⟨u, e3, hu⟩ := one f
  have hu' : u = V.int i := hu
  subst e3 hu'
  refine ⟨Nat.le_of_ble_eq_true rfl, fun a ha => ⟨a, i, rfl, upd_same, fun d hd hne => ⟨rfl, d, _, upd_same, by rw [upd_ne hne]; exact upd_same, ?_, ?_⟩⟩⟩
  · rw [upd_ne hne] at hd
    exact hd
  · rw [upd_ne hne] at hd
    have e : upd (del (upd (upd (upd H1 a (exo a (aNoSt X.K) none)) d (exd d [("number", V.int i)])) a (exo a (aNoSt X.K) (some d))) a) d (.xd [("number", .int i)]) = upd H1 d (.xd [("number", .int i)]) := by
      funext b
      by_cases h1 : b = d
      · subst h1
        rw [upd_same, upd_same]
      · rw [upd_ne h1, upd_ne h1]
        by_cases h2 : b = a
        · subst h2
          rw [del_same, ha]
        · rw [del_ne h2, upd_ne h2, upd_ne h1, upd_ne h2]
    rw [e]
    exact hE hb _ _ _ _ ((s.stp.trans s1).trans (Stp.alloc s1.gd hd _))
end
end Lb
set_option Elab.async false
set_option linter.all false
set_option maxRecDepth 100000
set_option maxHeartbeats 4000000
namespace Da
open PySem PySem.Spec PyProof.Rows L2 Lb
section
variable {X : Cx} {e iter tg : Expr} {scope : Scope} {pos : Pos} {own : List (Str × Nat)} {wi : TI} {g : TG} {tb : Addr → L2.St → Hp → (Hp → Prop) → Prop} {o0 : HO} {gs : List Comprehension}
/-- a dict comprehension, whatever is done with it -/
theorem dcN_core {pins : List (Addr × Obj)} {s : Shared} {σ : L2.St} {H : Hp} {Q : VK} {use : Option (Value → Sem Unit)} {Qf : Value → Shared → Prop} {pos' : Pos} (I : Inv X pins σ H s) (hc : X.calm = true) (hN : X.N.Nodup) (hi : PI X tg iter wi) (ok : BlkOk X.N X.env.scope scope own) (hcl : clausesOf e = ⟨tg, iter, [], 0⟩ :: gs)
    (h0 : ∀ (H : Hp) (h : Heap), sysModules < h.objs.size → ObjOk X.prog X.w H (h.push { cls := .type "dict", data := .dict #[] }) h.objs.size o0)
    (hg : InBlk X scope fun Y => PG Y tg g) (rest : Env → Addr → Addr → Sem Fin) (hb : InBlk X scope fun Y => ∀ D it pins s σ H (Fn : Hp → Prop), Inv Y pins σ H s → tb D σ H Fn → wpAny (model Y.prog Y.w) Y.A (rest Y.env D it) (Again Y pins e 0 it D (own.map (·.2)) σ Fn) (fun _ _ => False) s)
    (heq : ∀ env D it, compTurn e 0 (.ref it) (.ref D) env = turnD tg iter.pos (.ref it) (rest env D it) env) (hs : ∀ x, foldedSetIterable iter X.env x = pure x)
    (hden : ∀ A it D env Q E s, wpAny (model X.prog X.w) A ((compTurn e 0 (.ref it) (.ref D) env).onRaise (fun x => do noteFrame x env; theTreesLotGoes x)) Q E s → wpAny (model X.prog X.w) (A.under (.compLoop e 0 (.ref it) (.ref D) env)) ((model X.prog X.w).den (.compLoop e 0 (.ref it) (.ref D) env)) Q E s)
    (hstart : ∀ {A : Around} {R : Result → Shared → Prop} {s : Shared} {it acc : Value} {env : Env}, codeAny (model X.prog X.w) A (.compLoop e 0 it acc env) R s → wpAny (model X.prog X.w) A (pyIter it) (fun it' s' => codeAny (model X.prog X.w) A (.compLoop e 0 it' acc env) R s') (notedBy (model X.prog X.w) A env fun x s' => R (.error x) s') s → codeAny (model X.prog X.w) A (.compStart e 0 it acc env) R s)
    (h : wi σ H fun J H1 => ∀ D, H1 D = none → tLp J g (tb D) (own.map (·.2)) σ (upd H1 D o0) fun H' => Q (.ref D) H')
    (hRR : ∀ D C s' m H', Inv X pins σ H' s' → Q (.ref D) H' → s'.heap.Ns C m → FpOk X pins H' C → compPost (model X.prog X.w) X.A X.xe use Qf (.ref D) C (.ok .next) s') :
    wpAny (model X.prog X.w) X.A (comprehension e scope X.env pos' newDict false (eval iter X.env) use) Qf X.xe s := by
  have hfree : ∀ y ∈ scope.names, y.2 = .free → ∃ c, X.env.cells.lookup y.1 = some c := fun y hy e => by
    rcases ok.free y hy e with k | k
    · exact I.ok.has _ (.inl k)
    · exact I.ok.has _ (.inr k)
  refine wpAny_comprehension_free (use := use) hcl hs (closure_ok hfree) ok.kind (fun y hy e => by rw [ok.uniq y hy, e]) (thn (hi.run pins s σ H _ I h) fun xv s1 hx => thn hx fun itv s2 h2 => ?_)
  obtain ⟨it, fp, tn, J, H2, ei, I2, T, st2, f2, q⟩ := h2
  subst ei
  refine wpAny_newObj_type (newEnv_comp ?_)
  have hDn : H2 s2.heap.objs.size = none := I2.hok.fresh (Nat.le_refl _)
  have q1 := q _ hDn
  generalize hs3 : ({ s2 with heap := s2.heap.push { cls := .type "dict", data := .dict #[] } } : Shared) = s3
  have I3 : Inv X pins σ (upd H2 s2.heap.objs.size o0) s3 := by
    rw [← hs3]
    exact I2.laid (t' := s2.toks) (fun b o e => Heap.get?_push_of_some _ e) (Nat.le_refl _) (h0 _ s2.heap I2.big)
  have h3 : s3.heap = s2.heap.push { cls := .type "dict", data := .dict #[] } := by rw [← hs3]
  have f3 : ∀ b ∈ fp, FpOk X pins (upd H2 s2.heap.objs.size o0) b ∧ b < s3.heap.objs.size := fun b hb => by
    obtain ⟨o, e, _⟩ := T.obj _ _ st2 b hb
    have hlt := Heap.lt_size e
    refine ⟨⟨?_, (f2 b hb).2⟩, by rw [h3, Heap.size_push]; exact Nat.lt_succ_of_lt hlt⟩
    rw [upd_ne (Nat.ne_of_lt hlt)]
    exact (f2 b hb).1
  have st3 : tn 0 s3.heap := T.keep _ _ _ st2 fun b _ o e => by rw [h3]; exact Heap.get?_push_of_some _ e
  have I4 := block_start I3 ok hN f3
  have pg := hg s3 (upd H2 s2.heap.objs.size o0) s3.heap.objs.size (cellsFrom (s3.heap.objs.size + 1) scope.names (cloFrom X.env.cells scope.names [])) fp
  have pb := hb s3 (upd H2 s2.heap.objs.size o0) s3.heap.objs.size (cellsFrom (s3.heap.objs.size + 1) scope.names (cloFrom X.env.cells scope.names [])) fp
  show codeAny _ _ (.compStart e 0 (.ref it) (.ref s2.heap.objs.size) (compEnvC scope (cellsFrom (s3.heap.objs.size + 1) scope.names (cloFrom X.env.cells scope.names [])) s3.heap.objs.size X.env)) (compPost (model X.prog X.w) X.A X.xe use Qf (.ref s2.heap.objs.size) s3.heap.objs.size) { s3 with heap := pushCells (s3.heap.push { cls := .type "dict", data := .dict #[] }) scope.names }
  generalize hce : compEnvC scope (cellsFrom (s3.heap.objs.size + 1) scope.names (cloFrom X.env.cells scope.names [])) s3.heap.objs.size X.env = ce at I4 pg pb ⊢
  have cL : ce.locals = s3.heap.objs.size := by subst hce; rfl
  generalize hs4 : ({ s3 with heap := pushCells (s3.heap.push { cls := .type "dict", data := .dict #[] }) scope.names } : Shared) = s4 at I4 ⊢
  have st4 : tn 0 s4.heap := T.keep _ _ _ st3 fun b _ o e => by rw [← hs4]; exact pushCells_keeps _ _ _ _ (Heap.get?_push_of_some _ e)
  have stat : ∀ b ∈ fp, FpOk (X.blk s3 (upd H2 s2.heap.objs.size o0) scope ce fp) [] (upd H2 s2.heap.objs.size o0) b := fun b hb =>
    ⟨(f3 b hb).1.1, (I4.ok.exf b hb).1, I4.ok.exfs b hb, .inl hb, fun x c e => (I4.ok.exf b hb).2 x c e, fun p hp => absurd (show p ∈ ([] : List (Addr × Obj)) ++ [] from hp) (by simp)⟩
  have loop : codeAny (model X.prog X.w) X.A (.compLoop e 0 (.ref it) (.ref s2.heap.objs.size) ce) (compPost (model X.prog X.w) X.A X.xe use Qf (.ref s2.heap.objs.size) s3.heap.objs.size) s4 := by
    refine dloop (Y := X.blk s3 (upd H2 s2.heap.objs.size o0) scope ce fp) (vs := own.map (·.2)) (Fn := fun H' => Q (.ref s2.heap.objs.size) H') hc rfl T pg (heq ce _ _) (hden _ _ _ ce) (pb _ it) I4 stat st4 ?_ fun s6 H5 I6 qq => ?_
    · unfold tLp
      rw [wipe_wipe]
      exact q1
    · have I7 : Inv X pins σ H5 s6 := I3.call' (ch := fp) I6.os I6.base I6.hok I6.bare fun b hb => ⟨(f3 b hb).1.2.2.2.1, (f3 b hb).1.2.1, (f3 b hb).1.2.2.2.2.1, (f3 b hb).1.2.2.2.2.2⟩
      have nC : H5 s3.heap.objs.size = none := by
        have z : H5 ce.locals = none := I6.free
        rw [cL] at z
        exact z
      obtain ⟨m, hn, _⟩ := I6.loc
      have hn : s6.heap.Ns ce.locals m := hn
      rw [cL] at hn
      exact hRR s2.heap.objs.size s3.heap.objs.size s6 m H5 I7 qq hn (I3.fpOk (Nat.le_refl _) nC)
  exact hstart loop (T.self X.A 0 _ _ _ st4 loop)
end
section
variable {X : Cx} {scope : Scope} {ρ : Rho} {pos : Pos} {kx vx t0 i0 : Expr} {α : Type} {xs : List α} {P0 : α → As} {j0 : List Nat} {Q0 : α → List As} {kk : α → List Nat} {F : α → As}
theorem dct_read {own : List (Str × Nat)} {pl : Option Addr} {σ : L2.St} {H Hc : Hp} {Q : VK} (h0 : Di X t0 i0 ρ xs P0) (g0 : InBlk X scope fun Y => ∀ x ∈ xs, Dg Y t0 (P0 x) j0 (Q0 x))
    (hk : ∀ x ∈ xs, InBlk X scope fun Y => De Y kx (inR ρ own j0 (Q0 x)) (aLotH (kk x))) (hv : ∀ x ∈ xs, InBlk X scope fun Y => De Y vx (inR ρ own j0 (Q0 x)) (F x)) (nd : (xs.map kk).Nodup) (hz : xs.length < 1000000) (hw0 : ∀ i ∈ j0, i ∈ own.map (·.2)) (g : Gd pl H Hc) (ev : EnvOk pl Hc σ ρ) (q : Out pl H Hc (aDicT (xs.map fun x => (kk x, F x))) Q) :
    tI X t0 i0 σ H fun J H1 => ∀ D, H1 D = none → tLp J (gB X scope t0) (tPut (eB X scope kx) (eB X scope vx) D) (own.map (·.2)) σ (upd H1 D (.dT [])) fun H' => ∃ d u, V.ref D = .ref d ∧ H' d = some u ∧ Mut (some u) ∧ ∀ od, Q (.ref D) (upd H' d (.frz od u)) := by
  refine h0 pl σ H Hc g ev _ fun J H1 Hc1 s1 y D hD => ?_
  have hp := not_pool s1.gd hD
  have ap := Stp.apart s1.gd hD (.dT [])
  have fm : ∀ l : List α, (l.flatMap fun x => [(kk x, F x)]) = l.map fun x => (kk x, F x) := fun l => by
    induction l with
    | nil => rfl
    | cons a r ih => rw [List.flatMap_cons, ih]; rfl
  refine lp_bod (St := StT pl H1 Hc1 D) (L := []) (M := fun x => [(kk x, F x)]) (stT_ok hp) g0 hw0 (fun i x hx => ?_) ⟨ap, [], upd_same, clean_none s1.gd hD, .nil⟩ (ev.mono s1.cl) y fun H' Hc' ⟨s', ws, k1, k2, k4⟩ sm => ?_
  · have hm := List.mem_of_getElem? hx
    have hi := (List.getElem?_eq_some_iff.mp hx).1
    refine bod_putT hD hp (hk x hm) (hv x hm) ?_ ?_
    · rw [fm, List.nil_append, List.length_map, List.length_take]
      omega
    · rw [fm, List.nil_append, List.map_map]
      intro hc'
      obtain ⟨z, hz', e⟩ := List.mem_map.mp hc'
      obtain ⟨j, hj, ej⟩ := List.mem_iff_getElem.mp hz'
      rw [List.length_take] at hj
      rw [List.getElem_take] at ej
      refine (List.pairwise_iff_getElem.mp nd) j i (by rw [List.length_map]; omega) (by rw [List.length_map]; omega) (by omega) ?_
      rw [List.getElem_map, List.getElem_map, ej, (List.getElem?_eq_some_iff.mp hx).2]
      exact e
  · rw [fm, List.nil_append] at k4
    have hD0 : H D = none := by
      cases e : H D with
      | none => rfl
      | some o =>
        rw [s1.keep D o hp e] at hD
        cases hD
    refine ⟨D, .dT ws, rfl, k1, True.intro, fun od => ?_⟩
    obtain ⟨s3, sm3⟩ := Out.promote ((s1.trans s').mut hD0 k2 hp (.frz od (.dT ws))) upd_same k2 hp hD0
    exact q _ _ _ s3 ⟨D, ws, od, rfl, upd_same, k4.mono sm3⟩
/-- name = {..} on one line, the name a local -/
theorem ps_setDcN {own : List (Str × Nat)} {g : TG} {wi : TI} {tb : Addr → L2.St → Hp → (Hp → Prop) → Prop} {o0 : HO} {i : Nat} {y : Str} {py : Pos} {pos2 spos : Pos} {tg iter : Expr} (hc : X.calm = true) (hN : X.N.Nodup) (hy : X.N[i]? = some y) (hyl : X.env.scope.names.lookup y = some .local)
    (hsw : swapsWith (.DictComp kx vx [⟨tg, iter, [], 0⟩] scope pos2) (some (.Name y py)) spos.line X.env = pure true) (hi : PI X tg iter wi) (ok : BlkOk X.N X.env.scope scope own)
    (h0 : ∀ (H : Hp) (h : Heap), sysModules < h.objs.size → ObjOk X.prog X.w H (h.push { cls := .type "dict", data := .dict #[] }) h.objs.size o0)
    (hg : InBlk X scope fun Y => PG Y tg g) (rest : Env → Addr → Addr → Sem Fin) (hb : InBlk X scope fun Y => ∀ D it pins s σ H (Fn : Hp → Prop), Inv Y pins σ H s → tb D σ H Fn → wpAny (model Y.prog Y.w) Y.A (rest Y.env D it) (Again Y pins (.DictComp kx vx [⟨tg, iter, [], 0⟩] scope pos2) 0 it D (own.map (·.2)) σ Fn) (fun _ _ => False) s)
    (heq : ∀ env D it, compTurn (.DictComp kx vx [⟨tg, iter, [], 0⟩] scope pos2) 0 (.ref it) (.ref D) env = turnD tg iter.pos (.ref it) (rest env D it) env) (hs : ∀ x, foldedSetIterable iter X.env x = pure x) :
    PS X (.Assign [.Name y py] (.DictComp kx vx [⟨tg, iter, [], 0⟩] scope pos2) spos) (fun D σ H => wi σ H fun J H1 => ∀ D', H1 D' = none → tLp J g (tb D') (own.map (·.2)) σ (upd H1 D' o0) fun H' => ∃ d u, V.ref D' = .ref d ∧ H' d = some u ∧ Mut (some u) ∧ ∀ od, D.nx (σ.set i (some (.ref D'))) (upd H' d (.frz od u))) := by
  refine ⟨fun pins s σ H D I h => ?_⟩
  rw [exec_Assign_Name_used _ _ _ _ hsw]
  refine wpAny_bind (wpAny_standAt (wpAny_bind ?_))
  show wpAny _ X.A (do let _ ← comprehension (.DictComp kx vx [⟨tg, iter, [], 0⟩] scope pos2) scope X.env (firstIterPos [⟨tg, iter, [], 0⟩] pos2) newDict false (eval iter X.env) (some (assign (.Name y py) X.env))) _ _ s
  refine wpAny_bind (thn (dcN_core (Q := fun v H' => ∃ d u, v = V.ref d ∧ H' d = some u ∧ Mut (some u) ∧ ∀ od, D.nx (σ.set i (some v)) (upd H' d (.frz od u))) (Qf := fun _ s' => SP X pins D .next s') I hc hN hi ok rfl h0 hg rest hb heq hs (fun _ _ _ _ _ _ _ h => h) (fun h0 h => codeAny_compStart_dict h0 h) h fun L C s' m H' I' q hn f => ?_) fun _ s' hq => wpAny_pure (wpAny_pure hq))
  show wpAny _ _ (assign (.Name y py) X.env (.ref L)) _ _ _
  refine wpAny_assign_Name (store_ok2 (v := V.ref L) I' hN hy (.inl hyl) rfl (fun s2 I2 ⟨a, sb, ha⟩ => ?_) (.inr hyl))
  obtain ⟨f0, f1, f2, f3, f4, f5⟩ := f
  have haC : C ≠ a := by
    rcases ha with z | z
    · rw [z]; exact f1
    · exact fun e => f4 y a z e.symm
  refine ⟨m, hn.sameBut sb haC, fun h3 sb3 => ?_⟩
  obtain ⟨d, u, e1, e2, e3, e4⟩ := q
  have I3 := I2.turned (t' := s2.toks) (h' := h3) (fun b o hb e => (sb3.2 b hb).trans e) f0 f1 f3 f4 f5
  obtain ⟨od, I4⟩ := I3.lock e2 e3
  exact ⟨_, _, I4, e4 od⟩
end
end Da
set_option Elab.async false
set_option linter.all false
set_option maxRecDepth 100000
set_option maxHeartbeats 4000000
namespace Da
open PySem PySem.Spec PyProof.Rows L2 Lb
section
variable {X : Cx} {W : WX} {C : Value} {bad : Prop} {ρ : Slots} {N : Slots → Prop} {R : As → Prop} {scope : Scope} {pos pos2 p' : Pos} {kx vx t0 i0 : Expr} {α : Type} {xs : List α} {P0 : α → As} {j0 : List Nat} {Q0 : α → List As} {kk : α → List Nat} {F : α → As} {rest : List Stmt}
theorem dse_setDct (i : Nat) {x : Str} (hN : X.N.Nodup) (own : List (Str × Nat)) (hr : X.A.units + 1 < cLine) (ok : BlkOk X.N X.env.scope scope own) (h0 : Di X t0 i0 (exR ρ) xs P0) (g0 : InBlk X scope fun Y => ∀ x ∈ xs, Dg Y t0 (P0 x) j0 (Q0 x))
    (hk : ∀ x ∈ xs, InBlk X scope fun Y => De Y kx (inR (exR ρ) own j0 (Q0 x)) (aLotH (kk x))) (hv : ∀ x ∈ xs, InBlk X scope fun Y => De Y vx (inR (exR ρ) own j0 (Q0 x)) (F x)) (nd : (xs.map kk).Nodup) (hz : xs.length < 1000000) (k : DsE X W C bad rest (ρ.set i (.v (aDicT (xs.map fun x => (kk x, F x))))) N R)
    (hsw : swapsWith (.DictComp kx vx [⟨t0, i0, [], 0⟩] scope pos2) (some (.Name x p')) pos.line X.env = pure true) (hw0 : ∀ i ∈ j0, i ∈ own.map (·.2) := by decide) (hc : X.calm = true := by rfl) (hni : X.N[i]? = some x := by rfl) (hyl : X.env.scope.names.lookup x = some .local := by rfl)
    (hs : ∀ x, foldedSetIterable i0 X.env x = pure x := by intro _; rfl) : DsE X W C bad (.Assign [.Name x p'] (.DictComp kx vx [⟨t0, i0, [], 0⟩] scope pos2) pos :: rest) ρ N R := fun pl H0 Hc0 σ H D ⟨Hc, s⟩ hn hrr hE =>
  tSs_of (pss_cons (ps_setDcN (o0 := .dT []) (g := gB X scope t0) (tb := fun D => tPut (eB X scope kx) (eB X scope vx) D) hc hN hni hyl hsw pi_can ok (fun H h hb => L2.dt_empty h hb) pg_B (fun env D it => emitD (.DictComp kx vx [⟨t0, i0, [], 0⟩] scope pos2) kx vx 0 (.ref it) D env)
    (fun a1 a2 a3 a4 a5 D it pins s σ H Fn I h => put_body (Y := X.blk a1 a2 scope (compEnvC scope a4 a3 X.env) a5) (e := .DictComp kx vx [⟨t0, i0, [], 0⟩] scope pos2) (d := 0) (D := D) rfl hr (pe_B a1 a2 a3 a4 a5) (pe_B a1 a2 a3 a4 a5) pins s σ H Fn I h)
    (fun env D it => turn1 ..) hs) pss_can) (dct_read h0 g0 hk hv nd hz hw0 s.stp.gd s.env (Q := fun v H1 => tSs X rest D (σ.set i (some v)) H1) fun v H1 Hc1 t hv => k pl H0 Hc0 _ H1 D ⟨Hc1, (s.step t).setV i hv⟩ hn hrr hE)
end
end Da
namespace Lb
open PySem PySem.Spec PyProof.Rows L2 Da PySem.W
theorem strOk_name {z : Str} (h : OkName z) : PyData.strOk z = true := by
  have hl : ∀ c ∈ letters, c < 0x110000 := by decide +kernel
  unfold PyData.strOk
  rw [← Array.all_toList, List.all_eq_true]
  exact fun c hc => decide_eq_true (hl c (h.let_ c hc))
abbrev strsD (ns : List Str) : PyData := .list (ns.map .str)
theorem eqv_strs : ∀ r s : List Str, PyData.eqvAll (r.map .str) (s.map .str) = decide (r = s)
  | [], [] => by simp [PyData.eqvAll]
  | [], b :: s => by simp [PyData.eqvAll]
  | a :: r, [] => by simp [PyData.eqvAll]
  | a :: r, b :: s => by
    rw [List.map_cons, List.map_cons, PyData.eqvAll, eqv_strs r s, PyData.eqv]
    by_cases h : a = b
    · subst h
      simp
    · simp [h]
theorem strsD_eqv (r s : List Str) : PyData.eqv (strsD r) (strsD s) = decide (r = s) := by
  unfold PyData.eqv
  exact eqv_strs r s
theorem strs_lays : ∀ r : List Str, (∀ z ∈ r, PyData.strOk z = true) → PyData.canLayAll0 (r.map .str) = true ∧ PyData.depthAll (r.map .str) = 0
  | [], _ => by simp [PyData.canLayAll0, PyData.depthAll]
  | a :: r, h => by
    have := strs_lays r fun z hz => h z (List.mem_cons_of_mem _ hz)
    have h1 := h a (List.mem_cons_self ..)
    simp [PyData.canLayAll0, PyData.depthAll, PyData.canLay0, PyData.depth, this.1, this.2, h1]
theorem strs_shaped (r : List Str) (h : ∀ z ∈ r, PyData.strOk z = true) : SeqAt.shaped (strsD r) = true := shaped_of (by simp only [PyData.canLay0]; exact (strs_lays r h).1) (by simp only [PyData.depth, (strs_lays r h).2]; omega)
theorem dt_eqSL {X : Cx} {ρ : Rho} {pos : Pos} {a b : Expr} {r s : List Str} {k : Nat} (hr : Room k X.A) (h1 : ∀ z ∈ r, PyData.strOk z = true) (h2 : ∀ z ∈ s, PyData.strOk z = true) (ha : De X a ρ (aLst (r.map aStr))) (hb : De X b ρ (aLst (s.map aStr))) (hm : behindInMarks .Eq b = false := by first | exact nomark _ | rfl) : Dt X (.Compare a [.Eq] [b] pos) ρ (decide (r = s)) :=
  (dt_cmp (op_eqD hr.units) (k := PyData.eqv (strsD r) (strsD s)) (opd_eqD (isd_lst fun _ _ => isd_str) (isd_lst fun _ _ => isd_str) (strs_shaped r h1) (strs_shaped s h2)) ha hb hm).as (strsD_eqv r s)
def goneL (y : Wk) (ss : List Stg) : List Str := ss.flatMap fun q => innerL y q.2
def partOf (y : Wk) (ss : List Stg) (l : List Nat) : Str × List Tie := match ss.find? fun q => decide (q.2 = l) with
  | some q => (q.1, [stageT y l (innerL y l)])
  | none => (y.2[l.headD 0]?).getD (.ofString "", [])
def closedW (y : Wk) (ss : List Stg) : Wk := (y.1.filter fun q => !decide (q.1 ∈ goneL y ss), (holdersL y ss).map (partOf y ss))
def shutB (y : Wk) (ss : List Stg) : Bool := ss.any fun q => decide (innerL y q.2 = wiresL y q.2)
structure OkShut (q : Wk × List Stg) : Prop where
  wk : OkWk q.1
  st : OkStgs q.1 q.2
  cl : shutB q.1 q.2 = false → OkWk (closedW q.1 q.2)
theorem stg_inj {y : Wk} {ss : List Stg} (h : OkStgs y ss) : (ss.map (·.2)).Nodup := by
  have h1 := h.dis
  have h2 : ∀ q ∈ ss, q.2 ≠ [] := fun q hq => (h.lot q hq).ne
  clear h
  induction ss with
  | nil => exact List.nodup_nil
  | cons a r ih =>
    unfold withinStg at h1
    rw [List.flatMap_cons] at h1
    obtain ⟨_, k2, k3⟩ := List.nodup_append.mp h1
    rw [List.map_cons, List.nodup_cons]
    refine ⟨fun hm => ?_, ih k2 fun q hq => h2 q (List.mem_cons_of_mem _ hq)⟩
    obtain ⟨q, hq, e⟩ := List.mem_map.mp hm
    have ha := h2 a (List.mem_cons_self ..)
    cases e2 : a.2 with
    | nil => exact ha e2
    | cons p t => exact k3 p (by rw [e2]; exact List.mem_cons_self ..) p (List.mem_flatMap.mpr ⟨q, hq, by rw [e, e2]; exact List.mem_cons_self ..⟩) rfl
theorem find_stg {ss : List Stg} (nd : (ss.map (·.2)).Nodup) {q : Stg} (hq : q ∈ ss) : (ss.find? fun p => decide (p.2 = q.2)) = some q := by
  induction ss with
  | nil => cases hq
  | cons a r ih =>
    rw [List.map_cons, List.nodup_cons] at nd
    rw [List.find?_cons]
    by_cases e : a.2 = q.2
    · rw [decide_eq_true e]
      rcases List.mem_cons.mp hq with h | h
      · rw [h]
      · exact absurd (List.mem_map.mpr ⟨q, h, e.symm⟩) nd.1
    · rw [decide_eq_false e]
      refine ih nd.2 ((List.mem_cons.mp hq).resolve_left fun h => e (by rw [h]))
theorem holders_mem {y : Wk} {ss : List Stg} {l : List Nat} (h : l ∈ holdersL y ss) : (∃ p, l = [p] ∧ p < y.2.length ∧ p ∉ withinStg ss) ∨ ∃ q ∈ ss, q.2 = l := by
  unfold holdersL sortL at h
  rw [List.mem_mergeSort] at h
  rcases List.mem_append.mp h with h | h
  · obtain ⟨p, hp, rfl⟩ := List.mem_map.mp h
    obtain ⟨h1, h2⟩ := List.mem_filter.mp hp
    exact .inl ⟨p, rfl, List.mem_range.mp h1, by simpa using h2⟩
  · obtain ⟨q, hq, e⟩ := List.mem_map.mp h
    exact .inr ⟨q, hq, e⟩
section
variable {P : Program} {w : World} {K : PySem.W.Frag} {mg : Str → Option Value} {base : Heap}
theorem scClosed : FnScope ["work", "stages", "seen", "names", "name", "lot", "inner", "number", "gone", "parts", "wire"] ["work", "stages", "seen"] (defScope sClosed) := ⟨rfl, rfl, rfl, by decide +kernel, rfl, by decide +kernel, by decide +kernel⟩
def spClosed (K : PySem.W.Frag) : Sp := spE (α := Wk × List Stg) OkShut (fun q => [aWk K q.1, aLst (q.2.map (aStg K)), aTup K []]) (fun q => shutB q.1 q.2) (fun q => aWk K (closedW q.1 q.2)) (.ref (aNoSt K))
theorem closed_ok (T : Txt w K mg) {fd : FuncData} (F : FunD K dClosed.name dClosed.qual dClosed.params dClosed.body dClosed.scope (dClosed.dvs K) (dClosed.kws K) (He.ga K "closed") fd) : FnOk P w K mg base (L2.CX P w) 10 (He.ga K "closed") fd ["work", "stages", "seen"] (spClosed K) := by
  refine def_okE F scClosed (fun _ => rfl) fun q hq cdv A outer s H E hr tk => ?_
  have hN := scClosed.nd
  obtain ⟨y, ss⟩ := q
  obtain ⟨hk, st, hcl⟩ := hq
  replace hk : OkWk y := hk
  replace st : OkStgs y ss := st
  have h1 : y.1.length ≤ 8 := hk.ws.hi
  have h2 : y.2.length ≤ 7 := hk.ps.hi
  have hz : ss.length < 1000 := st.few
  have few : y.2.length < 1000 := by omega
  have few1 : y.1.length < 1000 := by omega
  have inj := stg_inj st
  have lotlen : ∀ q ∈ ss, q.2.length < 1000 := fun q hq => (st.lot q hq).lot.len
  have lotlt : ∀ q ∈ ss, ∀ p ∈ q.2, p < y.2.length := fun q hq => (st.lot q hq).lot.lt
  have nd1 : ((ss.map fun q => (q.2, aStr q.1)).map (·.1)).Nodup := by rw [List.map_map]; exact inj
  have nd2 : ((ss.map fun q => (q.2, aLst ((innerL y q.2).map aStr))).map (·.1)).Nodup := by rw [List.map_map]; exact inj
  have in8 : ∀ l, (innerL y l).length ≤ 8 := fun l => Nat.le_trans (List.length_filter_le _ _) (by unfold wiresL; rw [List.length_map]; exact Nat.le_trans (List.length_filter_le _ _) h1)
  have inin : ∀ l, ∀ z ∈ innerL y l, z ∈ y.1.map (·.1) := fun l z hz => by
    have hz' := (List.mem_filter.mp hz).1
    unfold wiresL at hz'
    obtain ⟨q, hq, rfl⟩ := List.mem_map.mp hz'
    exact List.mem_map.mpr ⟨q, (List.mem_filter.mp hq).1, rfl⟩
  have wiin : ∀ l, ∀ z ∈ wiresL y l, z ∈ y.1.map (·.1) := fun l z hz => by
    unfold wiresL at hz
    obtain ⟨q, hq, rfl⟩ := List.mem_map.mp hz
    exact List.mem_map.mpr ⟨q, (List.mem_filter.mp hq).1, rfl⟩
  have nameok : ∀ z ∈ y.1.map (·.1), PyData.strOk z = true := fun z hz => by
    obtain ⟨q, hq, rfl⟩ := List.mem_map.mp hz
    exact strOk_name (hk.ws.each q hq).name
  obtain ⟨fdw, Fw, Bw⟩ := init_work (P := P) (base := base) T
  refine dse_expr (P := aNon) (d_cl (look_at_work_ok T) hr y trivial (da1 (d_v 0))) ?_
  refine dse_expr (P := aNon) (d_cl (look_at_stages_ok T) hr (y, ss) ⟨st, few⟩ (da2 (d_v 0) (d_v 1))) ?_
  refine dse_set 2 hN (d_cl (seen_of_ok T) hr y few1 (da2 (d_v 0) (d_v 2))) ?_
  have un : (cxOf (L2.CX P w) P w K mg base ["work", "stages", "seen", "names", "name", "lot", "inner", "number", "gone", "parts", "wire"] dClosed.qual dClosed.scope (He.ga K "closed") cdv A outer s H E).A.units + 1 < cLine := by
    have := hr.un
    show (A.deeper _).units + 1 < cLine
    omega
  refine dse_setDct 3 (xs := ss) (P0 := aStg K) (j0 := [4, 5]) (Q0 := fun q => [aStr q.1, aLotH q.2]) (kk := fun q => q.2) (F := fun q => aStr q.1) hN [("name", 4), ("lot", 5)] un (blkOk_by (by kernel_rfl)) (di_list (d_v 1)) (fun _ _ _ _ _ c _ => dg_two 4 5 rfl hN) (fun q _ => fun _ _ _ _ _ => d_v 5) (fun q _ => fun _ _ _ _ _ => d_v 4) inj (by omega) ?_ rfl
  refine dse_set 6 hN (d_dct (xs := ss) (P0 := aStg K) (j0 := [4, 5]) (Q0 := fun q => [aStr q.1, aLotH q.2]) (kk := fun q => q.2) (F := fun q => aLst ((innerL y q.2).map aStr)) hN [("name", 4), ("lot", 5)] un (blkOk_by (by kernel_rfl)) (di_list (d_v 1)) (fun _ _ _ _ _ c _ => dg_two 4 5 rfl hN) (fun q _ => fun _ _ _ _ _ => d_v 5)
    (fun q hq => fun _ _ _ _ _ => d_cl (inner_wires_ok T) hr (y, q.2) ⟨hk, lotlen q hq, lotlt q hq⟩ (da_cons (d_v 0) (da2 ((d_v 5 (P := aLotH q.2)).imp lotH_lot) (d_v 2)))) inj (by omega)) ?_
  refine dse_for (α := Stg × Nat) (xs := ss.zipIdx) (Pt := fun q => aTup K [aInt (q.2 : Int), aStg K q.1]) (is := [7, 4, 5]) (Ts := fun q => [aInt (q.2 : Int), aStr q.1.1, aLotH q.1.2]) (fun i ρ => (∃ Z4 Z5 Z7, ρ = [.v (aWk K y), .v (aLst (ss.map (aStg K))), .v (aLst []), .v (aDicT (ss.map fun q => (q.2, aStr q.1))), Z4, Z5, .v (aDicT (ss.map fun q => (q.2, aLst ((innerL y q.2).map aStr)))), Z7, .no, .no, .no]) ∧ ∀ q ∈ ss.zipIdx.take i, innerL y q.1.2 ≠ wiresL y q.1.2) (passes_of rfl) rfl (di_enum T.b_enumerate (d_v 1)) ⟨⟨_, _, _, rfl⟩, fun q hq => (by rw [List.take_zero] at hq; cases hq)⟩
    (fun n _ => dg_tup rfl (dgs_cons (dg_name 7 hN) (dgs_cons (dg_two 4 5 rfl hN) dgs_nil))) (fun i n hn ρ' ⟨⟨Z4, Z5, Z7, e⟩, hf⟩ => ?_) (fun ρ' ⟨⟨Z4, Z5, Z7, e⟩, hf⟩ => Ds.toE ?_) (fun _ _ => rfl)
  · subst e
    have hm := List.mem_of_getElem? (zipIdx_at hn).1
    refine dse_ifR (dt_eqSL hr (fun z hz => nameok z (inin _ z hz)) (fun z hz => nameok z (wiin _ z hz)) (d_dgetT (P := aLst ((innerL y n.1.2).map aStr)) hr (d_v 6) (d_v 5) nd2 (List.mem_map.mpr ⟨n.1, hm, rfl⟩)) (d_cl (wires_of_lot_ok T) hr (y, n.1.2) ⟨hk, lotlen _ hm, lotlt _ hm⟩ (da2 (d_v 0) ((d_v 5 (P := aLotH n.1.2)).imp lotH_lot)))) (fun e => ?_) fun e => Ds.toE (ds_nil ⟨⟨_, _, _, rfl⟩, fun q hq => ?_⟩)
    · exact dse_raise T tk rfl (hr.mono (by decide)) (d_v 7) (List.any_eq_true.mpr ⟨n.1, hm, e⟩)
    · rw [take_more hn, List.mem_append] at hq
      rcases hq with h | h
      · exact hf q h
      · rw [List.mem_singleton] at h
        rw [h]
        exact of_decide_eq_false e
  · subst e
    have open_ : shutB y ss = false := List.any_eq_false.mpr fun q hq => by
      obtain ⟨i, hi, e⟩ := List.mem_iff_getElem.mp hq
      have hz2 : (q, i) ∈ ss.zipIdx := List.mem_zipIdx_iff_getElem?.mpr (by show ss[i]? = some q; rw [List.getElem?_eq_getElem hi, e])
      rw [List.take_length] at hf
      simpa using hf _ hz2
    have okc : OkWk (closedW y ss) := hcl open_
    refine ds_set (P := aLst ((goneL y ss).map aStr)) 8 hN (De.as (dn_lc2 (xs := ss.map fun q => (q.2, aLst ((innerL y q.2).map aStr))) (P := fun c => aLotH c.1) (is := [5]) (Ps := fun c => [aLotH c.1]) (ys := fun c => innerL y c.1) (P1 := fun _ z => aStr z) (is1 := [4]) (Ps1 := fun _ z => [aStr z]) (F := fun _ z => aStr z) [("lot", 5), ("name", 4)] [4] rfl hN (blkOk_by (by kernel_rfl)) (di_keysT (d_v 6)) (fun _ _ _ _ _ c _ => dg_name 5 hN)
      (fun _ _ _ _ _ c hc => di_list (d_dgetT hr (d_v 6) (d_v 5) nd2 (by obtain ⟨q, hq, rfl⟩ := List.mem_map.mp hc; exact hc))) (fun _ _ _ _ _ c _ z _ => dg_name 4 hN) (fun _ _ _ _ _ c _ z _ => d_v 4) ?_).de ?_) ?_
    · have := flat_le (xs := ss.map fun q => (q.2, aLst ((innerL y q.2).map aStr))) (f := fun c => innerL y c.1) (k := 8) fun c _ => in8 c.1
      rw [List.length_map] at this
      omega
    · unfold goneL
      rw [List.flatMap_map, List.map_flatMap]
    refine ds_setOwn 9 hN (dn_lst da_nil) ?_
    refine ds_for (α := List Nat) (xs := holdersL y ss) (Pt := aLotH) (is := [5]) (Ts := fun l => [aLotH l]) (fun i ρ => ∃ Z5, ρ = [.v (aWk K y), .v (aLst (ss.map (aStg K))), .v (aLst []), .v (aDicT (ss.map fun q => (q.2, aStr q.1))), Z4, Z5, .v (aDicT (ss.map fun q => (q.2, aLst ((innerL y q.2).map aStr)))), Z7, .v (aLst ((goneL y ss).map aStr)), .own (((holdersL y ss).take i).map fun l => aPart K (partOf y ss l)), .no]) (passes_of rfl) rfl (di_list (d_cl (holders_ok T) hr (y, ss) ⟨st, few⟩ (da2 (d_v 0) (d_v 1)))) ⟨_, rfl⟩ (fun n _ => dg_name 5 hN) (fun i l hl ρ' ⟨Z5, e⟩ => ?_) (fun ρ' ⟨Z5, e⟩ => ?_) (fun _ _ => rfl)
    · subst e
      have hm := List.mem_of_getElem? hl
      have hlen : ((holdersL y ss).take i).length < 100000 := by
        have hh : (holdersL y ss).length < 100000 := by
          unfold holdersL sortL
          rw [List.length_mergeSort, List.length_append, List.length_map, List.length_map]
          have := List.length_filter_le (fun p => !decide (p ∈ withinStg ss)) (List.range y.2.length)
          rw [List.length_range] at this
          omega
        rw [List.length_take]
        omega
      refine ds_if (M := fun ρ' => ρ' = [.v (aWk K y), .v (aLst (ss.map (aStg K))), .v (aLst []), .v (aDicT (ss.map fun q => (q.2, aStr q.1))), Z4, .v (aLotH l), .v (aDicT (ss.map fun q => (q.2, aLst ((innerL y q.2).map aStr)))), Z7, .v (aLst ((goneL y ss).map aStr)), .own (((holdersL y ss).take (i + 1)).map fun l => aPart K (partOf y ss l)), .no]) (dt_dinT hr (d_v 5) (d_v 3) nd1) (fun e => ?_) (fun e => ?_) fun ρ' e => by subst e; exact ds_nil ⟨_, rfl⟩
      · have hmem := of_decide_eq_true e
        rw [List.map_map] at hmem
        obtain ⟨q, hq, hql⟩ := List.mem_map.mp hmem
        have hql' : q.2 = l := hql
        subst hql'
        have ep : partOf y ss q.2 = (q.1, [stageT y q.2 (innerL y q.2)]) := by
          unfold partOf
          rw [find_stg inj hq]
        refine ds_app (P := aPart K (partOf y ss q.2)) 9 rfl (De.as (d_tup (da2 (d_dgetT (P := aStr q.1) hr (d_v 3) (d_v 5) nd1 (List.mem_map.mpr ⟨q, hq, rfl⟩)) (d_lst (da1 (d_cl (stage_tie_ok T) hr (y, q.2, innerL y q.2) ⟨hk, lotlen q hq, lotlt q hq, in8 _, inin _⟩ (da_cons (d_v 0) (da2 ((d_v 5 (P := aLotH q.2)).imp lotH_lot) (d_dgetT (P := aLst ((innerL y q.2).map aStr)) hr (d_v 6) (d_v 5) nd2 (List.mem_map.mpr ⟨q, hq, rfl⟩))))))))) (by rw [ep]; rfl)) (ds_nil (by rw [take_more hl, List.map_append]; rfl)) (by rw [List.length_map]; exact hlen)
      · have hmem := of_decide_eq_false e
        rw [List.map_map] at hmem
        rcases holders_mem hm with ⟨p, rfl, hp, _⟩ | ⟨q, hq, e⟩
        · have ep : partOf y ss [p] = y.2[p] := by
            unfold partOf
            have : (ss.find? fun q => decide (q.2 = [p])) = none := List.find?_eq_none.mpr fun q hq => by
              have : q.2 ≠ [p] := fun e => hmem (List.mem_map.mpr ⟨q, hq, e⟩)
              simpa using this
            rw [this]
            show (y.2[p]?).getD (.ofString "", []) = _
            rw [List.getElem?_eq_getElem hp]
            rfl
          refine ds_app (P := aPart K (partOf y ss [p])) 9 rfl (d_ixL p (d_meth (m_parts T) T.cl hr y few (d_v 0) rfl) (d_ixT (P := aInt (p : Int)) (Ps := [aInt (p : Int)]) 0 ((d_v 5 (P := aLotH [p])).imp lotH_lot) d_int) (by rw [ep, List.getElem?_map, List.getElem?_eq_getElem hp]; rfl)) (ds_nil (by rw [take_more hl, List.map_append]; rfl)) (by rw [List.length_map]; exact hlen)
        · exact absurd (List.mem_map.mpr ⟨q, hq, e⟩) hmem
    · subst e
      rw [List.take_length]
      refine ds_ret (d_make T.mkW Fw Bw hr T.g_Work (closedW y ss) okc (da2 (De.as (d_fil (xs := y.1) (P := aWire K) (Ps := fun q => [aWire K q]) (b := fun q => !decide (q.1 ∈ goneL y ss)) (F := aWire K) [("wire", 10)] hN (blkOk_by (by kernel_rfl)) (di_list (d_meth (m_wires T) T.cl hr y trivial (d_v 0) rfl)) (fun _ _ _ _ _ c _ => dg_name 10 hN) (fun _ _ _ _ _ c _ => dt_ninSL (d_ixT (P := aStr c.1) (Ps := [aStr c.1, aInt (c.2 : Int)]) 0 (d_v 10) d_int) (d_v 8)) (fun _ _ _ _ _ c _ _ => d_v 10) (by omega)) rfl) (De.as (P := aLst ((holdersL y ss).map fun l => aPart K (partOf y ss l))) (d_v 9) (by show _ = aLst (((holdersL y ss).map (partOf y ss)).map (aPart K)); rw [List.map_map]; rfl)))) ⟨open_, Imp.rfl'⟩
end
end Lb
set_option Elab.async false
set_option linter.all false
set_option maxRecDepth 100000
set_option maxHeartbeats 4000000
namespace Lb
open PySem PySem.Spec PyProof.Rows L2 Da PySem.W
def lotC (y : Wk) (ss : List Stg) (l : List Nat) : List Nat := ((holdersL y ss).zipIdx.filter fun q => q.1.any fun p => decide (p ∈ l)).map (·.2)
theorem holders_few {y : Wk} {ss : List Stg} (h1 : y.2.length < 1000) (h2 : ss.length < 1000) : (holdersL y ss).length < 2000 := by
  unfold holdersL sortL
  rw [List.length_mergeSort, List.length_append, List.length_map, List.length_map]
  have := List.length_filter_le (fun p => !decide (p ∈ withinStg ss)) (List.range y.2.length)
  rw [List.length_range] at this
  omega
section
variable {P : Program} {w : World} {K : PySem.W.Frag} {mg : Str → Option Value} {base : Heap}
theorem scLotClosed : FnScope ["work", "stages", "lot", "k", "some", "part"] ["work", "stages", "lot"] (defScope sLotClosed) := ⟨rfl, rfl, rfl, by decide +kernel, rfl, by decide +kernel, by decide +kernel⟩
theorem lot_closed_ok (T : Txt w K mg) : Fok P w K mg base 5 "lot_closed" ["work", "stages", "lot"] (spF (α := Wk × List Stg × List Nat) (fun q => OkStgs q.1 q.2.1 ∧ q.1.2.length < 1000 ∧ OkLot q.1.2.length q.2.2) (fun q => [aWk K q.1, aLst (q.2.1.map (aStg K)), aLot K q.2.2]) (fun q => aLot K (lotC q.1 q.2.1 q.2.2))) := by
  refine fok_of T.f_LotClosed T.g_lot_closed scLotClosed (fun _ => rfl) (fun _ F => F.bindsN fun _ _ _ _ _ _ us hl => match us, hl with | [_, _, _], _ => rfl) fun y hy cdv A outer s H E hr => ?_
  have hN := scLotClosed.nd
  obtain ⟨y, ss, l⟩ := y
  obtain ⟨st, few, hl⟩ := hy
  replace st : OkStgs y ss := st
  replace few : y.2.length < 1000 := few
  have hz : ss.length < 1000 := st.few
  have hh := holders_few few hz
  have each : ∀ l ∈ holdersL y ss, l.length < 1000 := fun l hl => by
    rcases holders_mem hl with ⟨p, rfl, _, _⟩ | ⟨q, hq, rfl⟩
    · exact Nat.lt_of_le_of_lt (Nat.le_refl 1) (by decide)
    · exact (st.lot q hq).lot.len
  refine ds_expr (P := aNon) (d_cl (look_at_work_ok T) hr y trivial (da1 (d_v 0))) ?_
  refine ds_expr (P := aNon) (d_cl (look_at_stages_ok T) hr (y, ss) ⟨st, few⟩ (da2 (d_v 0) (d_v 1))) ?_
  refine ds_expr (P := aNon) (d_cl (look_at_lot_ok T) hr (y, l) hl (da2 (d_v 0) (d_v 2))) ?_
  refine ds_ret (d_tupleL T.b_tuple (d_fil (xs := (holdersL y ss).zipIdx) (P := fun q => aTup K [aInt (q.2 : Int), aLotH q.1]) (Ps := fun q => [aInt (q.2 : Int), aLotH q.1]) (b := fun q => q.1.any fun p => decide (p ∈ l)) (F := fun q => aInt (q.2 : Int)) [("k", 3), ("some", 4)] hN (blkOk_by (by kernel_rfl)) (di_enum T.b_enumerate (d_cl (holders_ok T) hr (y, ss) ⟨st, few⟩ (da2 (d_v 0) (d_v 1)))) (fun _ _ _ _ _ c _ => dg_two 3 4 rfl hN)
    (fun _ _ _ _ _ c hc => (dt_val (d_anyC (xs := lI c.1) (P := aInt) (f := fun p => decide (p ∈ lI l)) [("part", 5)] T.b_any hN (blkOk_by (by kernel_rfl)) (di_tup ((d_v 4 (P := aLotH c.1)).imp lotH_lot)) (fun _ _ _ _ _ p _ => dg_name 5 hN) (fun _ _ _ _ _ p _ => d_inIT (d_v 5) (d_v 2)) (by rw [lI_len]; have := each _ (List.mem_of_getElem? (List.mem_zipIdx_iff_getElem?.mp hc)); omega))).as ?_) (fun _ _ _ _ _ c _ _ => d_v 3) (by rw [List.length_zipIdx]; omega))) (Imp.of ?_)
  · unfold lI
    rw [List.any_map]
    simp only [Function.comp_def]
    congr 1
    funext p
    exact decide_eq_decide.mpr (lI_mem (l := l))
  · unfold lotC
    show aTup K _ = aTup K (List.map aInt (List.map (fun p : Nat => (p : Int)) _))
    rw [List.map_map, List.map_map]
    rfl
end
end Lb
set_option Elab.async false
set_option linter.all false
set_option maxRecDepth 100000
set_option maxHeartbeats 4000000
namespace Da
open PySem PySem.Spec PyProof.Rows L2
/-! ### drawn numbers, the pool -/
abbrev aS (c : Int → Prop) : As := aEx c aInt
abbrev aK (n : Nat) : As := aEx (fun k : Nat => k < n) fun k => aInt (k : Int)
def DtU (X : Cx) (c : Expr) (ρ : Rho) : Prop := ∀ pl σ H Hc, Gd pl H Hc → EnvOk pl Hc σ ρ → ∀ Q : Bool → Hp → Prop, (∀ b H' Hc', Stp pl H Hc H' Hc' → Q b H') → tT X c σ H Q
section
variable {X : Cx} {ρ : Rho} {pos : Pos} {a b e : Expr} {c c' c'' : Int → Prop} {n : Int}
theorem d_s (h : De X e ρ (aInt n)) (hc : c n) : De X e ρ (aS c) := h.imp fun h => ⟨n, hc, h⟩
theorem d_wk (h : De X e ρ (aS c)) (i : ∀ n, c n → c' n) : De X e ρ (aS c') := h.imp fun ⟨n, h1, h2⟩ => ⟨n, i n h1, h2⟩
theorem opd_S {C : Int → Int → Prop} {f : Int → Int → Int} (h : ∀ i j, c i → c' j → C i j ∧ c'' (f i j)) : OpD (rI C fun i j => .int (f i j)) (aS c) (aS c') (aS c'') := fun _ _ _ _ _ g ⟨i, hi, h1⟩ ⟨j, hj, h2⟩ Q q => ⟨i, j, h1, h2, (h i j hi hj).1, q.here g ⟨_, (h i j hi hj).2, rfl⟩⟩
theorem opd_S0 {f : Int → Int → Int} (h : ∀ i j, c i → c' j → c'' (f i j)) : OpD (rI0 fun i j => .int (f i j)) (aS c) (aS c') (aS c'') := fun _ _ _ _ _ g ⟨i, hi, h1⟩ ⟨j, hj, h2⟩ Q q => ⟨i, j, h1, h2, q.here g ⟨_, h i j hi hj, rfl⟩⟩
theorem d_addS (ha : De X a ρ (aS c)) (hb : De X b ρ (aS c')) (h : ∀ i j, c i → c' j → c'' (i + j)) : De X (.BinOp a .Add b pos) ρ (aS c'') := d_op op_add (opd_S0 h) ha hb
theorem d_mulS (ha : De X a ρ (aS c)) (hb : De X b ρ (aS c')) (h : ∀ i j, c i → c' j → CMul i j ∧ c'' (i * j)) : De X (.BinOp a .Mult b pos) ρ (aS c'') := d_op op_mul (opd_S h) ha hb
theorem d_modS (ha : De X a ρ (aS c)) (hb : De X b ρ (aS c')) (h : ∀ i j, c i → c' j → 0 < j ∧ c'' (i % j)) : De X (.BinOp a .Mod b pos) ρ (aS c'') := d_op op_mod (opd_S h) ha hb
theorem d_fdivS (ha : De X a ρ (aS c)) (hb : De X b ρ (aS c')) (h : ∀ i j, c i → c' j → CDiv i j ∧ c'' (i / j)) : De X (.BinOp a .FloorDiv b pos) ρ (aS c'') := d_op op_fdiv (opd_S h) ha hb
theorem dt_gtU (ha : De X a ρ (aS c)) (hb : De X b ρ (aInt n)) (hm : behindInMarks .Gt b = false := by first | exact nomark _ | rfl) : DtU X (.Compare a [.Gt] [b] pos) ρ := fun _ _ _ _ g ev Q q =>
  tT_of (pt_cmpR op_gt pe_can pe_can hm) (op_run (R := aEx (fun _ : Bool => True) aBl) (fun _ _ _ _ _ g ⟨i, _, h1⟩ h2 Q q => ⟨i, n, h1, h2, q.here g ⟨_, trivial, rfl⟩⟩) ha hb g ev fun v H' Hc' s ⟨k, _, hk⟩ => ⟨k, hk, q k H' Hc' s⟩)
/-- what the pool holds -/
theorem d_pool0 (ha : De X a ρ aPool) (hb : De X b ρ (aInt 0)) (hs : PlainIx b := by exact fun _ _ => rfl) : De X (.Subscript a b pos) ρ (aS fun _ => True) := d_ix (P := aPool) (P' := aInt 0) ix_list (fun pl H Hc x y g ⟨p, h1, h2⟩ hy Q q => by
  obtain ⟨_, u, v, hp, _, _⟩ := g.pool p h2
  exact ⟨p, [.int u, .int v], 0, .int u, h1, hy, SqL.of hp, rfl, q.here g ⟨u, trivial, rfl⟩⟩) ha hb hs
theorem d_pool1 (ha : De X a ρ aPool) (hb : De X b ρ (aInt 1)) (hs : PlainIx b := by exact fun _ _ => rfl) : De X (.Subscript a b pos) ρ (aS fun i => 0 ≤ i ∧ i < 2147483647) := d_ix (P := aPool) (P' := aInt 1) ix_list (fun pl H Hc x y g ⟨p, h1, h2⟩ hy Q q => by
  obtain ⟨_, u, v, hp, k1, k2⟩ := g.pool p h2
  exact ⟨p, [.int u, .int v], 1, .int v, h1, hy, SqL.of hp, rfl, q.here g ⟨v, ⟨k1, k2⟩, rfl⟩⟩) ha hb hs
end
section
variable {pl : Option Addr} {H0 Hc0 H Hc : Hp} {ρ : Slots} {σ : L2.St}
theorem Stp.setPool {H1 Hc1 : Hp} (s : Stp pl H Hc H1 Hc1) {p : Addr} (hp : pl = some p) {u v : Int} (h1 : 0 ≤ v) (h2 : v < 2147483647) : Stp pl H Hc (upd H1 p (.lst [.int u, .int v])) Hc1 where
  keep := fun q o n h => by
    rw [upd_ne fun e => n (by rw [e]; exact hp)]
    exact s.keep q o n h
  cl := s.cl
  gd := ⟨fun q o h => by
      rw [upd_ne fun e => by
        rw [e, (s.gd.pool p hp).1] at h
        cases h]
      exact s.gd.sub _ _ h, fun q hq => by
      rw [hp] at hq
      cases hq
      exact ⟨(s.gd.pool p hp).1, u, v, upd_same, h1, h2⟩⟩
  new := s.new
theorem SOk.setPool (s : SOk pl H0 Hc0 ρ σ H Hc) {p : Addr} (hp : pl = some p) {u v : Int} (h1 : 0 ≤ v) (h2 : v < 2147483647) : SOk pl H0 Hc0 ρ σ (upd H p (.lst [.int u, .int v])) Hc where
  stp := s.stp.setPool hp h1 h2
  len := s.len
  val := s.val
  own := fun i Ps h => let ⟨q, vs, k1, k2, k3, k4, k5, k6⟩ := s.own i Ps h; ⟨q, vs, k1, by rw [upd_ne fun e => k4 (by rw [e]; exact hp)]; exact k2, k3, k4, k5, k6⟩
  ne := s.ne
end
section
variable {X : Cx} {ρ : Slots} {N M : Slots → Prop} {R : As → Prop} {pos spos : Pos} {a b e c : Expr} {A B rest : List Stmt} {d : Int → Prop}
theorem ds_ifU (hc : DtU X c (exR ρ)) (h1 : Ds X A ρ M R) (h2 : Ds X B ρ M R) (k : ∀ ρ', M ρ' → Ds X rest ρ' N R) : Ds X (.If c A B pos :: rest) ρ N R := fun pl H0 Hc0 σ H D ⟨Hc, s⟩ hn hr =>
  tSs_of (pss_cons (ps_if pt_can pss_can pss_can) pss_can) (hc pl σ H Hc s.stp.gd s.env _ fun b H1 Hc2 t => by
    have s' : St1 pl H0 Hc0 ρ σ H1 := ⟨Hc2, s.step t⟩
    cases b with
    | true => exact iteT (h1 pl H0 Hc0 σ H1 _ s' (fun ρ' σ' H' m st => k ρ' m pl H0 Hc0 σ' H' D st hn hr) hr)
    | false => exact iteF (h2 pl H0 Hc0 σ H1 _ s' (fun ρ' σ' H' m st => k ρ' m pl H0 Hc0 σ' H' D st hn hr) hr))
/-- pool[0] = e, pool[1] = e -/
theorem ds_pool0 (ho : De X a (exR ρ) aPool) (hb : De X b (exR ρ) (aInt 0)) (he : De X e (exR ρ) (aS d)) (k : Ds X rest ρ N R) (hs : swapsWithSole [.Subscript a b spos] e pos.line X.env = pure false := by rfl) (hw : swappedStores [.Subscript a b spos] e X.env = pure none := by rfl)
    (ha : ∀ v, assign (.Subscript a b spos) X.env v = (do
      let ov ← holding [v] (eval a X.env)
      let iv ← holding [v, ov] (eval b X.env)
      standAt spos
      holding [v, ov, iv] (setItem ov iv v)
      release [v, ov, iv] []) := by intro _; rfl) : Ds X (.Assign [.Subscript a b spos] e pos :: rest) ρ N R := fun pl H0 Hc0 σ H D ⟨Hc, s⟩ hn hr => by
  refine tSs_of (pss_cons (ps_asg pe_can (pg_sub pe_can pe_can set_list ha) hs hw) pss_can) ?_
  refine he pl σ H Hc s.stp.gd s.env _ fun v H1 Hc1 t ⟨z, hz, hv⟩ => ?_
  have s1 := s.step t
  refine ho pl σ H1 Hc1 s1.stp.gd s1.env _ fun o H2 Hc2 t2 ⟨p, h1, h2⟩ => ?_
  have s2 := s1.step t2
  refine hb pl σ H2 Hc2 s2.stp.gd s2.env _ fun i H3 Hc3 t3 hi => ?_
  have s3 := s2.step t3
  obtain ⟨_, u, w, hp, k1, k2⟩ := s3.stp.gd.pool p h2
  have hv' : v = V.int z := hv
  have hi' : i = V.int 0 := hi
  subst hv' hi' h1
  exact ⟨p, [.int u, .int w], 0, 0, rfl, rfl, hp, rfl, k pl H0 Hc0 σ _ D ⟨Hc3, s3.setPool (u := z) h2 k1 k2⟩ hn hr⟩
theorem ds_pool1 (ho : De X a (exR ρ) aPool) (hb : De X b (exR ρ) (aInt 1)) (he : De X e (exR ρ) (aS fun i => 0 ≤ i ∧ i < 2147483647)) (k : Ds X rest ρ N R) (hs : swapsWithSole [.Subscript a b spos] e pos.line X.env = pure false := by rfl) (hw : swappedStores [.Subscript a b spos] e X.env = pure none := by rfl)
    (ha : ∀ v, assign (.Subscript a b spos) X.env v = (do
      let ov ← holding [v] (eval a X.env)
      let iv ← holding [v, ov] (eval b X.env)
      standAt spos
      holding [v, ov, iv] (setItem ov iv v)
      release [v, ov, iv] []) := by intro _; rfl) : Ds X (.Assign [.Subscript a b spos] e pos :: rest) ρ N R := fun pl H0 Hc0 σ H D ⟨Hc, s⟩ hn hr => by
  refine tSs_of (pss_cons (ps_asg pe_can (pg_sub pe_can pe_can set_list ha) hs hw) pss_can) ?_
  refine he pl σ H Hc s.stp.gd s.env _ fun v H1 Hc1 t ⟨z, ⟨z1, z2⟩, hv⟩ => ?_
  have s1 := s.step t
  refine ho pl σ H1 Hc1 s1.stp.gd s1.env _ fun o H2 Hc2 t2 ⟨p, h1, h2⟩ => ?_
  have s2 := s1.step t2
  refine hb pl σ H2 Hc2 s2.stp.gd s2.env _ fun i H3 Hc3 t3 hi => ?_
  have s3 := s2.step t3
  obtain ⟨_, u, w, hp, k1, k2⟩ := s3.stp.gd.pool p h2
  have hv' : v = V.int z := hv
  have hi' : i = V.int 1 := hi
  subst hv' hi' h1
  exact ⟨p, [.int u, .int w], 1, 1, rfl, rfl, hp, rfl, k pl H0 Hc0 σ _ D ⟨Hc3, s3.setPool (u := u) h2 z1 z2⟩ hn hr⟩
end
end Da
namespace Lb
open PySem PySem.Spec PyProof.Rows L2 Da PySem.W
section
variable {P : Program} {w : World} {K : PySem.W.Frag} {mg : Str → Option Value} {base : Heap}
theorem scLawTake : FnScope ["_law_pool_here", "_law_size", "_law_found"] ["_law_pool_here", "_law_size"] (defScope sLawTake) := ⟨rfl, rfl, rfl, by decide +kernel, rfl, by decide +kernel, by decide +kernel⟩
theorem _law_take_ok (T : Txt w K mg) : Fok P w K mg base 1 "_law_take" ["_law_pool_here", "_law_size"] (spF (α := Nat) (fun n => 0 < n ∧ n < 1000000) (fun n => [aPool, aInt (n : Int)]) (fun n => aK n)) := by
  refine fok_of T.f_LawTake T.g__law_take scLawTake (fun _ => rfl) (fun _ F => F.bindsN fun _ _ _ _ _ _ us hl => match us, hl with | [_, _], _ => rfl) fun y hy cdv A outer s H E hr => ?_
  have hN := scLawTake.nd
  obtain ⟨y0, y1⟩ := hy
  have md : ∀ {i : Int}, 0 < (y : Int) ∧ (0 ≤ i % (y : Int) ∧ i % (y : Int) < (y : Int)) := fun {i} => ⟨by omega, Int.emod_nonneg _ (by omega), Int.emod_lt_of_pos _ (by omega)⟩
  have fin : Imp (aS fun i => 0 ≤ i ∧ i < (y : Int)) (aK y) := fun ⟨i, ⟨h1, h2⟩, h3⟩ => ⟨i.toNat, by omega, by show (aInt ((i.toNat : Nat) : Int)).is _ _ _; rw [Int.toNat_of_nonneg h1]; exact h3⟩
  refine ds_ifU (M := fun ρ => ρ = [.v aPool, .v (aInt (y : Int)), .no]) (dt_gtU (d_pool0 (d_v 0) d_int) d_int) ?_ (ds_nil rfl) fun ρ' e => ?_
  · refine ds_set (P := aS fun i => 0 ≤ i ∧ i < (y : Int)) 2 hN (d_modS (c' := fun i => i = (y : Int)) (d_pool0 (d_v 0) d_int) (d_s (d_v 1) rfl) fun i j _ e => by subst e; exact md) ?_
    refine ds_pool0 (d := fun _ => True) (d_v 0) d_int (d_fdivS (c' := fun i => i = (y : Int)) (d_pool0 (d_v 0) d_int) (d_s (d_v 1) rfl) fun i j _ e => by subst e; exact ⟨⟨by omega, by omega⟩, trivial⟩) ?_
    exact ds_ret (d_v 2) fin
  · subst e
    refine ds_pool1 (d_v 0) d_int (d_modS (c := fun _ => True) (c' := fun j => j = 2147483647) (d_addS (c := fun _ => True) (c' := fun _ => True) (d_mulS (c' := fun j => j = 48271) (d_pool1 (d_v 0) d_int) (d_s d_int rfl) fun i j hi e => by subst e; exact ⟨.inr ⟨by omega, by omega⟩, trivial⟩) (d_s d_int trivial) fun _ _ _ _ => trivial) (d_s d_int rfl) fun i j _ e => by subst e; exact ⟨by omega, by omega, by omega⟩) ?_
    exact ds_ret (d_modS (c := fun _ => True) (c' := fun j => j = (y : Int)) (d_fdivS (c := fun _ => True) (c' := fun j => j = 64) (d_modS (c := fun _ => True) (c' := fun j => j = 2147483629) (d_mulS (d_pool1 (d_v 0) d_int) (d_pool1 (d_v 0) d_int) fun i j hi hj => ⟨.inl ⟨by omega, by omega⟩, trivial⟩) (d_s d_int rfl) fun i j _ e => by subst e; exact ⟨by omega, trivial⟩) (d_s d_int rfl) fun i j _ e => by subst e; exact ⟨⟨by omega, by omega⟩, trivial⟩) (d_s (d_v 1) rfl) fun i j _ e => by subst e; exact md) fin
end
end Lb
set_option Elab.async false
set_option linter.all false
set_option maxRecDepth 100000
set_option maxHeartbeats 4000000
namespace Da
open PySem PySem.Spec PyProof.Rows L2
/-! ### [xs.pop(..) for .. in range(..)], xs the def's own list -/
theorem set_self {α : Type} {l : List α} {i : Nat} {x : α} (h : l[i]? = some x) : l.set i x = l := List.ext_getElem? fun j => by
  by_cases hj : i = j
  · subst hj
    rw [List.getElem?_set_self (List.getElem?_eq_some_iff.mp h).1, h]
  · rw [List.getElem?_set_ne hj]
theorem map_erase {α β : Type} (f : α → β) : ∀ (l : List α) (k : Nat), (l.map f).eraseIdx k = (l.eraseIdx k).map f
  | [], _ => rfl
  | _ :: _, 0 => rfl
  | a :: l, k + 1 => by
    show f a :: (l.map f).eraseIdx k = f a :: (l.eraseIdx k).map f
    rw [map_erase f l k]
theorem perm_erase {α : Type} : ∀ (l : List α) (k : Nat) (h : k < l.length), (l[k] :: l.eraseIdx k).Perm l
  | [], _, h => nomatch h
  | _ :: _, 0, _ => .refl _
  | a :: l, k + 1, h => (List.Perm.swap a _ _).trans ((perm_erase l k (by simpa using h)).cons a)
theorem Fits.erase {pl : Option Addr} {H : Hp} : ∀ {vs : List V} {Ps : List As} (k : Nat), Fits pl H vs Ps → Fits pl H (vs.eraseIdx k) (Ps.eraseIdx k)
  | _, _, _, .nil => .nil
  | _, _, 0, .cons _ t => t
  | _, _, k + 1, .cons h t => .cons h (Fits.erase k t)
theorem SOk.off {pl : Option Addr} {H0 Hc0 H Hc : Hp} {ρ : Slots} {σ : L2.St} (s : SOk pl H0 Hc0 ρ σ H Hc) {D : Addr} (h2 : Hc D = none) (h3 : pl ≠ some D) (h4 : H0 D = none) (h5 : ∀ (j : Nat) (Ps : List As) (p : Addr), ρ[j]? = some (.own Ps) → σ[j]? = some (some (.ref p)) → p ≠ D) (o : HO) : SOk pl H0 Hc0 ρ σ (upd H D o) Hc where
  stp := s.stp.mut h4 h2 h3 o
  len := s.len
  val := s.val
  own := fun i Ps h => let ⟨p, vs, k1, k2, k3, k4, k5, k6⟩ := s.own i Ps h; ⟨p, vs, k1, by rw [upd_ne (h5 i Ps p h k1)]; exact k2, k3, k4, k5, k6⟩
  ne := s.ne
section
variable {X : Cx} {ρ : Slots} {α : Type} {xs : List α} {P : α → As} {n : Nat} {x : Str} {scope : Scope} {tg arg re : Expr} {rp rpos p1 apos cpos pos : Pos} {is : List Nat} {pl : Option Addr} {H0 Hc0 H Hc : Hp} {σ : L2.St} {Q : VK}
theorem pop_comp (i0 : Nat) (own : List (Str × Nat)) (s : SOk pl H0 Hc0 ρ σ H Hc) (hi0 : ρ[i0]? = some (.own (xs.map P))) (hm : X.mg "range" = none) (hN : X.N.Nodup) (ok : BlkOk X.N X.env.scope scope own) (hn : De X re (frR ρ) (aInt (n : Int))) (hnx : n ≤ xs.length) (hz : xs.length < 1000)
    (hg : InBlk X scope fun Y => ∀ P', Dg Y tg P' is [P']) (harg : ∀ ys : List α, ys ≠ [] → ys.length ≤ xs.length → InBlk X scope fun Y => De Y arg (inR (frR (ρ.set i0 (.own (ys.map P)))) own is [aAny]) (aK ys.length))
    (hrd : ∀ Pq, (inR ((exR ρ).set i0 (some Pq)) own is [aAny])[i0]? = some (some Pq))
    (q : ∀ (D : Addr) (vs : List V) (zs ys : List α) (H' Hc' : Hp), (zs ++ ys).Perm xs → zs.length = n → SOk pl H0 Hc0 (ρ.set i0 (.own (ys.map P))) σ H' Hc' → H' D = some (.lst vs) → Hc' D = none → pl ≠ some D → H0 D = none → Fits pl Hc' vs (zs.map P) → Q (.ref D) H')
    (hNx : InBlk X scope fun Y => Y.N[i0]? = some x) (hv : InBlk X scope fun Y => Vis Y.env.scope x) (hgr : Gl X "range" := by rfl) (hc : X.calm = true := by rfl)
    (hd : (x == ("__debug__" : Str)) = false := by decide) (hcd : (x == ("__classdict__" : Str)) = false := by decide) (hb : InBlk X scope fun Y => attributeBase (.Name x p1) "pop" Y.env (eval (.Name x p1) Y.env) = eval (.Name x p1) Y.env := by exact fun _ _ _ _ _ => rfl)
    (hfew : InBlk X scope fun Y => ((backTo cpos (starEach (arg :: []) Y.env)).all (fun x => !x.1) && (backToKw cpos (keywordEach [] Y.env)).all (fun x => x.1.isSome)
      && decide ((arg :: []).length + ([] : List Keyword).length + (if ([] : List Keyword).isEmpty then 0 else 1) < 30)) = true := by exact fun _ _ _ _ _ => rfl)
    (hline : (apos.endLine == cpos.line) = true := by rfl) (hst : InBlk X scope fun Y => starEach (arg :: []) Y.env = (false, eval arg Y.env) :: starEach [] Y.env := by exact fun _ _ _ _ _ => rfl) (hplain : InBlk X scope fun Y => (backTo cpos (starEach [] Y.env)).any (·.1) = false := by exact fun _ _ _ _ _ => rfl)
    (hsr : starEach [re] X.env = [(false, eval re X.env)] := by rfl) (hw : ∀ i ∈ is, i ∈ own.map (·.2) := by decide)
    (hs : ∀ x, foldedSetIterable (.Call (.Name "range" rp) [re] [] rpos) X.env x = pure x := by intro _; rfl) :
    tE X (.ListComp (.Call (.Attribute (.Name x p1) "pop" apos) [arg] [] cpos) [⟨tg, .Call (.Name "range" rp) [re] [] rpos, [], 0⟩] scope pos) σ H Q := by
  refine tE_of (pe_lc hc hN (pi_range1 hgr hm (pa_cons pe_can pa_nil hsr) hsr) ok pg_B pts_B pe_B hs) ?_
  obtain ⟨HcF, t1, sm, ev⟩ := s.freeze
  refine hn pl σ H HcF t1.gd ev _ fun v H1 Hc2 t hv1 => ⟨(n : Int), by rw [show v = V.int (n : Int) from hv1], by omega, by omega, fun D hD => ?_⟩
  have s1 : SOk pl H0 Hc0 ρ σ H1 Hc := s.thaw sm t
  rw [Int.toNat_natCast]
  have hp := not_pool s1.stp.gd hD
  have h0D : H0 D = none := by
    cases e : H0 D with
    | none => rfl
    | some o =>
      rw [s1.stp.keep D o hp e] at hD
      cases hD
  have off : ∀ (j : Nat) (Ps : List As) (p : Addr), ρ[j]? = some (.own Ps) → σ[j]? = some (some (.ref p)) → p ≠ D := fun j Ps p h1 h2 e => by
    obtain ⟨p', vs, k1, k2, _⟩ := s1.own j Ps h1
    rw [h2] at k1
    cases k1
    rw [e, hD] at k2
    cases k2
  have off' : ∀ (ys : List α) (j : Nat) (Ps : List As) (p : Addr), (ρ.set i0 (.own (ys.map P)))[j]? = some (.own Ps) → σ[j]? = some (some (.ref p)) → p ≠ D := fun ys j Ps p h1 h2 => by
    rcases get_set h1 with ⟨rfl, _, _⟩ | ⟨_, e2⟩
    · exact off i0 _ p hi0 h2
    · exact off j Ps p e2 h2
  refine lc_range (lo := 0) (n := n) (fun i H' => ∃ (zs ys : List α) (Hc' : Hp) (acc : List V), (zs ++ ys).Perm xs ∧ zs.length = i ∧ SOk pl H0 Hc0 (ρ.set i0 (.own (ys.map P))) σ H' Hc' ∧ H' D = some (.lst acc) ∧ Hc' D = none ∧ Fits pl Hc' acc (zs.map P)) ⟨[], xs, Hc, [], .refl _, rfl, by rw [set_self hi0]; exact s1.step (Stp.apart s1.stp.gd hD _), upd_same, clean_none s1.stp.gd hD, .nil⟩ (fun i H' hi ⟨zs, ys, Hc', acc, h1, h2, s', h4, h5, h6⟩ => ?_) fun H' ⟨zs, ys, Hc', acc, h1, h2, s', h4, h5, h6⟩ => q D acc zs ys H' Hc' h1 h2 s' h4 h5 hp h0D h6
  have hsum : zs.length + ys.length = xs.length := by rw [← List.length_append]; exact h1.length_eq
  intro a1 a2 a3 a4 a5
  refine hg a1 a2 a3 a4 a5 aAny pl _ H' Hc' _ s'.stp.gd trivial _ fun vs f3 l3 => ⟨(wipe_setAll hw).trans wipe_wipe, ?_⟩
  intro b1 b2 b3 b4 b5
  refine tTs_of pts_nil ?_
  refine yesT ?_
  refine iteT ?_
  intro c1 c2 c3 c4 c5
  refine tE_of (pe_bm PySem.F.plainAttrs_list PySem.F.slot_list_pop PySem.F.type_list_pop mt_popAt (pe_var (hNx c1 c2 c3 c4 c5) (hv c1 c2 c3 c4 c5) hd hcd) (pa_cons pe_can pa_nil (hst c1 c2 c3 c4 c5)) (hb c1 c2 c3 c4 c5) (hfew c1 c2 c3 c4 c5) hline (hst c1 c2 c3 c4 c5) (hplain c1 c2 c3 c4 c5)) ?_
  have il : i0 < ρ.length := (List.getElem?_eq_some_iff.mp hi0).1
  have hown : (ρ.set i0 (.own (ys.map P)))[i0]? = some (.own (ys.map P)) := List.getElem?_set_self il
  obtain ⟨r, ws, k1, k2, k3, k4, k5, k6⟩ := s'.own i0 _ hown
  have evq : EnvOk pl Hc' σ ((exR ρ).set i0 (some (aV (.ref r)))) := ⟨by rw [List.length_set]; unfold exR; rw [List.length_map, s.len], fun j Pj h => by
    rcases get_set h with ⟨rfl, e2, _⟩ | ⟨ne, e2⟩
    · cases e2
      exact ⟨_, k1, rfl⟩
    · refine s'.env.at_ j Pj ?_
      unfold exR at e2 ⊢
      rw [List.getElem?_map] at e2 ⊢
      rw [List.getElem?_set_ne ne]
      exact e2⟩
  obtain ⟨w, at_, hw'⟩ := (EnvOk.setAll (evq.wipe (own.map (·.2))) f3 l3).at_ i0 (aV (.ref r)) (hrd _)
  have hw2 : w = V.ref r := hw'
  subst hw2
  refine ⟨_, at_, .inl ⟨rfl, _, SqL.of k2⟩, ?_⟩
  have yne : ys ≠ [] := fun e => by
    rw [e, List.length_nil] at hsum
    omega
  obtain ⟨HcG, tG, smG, evG⟩ := s'.freeze
  refine harg ys yne (by omega) c1 c2 c3 c4 c5 pl _ H' HcG tG.gd (EnvOk.setAll (evG.wipe (own.map (·.2))) (f3.mono smG) l3) _ fun v5 H5 Hc5 s5 ⟨k, hk, hv5⟩ => ?_
  have s6 := s'.thaw smG s5
  have hv6 : v5 = V.int (k : Int) := hv5
  subst hv6
  obtain ⟨r2, ws2, m1, m2, m3, m4, m5, m6⟩ := s6.own i0 _ hown
  rw [k1] at m1
  cases m1
  have hl : ws2.length = ys.length := by rw [m6.len, List.length_map]
  have hkl : k < ws2.length := by omega
  have hy : ws2[k]? = some ws2[k] := List.getElem?_eq_getElem hkl
  have hsz : ws2.length < 1000 := by omega
  refine ⟨r, ws2, (k : Int), k, ws2[k], rfl, rfl, m2, by omega, by omega, by rw [PySem.seqIndex_of (by omega) (by omega), Int.toNat_natCast], hy, ?_⟩
  have hrD : r ≠ D := off i0 _ r hi0 k1
  have hD5 : H5 D = some (.lst acc) := s5.keep D _ hp h4
  refine ⟨acc, by rw [upd_ne (Ne.symm hrD)]; exact hD5, small_of (by rw [h6.len, List.length_map]; omega), ?_⟩
  have fe := m6.erase k
  obtain ⟨u, hu, hPu⟩ := (show Fits pl Hc' ws2 (ys.map P) from m6).get (i := k) (P := P (ys[k]'(by omega))) (by rw [List.getElem?_map, List.getElem?_eq_getElem (by omega)]; rfl)
  rw [hy] at hu
  cases hu
  have s7 := s6.mut hown k1 (Qs := (ys.eraseIdx k).map P) (ws := ws2.eraseIdx k) (by rw [← map_erase]; exact fe)
  rw [List.set_set] at s7
  have s8 := s7.off (D := D) h5 hp h0D (off' _) (.lst (acc ++ [ws2[k]]))
  refine ⟨zs ++ [ys[k]'(by omega)], ys.eraseIdx k, Hc', acc ++ [ws2[k]], ?_, by rw [List.length_append, h2]; rfl, s8, upd_same, h5, ?_⟩
  · rw [List.append_assoc]
    refine (List.Perm.append_left zs ?_).trans h1
    exact perm_erase ys k (by omega)
  · rw [List.map_append]
    exact h6.app (.cons hPu .nil)
end
end Da
set_option Elab.async false
set_option linter.all false
set_option maxRecDepth 100000
set_option maxHeartbeats 4000000
namespace Lb
open PySem PySem.Spec PyProof.Rows L2 Da PySem.W
structure Picked (ms : List Str) (n : Nat) (zs : List Str) : Prop where
  len : zs.length = min n ms.length
  nd : zs.Nodup
  inn : ∀ z ∈ zs, z ∈ ms
section
variable {P : Program} {w : World} {K : PySem.W.Frag} {mg : Str → Option Value} {base : Heap}
theorem scLawPicked : FnScope ["_law_pool_here", "_law_menu", "_law_size", "_law_left", "_law_turn"] ["_law_pool_here", "_law_menu", "_law_size"] (defScope sLawPicked) := ⟨rfl, rfl, rfl, by decide +kernel, rfl, by decide +kernel, by decide +kernel⟩
theorem _law_picked_ok (T : Txt w K mg) : Fok P w K mg base 2 "_law_picked" ["_law_pool_here", "_law_menu", "_law_size"] (spF (α := List Str × Nat) (fun q => q.1.length < 1000 ∧ q.1.Nodup ∧ q.2 < 1000) (fun q => [aPool, aLst (q.1.map aStr), aInt (q.2 : Int)]) (fun q => aEx (Picked q.1 q.2) fun zs => aLst (zs.map aStr))) := by
  refine fok_of T.f_LawPicked T.g__law_picked scLawPicked (fun _ => rfl) (fun _ F => F.bindsN fun _ _ _ _ _ _ us hl => match us, hl with | [_, _, _], _ => rfl) fun y hy cdv A outer s H E hr => ?_
  have hN := scLawPicked.nd
  obtain ⟨ms, n⟩ := y
  obtain ⟨y0, y1, y2⟩ := hy
  replace y0 : ms.length < 1000 := y0
  replace y2 : n < 1000 := y2
  refine ds_setOwn 3 hN (dn_listL T.b_list (d_v 1)) ?_
  intro pl H0 Hc0 σ H1 D ⟨Hc, s⟩ hn hrt
  refine tSs_of (pss_cons (ps_ret pe_can) pss_can) (pop_comp (xs := ms) (P := aStr) (n := min n ms.length) (is := [4]) 3 [("_law_turn", 4)] s rfl T.b_range hN (blkOk_by (by kernel_rfl)) (De.as (d_min2 rfl T.b_min (d_v 2) (d_lenL (Ps := ms.map aStr) T.b_len (d_v 3))) ?_) (Nat.min_le_right ..) y0 (fun _ _ _ _ _ P' => dg_name 4 hN) (fun ys hne hle => fun _ _ _ _ _ => d_cl (_law_take_ok T) hr ys.length ⟨?_, ?_⟩ (da2 (d_v 0) (De.as (d_lenL (Ps := ys.map aStr) T.b_len (d_v 3)) ?_))) (fun _ => rfl) (fun D vs zs ys H' Hc' hp hl s' h1 h2 h3 h4 f => ?_) (fun _ _ _ _ _ => rfl) (fun _ _ _ _ _ => by first | exact Or.inl rfl | exact Or.inr (Or.inl rfl) | exact Or.inr (Or.inr rfl)))
  · show aInt (min (n : Int) ((ms.map aStr).length : Int)) = aInt ((min n ms.length : Nat) : Int)
    rw [List.length_map]
    congr 2
    omega
  · exact List.length_pos_iff.mpr hne
  · omega
  · rw [List.length_map]
  · obtain ⟨pr, sm⟩ := Out.promote s'.stp h1 h2 h3 h4
    refine hrt _ _ _ _ Imp.rfl' pr ⟨zs, ⟨hl, ?_, fun z hz => hp.subset (List.mem_append_left _ hz)⟩, _, vs, rfl, upd_same, f.mono sm⟩
    exact (List.nodup_append.mp (hp.nodup_iff.mpr y1)).1
end
end Lb
set_option Elab.async false
set_option linter.all false
set_option maxRecDepth 100000
set_option maxHeartbeats 4000000
namespace Da
open PySem PySem.Spec PyProof.Rows L2
/-! ### what was drawn is opened -/
def DeAx {β : Type} (X : Cx) (es : List Expr) (ρ : Rho) (c : β → Prop) (Ps : β → List As) : Prop := ∀ pl σ H Hc, Gd pl H Hc → EnvOk pl Hc σ ρ → ∀ Q : List V → Hp → Prop, (∀ vs H' Hc' z, Stp pl H Hc H' Hc' → c z → Fits pl Hc' vs (Ps z) → Q vs H') → tA X es σ H Q
section
variable {X : Cx} {ρ : Rho} {pos p : Pos} {a b e : Expr} {es : List Expr} {P : As} {Ps : List As} {β : Type} {c : β → Prop} {F : β → As} {Fs : β → List As} {x : Str} {k : Nat} {ps : List Str}
theorem dax_cons (ha : De X e ρ P) (hr : DeAx X es ρ c Fs) (hs : starEach (e :: es) X.env = (false, eval e X.env) :: starEach es X.env := by rfl) : DeAx X (e :: es) ρ c fun z => P :: Fs z := fun pl σ H Hc g ev Q q =>
  tA_of (pa_cons pe_can pa_can hs) (ha pl σ H Hc g ev _ fun v H1 Hc1 s1 h1 => hr pl σ H1 Hc1 s1.gd (ev.mono s1.cl) _ fun vs H2 Hc2 z s2 hz h2 => q _ H2 Hc2 z (s1.trans s2) hz (.cons (P.mono s2.cl h1) h2))
theorem dax_one (ha : De X e ρ (aEx c F)) (hr : DeA X es ρ Ps) (hs : starEach (e :: es) X.env = (false, eval e X.env) :: starEach es X.env := by rfl) : DeAx X (e :: es) ρ c fun z => F z :: Ps := fun pl σ H Hc g ev Q q =>
  tA_of (pa_cons pe_can pa_can hs) (ha pl σ H Hc g ev _ fun v H1 Hc1 s1 ⟨z, hz, h1⟩ => hr pl σ H1 Hc1 s1.gd (ev.mono s1.cl) _ fun vs H2 Hc2 s2 h2 => q _ H2 Hc2 z (s1.trans s2) hz (.cons ((F z).mono s2.cl h1) h2))
theorem d_clx {α : Type} {ok : α → Prop} {args : α → List As} {res : α → As} {j : Nat} (F : Fok X.prog X.w X.K X.mg X.base j x ps (spF ok args res)) (hr : Room k X.A) (f : β → α) (hy : ∀ z, c z → ok (f z)) (ha : DeAx X (e :: es) ρ c fun z => args (f z)) (hjk : j ≤ k := by decide) (hg : Gl X x := by rfl)
    (hdb : (x == ("__debug__" : Str)) = false := by decide) (he : starEach (e :: es) X.env = (false, eval e X.env) :: starEach es X.env := by rfl) (hpl : (backTo pos (starEach es X.env)).any (·.1) = false := by rfl) : De X (.Call (.Name x p) (e :: es) [] pos) ρ (aEx c fun z => res (f z)) := fun pl σ H Hc g ev Q q => by
  obtain ⟨fd, fn, hb⟩ := (F.mono hjk).ex
  refine tE_of (pe_call fn hr hg F.mg F.kp hb .nil pass0 pa_can hdb he hpl) (ha pl σ H Hc g ev _ fun vs H1 Hc1 z s1 hz h1 => ?_)
  show spF ok args res (vs ++ []) H1 Q E0
  rw [List.append_nil]
  exact ⟨pl, Hc1, f z, s1.gd, hy z hz, h1, fun v H2 Hc2 s2 h2 => q v H2 Hc2 (s1.trans s2) ⟨z, hz, h2⟩⟩
theorem d_addK {m n : Nat} (ha : De X a ρ (aInt (m : Int))) (hb : De X b ρ (aK n)) : De X (.BinOp a .Add b pos) ρ (aEx (fun k : Nat => m ≤ k ∧ k < m + n) fun k => aInt (k : Int)) :=
  d_op (P := aInt (m : Int)) (P' := aK n) op_add (fun _ _ _ _ _ g h1 ⟨k, hk, h2⟩ Q q => ⟨(m : Int), (k : Int), h1, h2, q.here g ⟨m + k, ⟨by omega, by omega⟩, by show V.int ((m : Int) + (k : Int)) = V.int ((m + k : Nat) : Int); congr 1⟩⟩) ha hb
theorem d_ex1 {β' : Type} {c' : β' → Prop} {F' : β' → As} (h : De X e ρ (aEx c F)) (i : ∀ z, c z → ∃ z', c' z' ∧ Imp (F z) (F' z')) : De X e ρ (aEx c' F') := h.imp fun ⟨z, hz, h1⟩ => let ⟨z', h2, h3⟩ := i z hz; ⟨z', h2, h3 h1⟩
end
section
variable {X : Cx} {ρ : Slots} {N : Slots → Prop} {R : As → Prop} {pos p' : Pos} {e : Expr} {rest : List Stmt} {β : Type} {c : β → Prop} {F : β → As}
theorem ds_setEx (i : Nat) {x : Str} (hN : X.N.Nodup) (he : De X e (exR ρ) (aEx c F)) (k : ∀ z, c z → Ds X rest (ρ.set i (.v (F z))) N R) (hi : X.N[i]? = some x := by rfl) (hx : Loc X.env.scope x := by first | exact Or.inl rfl | exact Or.inr rfl) (hs : swapsWith e (some (.Name x p')) pos.line X.env = pure false := by rfl) (hf : X.fn x = true ∨ X.env.scope.names.lookup x = some .local := by first | exact .inl rfl | exact .inr rfl | assumption) :
    Ds X (.Assign [.Name x p'] e pos :: rest) ρ N R := fun pl H0 Hc0 σ H D ⟨Hc, s⟩ hn hr =>
  tSs_of (pss_cons (ps_set hN hi hx pe_can hs hf) pss_can) (he pl σ H Hc s.stp.gd s.env _ fun v H1 Hc1 t ⟨z, hz, hv⟩ => k z hz pl H0 Hc0 _ H1 D ⟨Hc1, (s.step t).setV i hv⟩ hn hr)
end
end Da
namespace Lb
open PySem PySem.Spec PyProof.Rows L2 Da PySem.W
def menuW : List Str := ["x", "y", "z", "a", "rows", "part", "abcde", "q"]
theorem okName_of {z : Str} (h : (decide (1 ≤ z.length) && decide (z.length ≤ 6) && z.cps.toList.all fun c => decide (c ∈ letters)) = true) : OkName z := by
  rw [Bool.and_eq_true, Bool.and_eq_true] at h
  exact ⟨of_decide_eq_true h.1.1, of_decide_eq_true h.1.2, fun c hc => of_decide_eq_true (List.all_eq_true.mp h.2 c hc)⟩
theorem menuW_ok : ∀ z ∈ menuW, OkName z := fun z hz => okName_of ((List.all_eq_true (p := fun z : Str => (decide (1 ≤ z.length) && decide (z.length ≤ 6) && z.cps.toList.all fun c => decide (c ∈ letters)))).mp (by decide +kernel : menuW.all _ = true) z hz)
theorem menuW_nd : menuW.Nodup := by decide +kernel
theorem menuW_few : menuW.length < 1000 := by decide +kernel
structure Wired (ws : List (Str × Nat)) : Prop where
  ok : OkWires ws
  five : ws.length ≤ 5
theorem foldl_mul : ∀ (l : List Nat) (a : Nat), (∀ m ∈ l, m ≤ 3) → l.foldl (· * ·) a ≤ a * 3 ^ l.length
  | [], a, _ => by simp
  | m :: l, a, h => by
    have h1 := foldl_mul l (a * m) fun k hk => h k (List.mem_cons_of_mem _ hk)
    have h2 := h m (List.mem_cons_self ..)
    rw [List.foldl_cons, List.length_cons, Nat.pow_succ, Nat.mul_comm (3 ^ l.length) 3, ← Nat.mul_assoc]
    exact Nat.le_trans h1 (Nat.mul_le_mul_right _ (Nat.mul_le_mul_left _ h2))
theorem prodI_le {l : List Nat} (h : ∀ m ∈ l, m ≤ 3) (h5 : l.length ≤ 5) : prodI l ≤ 2048 := by
  have h1 := foldl_mul l 1 h
  have h2 : 3 ^ l.length ≤ 3 ^ 5 := Nat.pow_le_pow_right (by decide) h5
  have h3 : (3 : Nat) ^ 5 = 243 := by decide
  unfold prodI
  omega
section
variable {P : Program} {w : World} {K : PySem.W.Frag} {mg : Str → Option Value} {base : Heap}
theorem scLawWired : FnScope ["_law_pool_here", "_law_most", "_law_far", "_law_names", "_law_found", "_law_size", "_law_name", "_law_many"] ["_law_pool_here", "_law_most", "_law_far"] (defScope sLawWired) := ⟨rfl, rfl, rfl, by decide +kernel, rfl, by decide +kernel, by decide +kernel⟩
theorem _law_wired_ok (T : Txt w K mg) : Fok P w K mg base 3 "_law_wired" ["_law_pool_here", "_law_most", "_law_far"] (spF (α := Unit) (fun _ => True) (fun _ => [aPool, aInt 5, aInt 2]) (fun _ => aEx Wired fun ws => aLst (ws.map (aWire K)))) := by
  refine fok_of T.f_LawWired T.g__law_wired scLawWired (fun _ => rfl) (fun _ F => F.bindsN fun _ _ _ _ _ _ us hl => match us, hl with | [_, _, _], _ => rfl) fun y hy cdv A outer s H E hr => ?_
  have hN := scLawWired.nd
  have em : aLst (menuW.map aStr) = aLst [aStr "x", aStr "y", aStr "z", aStr "a", aStr "rows", aStr "part", aStr "abcde", aStr "q"] := rfl
  refine ds_setEx (c := fun zs => ∃ n, 1 ≤ n ∧ n < 6 ∧ Picked menuW n zs) (F := fun zs => aLst (zs.map aStr)) 3 hN (De.imp (d_clx (_law_picked_ok T) hr (fun k : Nat => (menuW, k)) (fun k hk => ⟨menuW_few, menuW_nd, by show k < 1000; have := hk.2; omega⟩) (dax_cons (d_v 0) (dax_cons (De.as (d_lst (da_cons d_str (da_cons d_str (da_cons d_str (da_cons d_str (da_cons d_str (da_cons d_str (da2 d_str d_str)))))))) em.symm) (dax_one (d_addK (m := 1) (n := 5) d_int (d_cl (_law_take_ok T) hr 5 ⟨by decide, by decide⟩ (da2 (d_v 0) (d_v 1)))) da_nil)))) fun ⟨k, hk, zs, hz, h⟩ => ⟨zs, ⟨k, hk.1, hk.2, hz⟩, h⟩) fun zs hzs => ?_
  obtain ⟨n, n1, n2, hz⟩ := hzs
  have hlen : zs.length = n := by
    rw [hz.len]
    have : menuW.length = 8 := rfl
    omega
  refine ds_setOwn 4 hN (dn_lst da_nil) ?_
  refine ds_set (P := aInt 1) 5 hN d_int ?_
  refine ds_for (α := Str) (xs := zs) (Pt := aStr) (is := [6]) (Ts := fun z => [aStr z]) (fun i ρ => ∃ (ws : List (Str × Nat)) (s : Int) (Z6 Z7 : Sl), ws.map (·.1) = zs.take i ∧ (∀ q ∈ ws, 2 ≤ q.2 ∧ q.2 ≤ 3) ∧ ρ = [.v aPool, .v (aInt 5), .v (aInt 2), .v (aLst (zs.map aStr)), .own (ws.map (aWire K)), .v (aInt s), Z6, Z7]) (fun _ _ h => False.elim h) rfl (di_list (d_v 3)) ⟨[], 1, .no, .no, rfl, (fun _ h => nomatch h), rfl⟩ (fun n _ => dg_name 6 hN) (fun i z hzi ρ' ⟨ws, s, Z6, Z7, hm, hb, e⟩ => ?_) (fun ρ' ⟨ws, s, Z6, Z7, hm, hb, e⟩ => ?_) (fun _ _ => rfl)
  · subst e
    refine ds_setEx (c := fun k : Nat => 2 ≤ k ∧ k < 2 + 2) (F := fun k : Nat => aInt (k : Int)) 7 hN (d_addK (m := 2) (n := 2) d_int (d_cl (_law_take_ok T) hr 2 ⟨by decide, by decide⟩ (da2 (d_v 0) (d_v 2)))) fun m ⟨m1, m2⟩ => ?_
    refine ds_ifU (M := fun ρ => ∃ m : Nat, 2 ≤ m ∧ m ≤ 3 ∧ ρ = [.v aPool, .v (aInt 5), .v (aInt 2), .v (aLst (zs.map aStr)), .own (ws.map (aWire K)), .v (aInt s), .v (aStr z), .v (aInt (m : Int))]) (dt_gtU (c := fun _ => True) (d_s (d_mul (i := s) (j := (m : Int)) (.inr ⟨by omega, by omega⟩) (d_v 5) (d_v 7)) trivial) d_int) (ds_set (P := aInt ((2 : Nat) : Int)) 7 hN d_int (ds_nil ⟨2, by omega, by omega, rfl⟩)) (ds_nil ⟨m, m1, by omega, rfl⟩) fun ρ' ⟨m, m1, m2, e⟩ => ?_
    subst e
    refine ds_set 5 hN (d_mul (i := s) (j := (m : Int)) (.inr ⟨by omega, by omega⟩) (d_v 5) (d_v 7)) ?_
    refine ds_app (P := aWire K (z, m)) 4 rfl (d_tup (da2 (d_v 6) (d_v 7))) (ds_nil ⟨ws ++ [(z, m)], s * (m : Int), .v (aStr z), .v (aInt (m : Int)), ?_, fun q hq => ?_, ?_⟩) ?_
    · rw [List.map_append, hm, take_more hzi]
      rfl
    · rcases List.mem_append.mp hq with h | h
      · exact hb q h
      · rw [List.mem_singleton.mp h]
        exact ⟨m1, m2⟩
    · rw [List.map_append]
      rfl
    · rw [List.length_map]
      have := congrArg List.length hm
      rw [List.length_map, List.length_take] at this
      omega
  · subst e
    rw [List.take_length] at hm
    have hl : ws.length = zs.length := by
      have := congrArg List.length hm
      rw [List.length_map] at this
      exact this
    refine ds_ret (d_v 4) fun h => ⟨ws, ⟨⟨by omega, by omega, fun q hq => ⟨menuW_ok _ (hz.inn _ (by rw [← hm]; exact List.mem_map.mpr ⟨q, hq, rfl⟩)), (hb q hq).1, by have := (hb q hq).2; omega⟩, by rw [hm]; exact hz.nd, prodI_le (fun m hm => ?_) (by rw [List.length_map]; omega)⟩, by omega⟩, h⟩
    obtain ⟨q, hq, rfl⟩ := List.mem_map.mp hm
    exact (hb q hq).2
end
end Lb
set_option Elab.async false
set_option linter.all false
set_option maxRecDepth 100000
set_option maxHeartbeats 4000000
namespace Da
open PySem PySem.Spec PyProof.Rows L2
def DiX {α β : Type} (X : Cx) (tg it : Expr) (ρ : Rho) (c : β → Prop) (xs : β → List α) (P : α → As) : Prop := ∀ pl σ H Hc, Gd pl H Hc → EnvOk pl Hc σ ρ → ∀ R, (∀ J H1 Hc1 z, c z → Stp pl H Hc H1 Hc1 → Yields pl J Hc1 ((xs z).map P) → R J H1) → tI X tg it σ H R
section
variable {X : Cx} {ρ : Rho} {pos p p2 : Pos} {a b e tg : Expr} {n m : Nat}
theorem dix_range (hm : X.mg "range" = none) (h : De X e ρ (aK m)) (hz : m < 1000000) (hg : Gl X "range" := by rfl) (hs : starEach [e] X.env = [(false, eval e X.env)] := by rfl) : DiX X tg (.Call (.Name "range" p) [e] [] pos) ρ (fun k : Nat => k < m) List.range fun k => aInt (k : Int) := fun pl σ H Hc g ev R q =>
  tI_of (pi_range1 hg hm (pa_cons pe_can pa_nil hs) hs) (h pl σ H Hc g ev _ fun v H1 Hc1 s1 ⟨n, hn, hv⟩ => ⟨(n : Int), by rw [show v = V.int (n : Int) from hv], by omega, by omega, q _ H1 Hc1 n hn s1 fun i H2 Hc2 sm g2 => by
    rw [Int.toNat_natCast]
    refine ⟨fun Pi hi => ?_, fun h1 h2 => by rw [List.length_map, List.length_range] at h1; exact h1⟩
    have hlt : i < n := by
      have := (List.getElem?_eq_some_iff.mp hi).1
      rw [List.length_map, List.length_range] at this
      exact this
    rw [List.getElem?_map, List.getElem?_range hlt] at hi
    cases hi
    refine ⟨hlt, fun y H3 ⟨z1, z2⟩ => ⟨Hc2, by rw [z1]; exact Stp.refl g2, ?_⟩⟩
    rw [z2]
    show V.int (0 + (i : Int)) = V.int (i : Int)
    rw [Int.zero_add]⟩)
theorem dn_listRg (hc : X.calm = true) (hm : X.mg "list" = none) (hm2 : X.mg "range" = none) (h : De X e ρ (aInt (n : Int))) (hz : n < 1000000) (hg : Gl X "list" := by rfl) (hg2 : Gl X "range" := by rfl) (na : starEach [.Call (.Name "range" p2) [e] [] p] X.env = (false, eval (.Call (.Name "range" p2) [e] [] p) X.env) :: starEach [] X.env := by rfl) (na2 : starEach [e] X.env = (false, eval e X.env) :: starEach [] X.env := by rfl) {p3 : Pos} : DeN X (.Call (.Name "list" p3) [.Call (.Name "range" p2) [e] [] p] [] pos) ρ ((List.range n).map fun k : Nat => aInt (k : Int)) := fun pl σ H Hc g ev Q q =>
  tE_of (pe_listRg hc hg hm (prg_1 hg2 hm2 pe_can na2) na) (h pl σ H Hc g ev _ fun v H1 Hc1 s1 hv => ⟨(n : Int), hv, .of_le (by omega) (by omega) (by omega) (by omega), fun l hl => (q.step s1).new s1.gd hl (by
    have e : rgV 0 (n : Int) = (List.range n).map fun k : Nat => V.int (k : Int) := by
      unfold rgV
      rw [show ((n : Int) - 0).toNat = n by omega]
      refine List.map_congr_left fun k _ => ?_
      rw [Int.zero_add]
    rw [e]
    exact fits_of (f := fun k : Nat => V.int (k : Int)) _)⟩)
/-- min of a length and a drawn number -/
theorem d_minK {lo hi : Nat} (hc : X.calm = true) (hm : X.mg "min" = none) (ha : De X a ρ (aInt (m : Int))) (hb : De X b ρ (aEx (fun k : Nat => lo ≤ k ∧ k < hi) fun k => aInt (k : Int))) (hs : starEach (a :: [b]) X.env = (false, eval a X.env) :: starEach [b] X.env := by rfl) (hs2 : starEach (b :: []) X.env = (false, eval b X.env) :: starEach [] X.env := by rfl) (hpl : (backTo pos (starEach [b] X.env)).any (·.1) = false := by rfl) (hg : Gl X "min" := by rfl) :
    De X (.Call (.Name "min" p) [a, b] [] pos) ρ (aEx (fun k : Nat => k ≤ m ∧ k < hi) fun k => aInt (k : Int)) :=
  d_cb (call_min2 hc) (fun pl H Hc vs g f Q q => by
    obtain ⟨v, u, e1, h1, j, hj, h2⟩ := two f
    subst e1
    refine ⟨(m : Int), (j : Int), by rw [show v = V.int (m : Int) from h1, show u = V.int (j : Int) from h2], ?_⟩
    refine q.here g ⟨min m j, ⟨by omega, by omega⟩, ?_⟩
    show V.int _ = V.int ((min m j : Nat) : Int)
    congr 1
    split <;> omega) hm (da_cons ha (da1 hb hs2) hs) (by decide +kernel) hg (by decide) (by decide) hs hpl
end
section
variable {X : Cx} {ρ : Slots} {N : Slots → Prop} {R : As → Prop} {pos p' : Pos} {e : Expr} {rest body : List Stmt}
theorem ds_setVx {β : Type} {c : β → Prop} {f : β → V} (i : Nat) {x : Str} (hN : X.N.Nodup) (he : De X e (frR ρ) (aEx c fun z => aV (f z))) (k : ∀ z, c z → Ds X rest (ρ.set i (.v (aV (f z)))) N R) (hi : X.N[i]? = some x := by rfl) (hx : Loc X.env.scope x := by first | exact Or.inl rfl | exact Or.inr rfl) (hs : swapsWith e (some (.Name x p')) pos.line X.env = pure false := by rfl) (hf : X.fn x = true ∨ X.env.scope.names.lookup x = some .local := by first | exact .inl rfl | exact .inr rfl | assumption) :
    Ds X (.Assign [.Name x p'] e pos :: rest) ρ N R := fun pl H0 Hc0 σ H D ⟨Hc, s⟩ hn hr => by
  obtain ⟨Hc1, t1, sm, ev⟩ := s.freeze
  exact tSs_of (pss_cons (ps_set hN hi hx pe_can hs hf) pss_can) (he pl σ H Hc1 t1.gd ev _ fun v H1 Hc2 t ⟨z, hz, hv⟩ => k z hz pl H0 Hc0 _ H1 D ⟨Hc, (s.thaw sm t).setV i (show v = f z from hv)⟩ hn hr)
theorem ds_forX {α β : Type} {cz : β → Prop} {tg it : Expr} {xs : β → List α} {Pt : α → As} {is : List Nat} {Ts : α → List As} (I : β → Nat → Slots → Prop) (hp : PassesOwn (model X.prog X.w) X.A X.env X.xe) (hc : X.calm = true) (hi : DiX X tg it (exR ρ) cz xs Pt) (h0 : ∀ z, cz z → I z 0 ρ) (hg : ∀ z, cz z → ∀ x ∈ xs z, Dg X tg (Pt x) is (Ts x))
    (hb : ∀ z, cz z → ∀ i x, (xs z)[i]? = some x → ∀ ρ', I z i ρ' → Ds X body (is.zip (Ts x) |>.foldl (fun r q => r.set q.1 (.v q.2)) ρ') (I z (i + 1)) R) (k : ∀ z, cz z → ∀ ρ', I z (xs z).length ρ' → Ds X rest ρ' N R) (hl : ∀ z, cz z → ∀ x ∈ xs z, (Ts x).length = is.length) (hs : ∀ x, foldedSetIterable it X.env x = pure x := by intro _; rfl) :
    Ds X (.For tg it body [] pos :: rest) ρ N R := fun pl H0 Hc0 σ H D ⟨Hc, s⟩ hn hr => by
  refine tSs_of (pss_cons (ps_for hp hc pi_can pg_can pss_can hs) pss_can) (hi pl σ H Hc s.stp.gd s.env _ fun J H1 Hc1 zz hzz t y => ?_)
  generalize exs : xs zz = xs' at y
  have hg := hg zz hzz
  have hb := hb zz hzz
  have k := k zz hzz
  have hl := hl zz hzz
  have h0 := h0 zz hzz
  rw [exs] at hg hb k hl
  refine ⟨fun i m σ' H' => m = xs'.length - i ∧ i ≤ xs'.length ∧ ∃ ρ' Hc', I zz i ρ' ∧ SOk pl H0 Hc0 ρ' σ' H' Hc' ∧ Same Hc1 Hc', ⟨xs'.length, by simp, Nat.zero_le _, ρ, Hc1, h0, s.step t, Same.refl _⟩, ?_⟩
  rintro i m σ' H' ⟨rfl, hle, ρ', Hc', hI, s', sm⟩
  obtain ⟨y1, y2⟩ := y i H' Hc' sm s'.stp.gd
  by_cases hlt : i < xs'.length
  · have hx : xs'[i]? = some xs'[i] := by simp [hlt]
    have hm : xs'[i] ∈ xs' := List.getElem_mem hlt
    obtain ⟨go, yl⟩ := y1 (Pt xs'[i]) (by rw [List.getElem?_map, hx]; rfl)
    refine .inr ⟨go, fun σ2 H2 => ∃ ρ' Hc', I zz (i + 1) ρ' ∧ SOk pl H0 Hc0 ρ' σ2 H2 Hc' ∧ Same Hc1 Hc', fun σ2 H2 n2 => ⟨xs'.length - (i + 1), by omega, rfl, hlt, n2⟩, fun v H3 hv => ?_⟩
    obtain ⟨Hc3, s3, pv⟩ := yl v H3 hv
    refine hg _ hm pl σ' H3 Hc3 v s3.gd pv _ fun vs f3 l3 => ?_
    have sA : ∀ (is : List Nat) (vs : List V) (Qs : List As) (r : Slots) (τ : L2.St), SOk pl H0 Hc0 r τ H3 Hc3 → Fits pl Hc3 vs Qs → vs.length = is.length → SOk pl H0 Hc0 (is.zip Qs |>.foldl (fun r q => r.set q.1 (.v q.2)) r) (setAll τ is vs) H3 Hc3 := by
      intro is
      induction is with
      | nil =>
        intro vs Qs r τ h f l
        cases f with
        | nil => exact h
        | cons a b => cases l
      | cons a as ih =>
        intro vs Qs r τ h f l
        cases f with
        | nil => cases l
        | cons f1 f2 => exact ih _ _ _ _ (h.setV a f1) f2 (by simpa using l)
    have s4 := sA is vs (Ts xs'[i]) ρ' σ' (s'.step s3) f3 l3
    -- what the loop walks stays: the body is run from an entry of its own
    obtain ⟨H9, s9, u1, u2⟩ := s4.rebase
    exact hb i _ hx ρ' hI pl H9 Hc3 _ H3 _ ⟨Hc3, s9⟩ (fun ρ2 σ2 H2 n2 ⟨Hc2, st2⟩ => ⟨ρ2, Hc2, n2, SOk.unbase u1 u2 st2, (sm.trans s3.cl).trans st2.stp.cl⟩) fun P v H2 Hc2 r2 t2 h2 => hr P v H2 Hc2 r2 (u1 _ _ t2) h2
  · have e : i = xs'.length := by omega
    subst e
    exact .inl ⟨y2 (by rw [List.length_map]; exact Nat.le_refl _) (by rw [List.length_map]), k ρ' hI pl H0 Hc0 σ' H' D ⟨Hc', s'⟩ hn hr⟩end
end Da
set_option Elab.async false
set_option linter.all false
set_option maxRecDepth 100000
set_option maxHeartbeats 4000000
namespace Lb
open PySem PySem.Spec PyProof.Rows L2 Da PySem.W
theorem lot_of {zs : List Nat} {ns : List Int} (hp : ns.Perm (zs.map fun k : Nat => (k : Int))) : lI (ns.map Int.toNat) = ns ∧ (ns.map Int.toNat).Perm zs := by
  have hnn : ∀ i ∈ ns, 0 ≤ i := fun i hi => by
    obtain ⟨k, _, rfl⟩ := List.mem_map.mp (hp.subset hi)
    omega
  refine ⟨?_, ?_⟩
  · unfold lI
    rw [List.map_map]
    conv => rhs; rw [← List.map_id ns]
    exact List.map_congr_left fun i hi => Int.toNat_of_nonneg (hnn i hi)
  · have h := hp.map Int.toNat
    rw [List.map_map] at h
    have e : zs.map (Int.toNat ∘ fun k : Nat => (k : Int)) = zs := by
      conv => rhs; rw [← List.map_id zs]
      exact List.map_congr_left fun k _ => Int.toNat_natCast k
    rw [e] at h
    exact h
section
variable {X : Cx} {ρ : Slots} {N : Slots → Prop} {R : As → Prop} {ls : List Nat} {n : Nat} {x y : Str} {scope : Scope} {tg arg re : Expr} {rp rpos p1 apos cpos lpos pos p' tp tpos sp spos : Pos} {is : List Nat} {rest : List Stmt}
/-- x = tuple(sorted([y.pop(..) for .. in range(..)])), ints -/
theorem ds_setLot (i i0 : Nat) (own : List (Str × Nat)) (hi0 : ρ[i0]? = some (.own (ls.map fun k : Nat => aInt (k : Int)))) (hm : X.mg "range" = none) (hmt : X.mg "tuple" = none) (hms : X.mg "sorted" = none) (hN : X.N.Nodup) (ok : BlkOk X.N X.env.scope scope own) (hn : De X re (frR ρ) (aInt (n : Int))) (hnx : n ≤ ls.length) (hz : ls.length < 1000)
    (hg : InBlk X scope fun Y => ∀ P', Dg Y tg P' is [P']) (harg : ∀ ys : List Nat, ys ≠ [] → ys.length ≤ ls.length → InBlk X scope fun Y => De Y arg (inR (frR (ρ.set i0 (.own (ys.map fun k : Nat => aInt (k : Int))))) own is [aAny]) (aK ys.length))
    (hrd : ∀ Pq, (inR ((exR ρ).set i0 (some Pq)) own is [aAny])[i0]? = some (some Pq))
    (k : ∀ zs ys lot : List Nat, (zs ++ ys).Perm ls → lot.Perm zs → zs.length = n → lI lot = lI lot → lot.Pairwise (· ≤ ·) → Ds X rest ((ρ.set i0 (.own (ys.map fun k : Nat => aInt (k : Int)))).set i (.v (aLotH lot))) N R)
    (hNx : InBlk X scope fun Y => Y.N[i0]? = some y) (hv : InBlk X scope fun Y => Vis Y.env.scope y) (hxi : X.N[i]? = some x := by rfl) (hx : Loc X.env.scope x := by first | exact Or.inl rfl | exact Or.inr rfl) (hf : X.fn x = true ∨ X.env.scope.names.lookup x = some .local := by first | exact .inl rfl | exact .inr rfl | assumption) (hgr : Gl X "range" := by rfl) (hgt : Gl X "tuple" := by rfl) (hgs : Gl X "sorted" := by rfl) (hc : X.calm = true := by rfl)
    (hd : (y == ("__debug__" : Str)) = false := by decide) (hcd : (y == ("__classdict__" : Str)) = false := by decide) (hb : InBlk X scope fun Y => attributeBase (.Name y p1) "pop" Y.env (eval (.Name y p1) Y.env) = eval (.Name y p1) Y.env := by exact fun _ _ _ _ _ => rfl)
    (hfew : InBlk X scope fun Y => ((backTo cpos (starEach (arg :: []) Y.env)).all (fun x => !x.1) && (backToKw cpos (keywordEach [] Y.env)).all (fun x => x.1.isSome)
      && decide ((arg :: []).length + ([] : List Keyword).length + (if ([] : List Keyword).isEmpty then 0 else 1) < 30)) = true := by exact fun _ _ _ _ _ => rfl)
    (hline : (apos.endLine == cpos.line) = true := by rfl) (hst : InBlk X scope fun Y => starEach (arg :: []) Y.env = (false, eval arg Y.env) :: starEach [] Y.env := by exact fun _ _ _ _ _ => rfl) (hplain : InBlk X scope fun Y => (backTo cpos (starEach [] Y.env)).any (·.1) = false := by exact fun _ _ _ _ _ => rfl)
    (hsr : starEach [re] X.env = [(false, eval re X.env)] := by rfl) (hw : ∀ i ∈ is, i ∈ own.map (·.2) := by decide)
    (hs : ∀ x, foldedSetIterable (.Call (.Name "range" rp) [re] [] rpos) X.env x = pure x := by intro _; rfl) :
    Ds X (.Assign [.Name x p'] (.Call (.Name "tuple" tp) [.Call (.Name "sorted" sp) [.ListComp (.Call (.Attribute (.Name y p1) "pop" apos) [arg] [] cpos) [⟨tg, .Call (.Name "range" rp) [re] [] rpos, [], 0⟩] scope lpos] [] spos] [] tpos) pos :: rest) ρ N R := fun pl H0 Hc0 σ H D ⟨Hc, s⟩ hnn hrr => by
  refine tSs_of (pss_cons (ps_set hN hxi hx (pe_callTy call_tuple_of hgt hmt (by decide +kernel) (pa_cons (pe_callB cr_sortedI hgs hms (by decide +kernel) (pa_cons pe_can pa_nil)) pa_nil)) rfl hf) pss_can) ?_
  refine pop_comp (xs := ls) (P := fun k : Nat => aInt (k : Int)) (n := n) i0 own s hi0 hm hN ok hn hnx hz hg harg hrd (fun Dl vs zs ys H' Hc' hpm hl2 s' h1 h2 h3 h4 f => ?_) hNx hv hgr hc hd hcd hb hfew hline hst hplain hsr hw hs
  have ev : vs = (zs.map fun k : Nat => (k : Int)).map V.int := by
    rw [List.map_map]
    exact fits_map (f := fun k : Nat => V.int (k : Int)) f
  refine ⟨Dl, zs.map fun k : Nat => (k : Int), rfl, SqL.of (by rw [← ev]; exact h1), fun ns p hp hs' hp0 => ⟨p, ns.map V.int, rfl, .inl ⟨SqL.of upd_same, fun l hl => ?_⟩⟩⟩
  obtain ⟨e1, e2⟩ := lot_of hp
  have t1 := Stp.apart s'.stp.gd hp0 (.lst (ns.map V.int))
  have t2 := Stp.alloc t1.gd hl (.tup (ns.map V.int))
  have hup : (ns.map Int.toNat).Pairwise (· ≤ ·) := by
    rw [List.pairwise_map]
    exact hs'.imp fun {a b} h => by omega
  refine k zs ys (ns.map Int.toNat) hpm e2 hl2 rfl hup pl H0 Hc0 _ _ D ⟨_, ((s'.step t1).step t2).setV i ?_⟩ hnn hrr
  refine ⟨l, ns.map V.int, rfl, upd_same, ?_⟩
  show Fits _ _ _ ((lI (ns.map Int.toNat)).map aInt)
  rw [e1]
  exact fits_of (f := V.int) ns
end
end Lb
namespace Lb
open PySem PySem.Spec PyProof.Rows L2 Da PySem.W
def menuS : List Str := ["m", "n", "o"]
structure Staged (n : Nat) (ss : List Stg) : Prop where
  names : (ss.map (·.1)).Sublist menuS
  lot : ∀ q ∈ ss, OkStgLot n q.2
  dis : (withinStg ss).Nodup
  lt : ∀ p ∈ withinStg ss, p < n
theorem dt_neEmptyL {X : Cx} {ρ : Rho} {pos p : Pos} {a : Expr} {x1} {l : List Nat} {k : Nat} (hr : Room k X.A) (ha : De X a ρ (aLot X.K l)) : Dt X (.Compare a [.NotEq] [.Tuple [] x1 p] pos) ρ (!decide (l = [])) :=
  (dt_cmp (op_neD hr.units) (k := !PyData.eqv (rowD (lI l)) (rowD [])) (opd_neD row_is (isd_tup (α := Int) (P := aInt) (d := .int) (xs := []) fun _ h => nomatch h) (row_shaped _) (row_shaped [])) ha (d_tup da_nil)).as (by
    rw [rowD_eqv]
    congr 1
    exact decide_eq_decide.mpr ⟨fun e => List.map_eq_nil_iff.mp e, fun e => by rw [e]; rfl⟩)
section
variable {P : Program} {w : World} {K : PySem.W.Frag} {mg : Str → Option Value} {base : Heap}
theorem scLawStages : FnScope ["_law_pool_here", "_law_bound_here", "_law_left", "_law_found", "_law_turn", "_law_size", "_law_lot", "_law_k"] ["_law_pool_here", "_law_bound_here"] (defScope sLawStages) := ⟨rfl, rfl, rfl, by decide +kernel, rfl, by decide +kernel, by decide +kernel⟩
theorem _law_stages_ok (T : Txt w K mg) : Fok P w K mg base 2 "_law_stages" ["_law_pool_here", "_law_bound_here"] (spF (α := List (Str × List Tie)) (fun ps => ps.length ≤ 7) (fun ps => [aPool, aLst (ps.map (aPart K))]) (fun ps => aEx (Staged ps.length) fun ss => aLst (ss.map (aStg K)))) := by
  refine fok_of T.f_LawStages T.g__law_stages scLawStages (fun _ => rfl) (fun _ F => F.bindsN fun _ _ _ _ _ _ us hl => match us, hl with | [_, _], _ => rfl) fun y hy cdv A outer s H E hr => ?_
  have hN := scLawStages.nd
  replace hy : y.length ≤ 7 := hy
  have hP : (fun k : Nat => aInt (k : Int)) = fun k : Nat => aInt (k : Int) := rfl
  refine ds_setOwn 2 hN (dn_listRg rfl T.b_list T.b_range (De.as (d_lenL (Ps := y.map (aPart K)) T.b_len (d_v 1)) (by rw [List.length_map])) (by omega : y.length < 1000000)) ?_
  refine ds_setOwn 3 hN (dn_lst da_nil) ?_
  refine ds_forX (α := Nat) (Pt := fun k : Nat => aInt (k : Int)) (is := [4]) (Ts := fun k : Nat => [aInt (k : Int)]) (fun _ i ρ => ∃ (ss : List Stg) (ls : List Nat) (Z4 Z5 Z6 : Sl), (withinStg ss ++ ls).Perm (List.range y.length) ∧ (ss.map (·.1)).Sublist (menuS.take i) ∧ (∀ q ∈ ss, OkStgLot y.length q.2) ∧ ρ = [.v aPool, .v (aLst (y.map (aPart K))), .own (ls.map fun k : Nat => aInt (k : Int)), .own (ss.map (aStg K)), Z4, Z5, Z6, .no]) (fun _ _ h => False.elim h) rfl (dix_range T.b_range (d_cl (_law_take_ok T) hr 4 ⟨by decide, by decide⟩ (da2 (d_v 0) d_int)) (by decide)) (fun _ _ => ⟨[], List.range y.length, .no, .no, .no, .refl _, List.nil_sublist _, (fun _ h => nomatch h), rfl⟩) (fun _ _ n _ => dg_name 4 hN) (fun z hz i t hti ρ' ⟨ss, ls, Z4, Z5, Z6, hp, hs, hl, e⟩ => ?_) (fun z hz ρ' ⟨ss, ls, Z4, Z5, Z6, hp, hs, hl, e⟩ => ?_) (fun _ _ _ _ => rfl)
  · subst e
    have hz' : z < 4 := hz
    have hiz : i < z := by
      have := (List.getElem?_eq_some_iff.mp hti).1
      rw [List.length_range] at this
      exact this
    have et : t = i := by
      rw [List.getElem?_range hiz] at hti
      exact (Option.some.inj hti).symm
    subst et
    have nd := hp.nodup_iff.mpr List.nodup_range
    have lln : ls.length ≤ 7 := by
      have h := hp.length_eq
      rw [List.length_append, List.length_range] at h
      omega
    refine ds_setVx (c := fun k : Nat => k ≤ ls.length ∧ k < 1 + 3) (f := fun k : Nat => V.int (k : Int)) 5 hN (d_minK (m := ls.length) (lo := 1) (hi := 1 + 3) rfl T.b_min (De.as (d_lenL (Ps := ls.map fun k : Nat => aInt (k : Int)) T.b_len (d_v 2)) (by rw [List.length_map])) (d_addK (m := 1) (n := 3) d_int (d_cl (_law_take_ok T) hr 3 ⟨by decide, by decide⟩ (da2 (d_v 0) d_int)))) fun k ⟨k1, k2⟩ => ?_
    refine ds_setLot (ls := ls) (n := k) (is := [7]) 6 2 [("_law_k", 7)] rfl T.b_range T.b_tuple T.b_sorted hN (blkOk_by (by kernel_rfl)) (d_v 5) k1 (by omega) (fun _ _ _ _ _ P' => dg_name 7 hN) (fun ys hne hle => fun _ _ _ _ _ => d_cl (_law_take_ok T) hr ys.length ⟨List.length_pos_iff.mpr hne, by omega⟩ (da2 (d_v 0) (De.as (d_lenL (Ps := ys.map fun k : Nat => aInt (k : Int)) T.b_len (d_v 2)) (by rw [List.length_map])))) (fun _ => rfl) (fun zs ys lot hzy hlz hl1 _ hup => ?_) (fun _ _ _ _ _ => rfl) (fun _ _ _ _ _ => by first | exact Or.inl rfl | exact Or.inr (Or.inl rfl) | exact Or.inr (Or.inr rfl))
    have hall : (withinStg ss ++ (zs ++ ys)).Perm (List.range y.length) := (List.Perm.append_left _ hzy).trans hp
    have nd2 := hall.nodup_iff.mpr List.nodup_range
    have lnd : lot.Nodup := hlz.nodup_iff.mpr (List.nodup_append.mp (List.nodup_append.mp nd2).2.1).1
    have lup : Up lot := hup.imp₂ (fun a b h1 h2 => Nat.lt_of_le_of_ne h1 h2) lnd
    have llt : ∀ p ∈ lot, p < y.length := fun p hpl => List.mem_range.mp (hall.subset (List.mem_append_right _ (List.mem_append_left _ (hlz.subset hpl))))
    have llen : lot.length < 1000 := by
      rw [hlz.length_eq]
      omega
    refine ds_if (M := fun ρ => ∃ (ss : List Stg) (ls : List Nat) (Z4 Z5 Z6 : Sl), (withinStg ss ++ ls).Perm (List.range y.length) ∧ (ss.map (·.1)).Sublist (menuS.take (t + 1)) ∧ (∀ q ∈ ss, OkStgLot y.length q.2) ∧ ρ = [.v aPool, .v (aLst (y.map (aPart K))), .own (ls.map fun k : Nat => aInt (k : Int)), .own (ss.map (aStg K)), Z4, Z5, Z6, .no]) (dt_neEmptyL hr (De.imp (d_v 6 (P := aLotH lot)) lotH_lot)) (fun e => ?_) (fun e => ?_) fun ρ' m => ds_nil m
    · have hne : lot ≠ [] := by simpa using e
      have ht : t < 3 := by omega
      have hmt : menuS[t]? = some (menuS[t]'ht) := List.getElem?_eq_getElem ht
      have mm : menuS.map aStr = [aStr "m", aStr "n", aStr "o"] := rfl
      refine ds_app (P := aStg K (menuS[t]'ht, lot)) 3 rfl (d_tup (da2 (d_ixL (P := aStr (menuS[t]'ht)) t (De.as (P := aLst [aStr "m", aStr "n", aStr "o"]) (d_lst (da_cons d_str (da2 d_str d_str))) (by rw [← mm])) (d_v 4) (by rw [List.getElem?_map, hmt]; rfl)) (d_v 6))) (ds_nil ⟨ss ++ [(menuS[t]'ht, lot)], ys, .v (aInt (t : Int)), .v (aInt (k : Int)), .v (aLotH lot), ?_, ?_, fun q hq => ?_, ?_⟩) ?_
      · unfold withinStg at hall ⊢
        rw [List.flatMap_append, List.flatMap_cons, List.flatMap_nil, List.append_nil, List.append_assoc]
        exact (List.Perm.append_left _ (List.Perm.append_right _ hlz)).trans hall
      · rw [List.map_append, take_more hmt]
        exact List.Sublist.append hs (List.Sublist.refl _)
      · rcases List.mem_append.mp hq with h | h
        · exact hl q h
        · rw [List.mem_singleton.mp h]
          exact ⟨⟨by omega, llt, lup, llen⟩, hne⟩
      · rw [List.map_append]
        rfl
      · rw [List.length_map]
        have := hs.length_le
        rw [List.length_map, List.length_take] at this
        omega
    · have hemp : lot = [] := by simpa using e
      have hzs : zs = [] := List.eq_nil_of_length_eq_zero (by rw [← hlz.length_eq, hemp]; rfl)
      subst hzs
      exact ds_nil ⟨ss, ys, .v (aInt (t : Int)), .v (aInt (k : Int)), .v (aLotH lot), hall, hs.trans (List.take_sublist_take_left (by omega)), hl, rfl⟩
  · subst e
    have hz' : z < 4 := hz
    have nd := hp.nodup_iff.mpr List.nodup_range
    refine ds_ret (d_v 3) fun h => ⟨ss, ⟨hs.trans (List.take_sublist _ _), hl, (List.nodup_append.mp nd).1, fun p hm => List.mem_range.mp (hp.subset (List.mem_append_left _ hm))⟩, h⟩
end
end Lb
set_option Elab.async false
set_option linter.all false
set_option maxRecDepth 100000
set_option maxHeartbeats 4000000
namespace Da
open PySem PySem.Spec PyProof.Rows L2
section
variable {X : Cx} {ρ : Rho} {pos : Pos} {elt tg it : Expr} {ifs : List Expr} {scope : Scope} {α : Type} {P : α → As} {is : List Nat} {Ps : α → List As} {b : α → Bool} {F : α → As}
theorem lc_readX {β : Type} {cz : β → Prop} {xs : β → List α} (own : List (Str × Nat)) (hi : DiX X tg it ρ cz xs P) (hg : InBlk X scope fun Y => ∀ z, cz z → ∀ x ∈ xs z, Dg Y tg (P x) is (Ps x))
    (ht : InBlk X scope fun Y => ∀ z, cz z → ∀ x ∈ xs z, DtS Y ifs (setRho (wipeR ρ (own.map (·.2))) is (Ps x)) (b x)) (he : InBlk X scope fun Y => ∀ z, cz z → ∀ x ∈ xs z, b x = true → De Y elt (setRho (wipeR ρ (own.map (·.2))) is (Ps x)) (F x))
    (hz : ∀ z, cz z → (xs z).length < 1000000) (hw : ∀ i ∈ is, i ∈ own.map (·.2)) {pl : Option Addr} {σ : L2.St} {H Hc : Hp} (g : Gd pl H Hc) (ev : EnvOk pl Hc σ ρ) {Q : VK} (q : ∀ z, cz z → OutN pl H Hc (((xs z).filter b).map F) Q) : tLc (tI X tg it) (gB X scope tg) (tB' X scope ifs) (eB X scope elt) (own.map (·.2)) σ H Q := by
  refine hi pl σ H Hc g ev _ fun J H1 Hc1 zz hzz s1 y D hD => ?_
  have hz := hz zz hzz
  have q := q zz hzz
  generalize exs : xs zz = xs' at y hz q
  have hp := not_pool s1.gd hD
  refine ⟨fun i m H' => m = xs'.length - i ∧ i ≤ xs'.length ∧ Grow pl H1 Hc1 D (((xs'.take i).filter b).map F) H', ⟨xs'.length, by simp, Nat.zero_le _, Grow.start s1.gd hD⟩, ?_⟩
  rintro i m H' ⟨rfl, hle, Hc', acc, s2, hacc, hcD, f⟩
  obtain ⟨y1, y2⟩ := y i H' Hc' s2.cl s2.gd
  have hlen : acc.length ≤ i := by
    rw [f.len, List.length_map]
    exact Nat.le_trans (List.length_filter_le _ _) (by rw [List.length_take]; omega)
  by_cases hlt : i < xs'.length
  · have hx : xs'[i]? = some xs'[i] := by simp [hlt]
    have hm : xs'[i] ∈ xs' := List.getElem_mem hlt
    obtain ⟨go, yl⟩ := y1 (P xs'[i]) (by rw [List.getElem?_map, hx]; rfl)
    refine .inr ⟨go, Grow pl H1 Hc1 D (((xs'.take (i + 1)).filter b).map F), fun H2 n2 => ⟨xs'.length - (i + 1), by omega, rfl, hlt, n2⟩, fun v H3 hv => ?_⟩
    obtain ⟨Hc3, s3, pv⟩ := yl v H3 hv
    intro a1 a2 a3 a4 a5
    refine hg a1 a2 a3 a4 a5 zz hzz _ (by rw [exs]; exact hm) pl _ H3 Hc3 v s3.gd pv _ fun vs f3 l3 => ⟨(wipe_setAll hw).trans wipe_wipe, ?_⟩
    have ev3 : EnvOk pl Hc3 (setAll (wipe σ (own.map (·.2))) is vs) (setRho (wipeR ρ (own.map (·.2))) is (Ps xs'[i])) := EnvOk.setAll ((ev.mono ((s1.cl.trans s2.cl).trans s3.cl)).wipe _) f3 l3
    intro b1 b2 b3 b4 b5
    refine ht b1 b2 b3 b4 b5 zz hzz _ (by rw [exs]; exact hm) pl _ H3 Hc3 s3.gd ev3 _ fun H4 Hc4 s4 => ?_
    cases hb : b xs'[i] with
    | false =>
      refine iteF ?_
      rw [take_more hx, List.filter_append, List.filter_cons, if_neg (by rw [hb]; decide), List.filter_nil, List.append_nil]
      exact Grow.same hp s2 hacc hcD f (s3.trans s4)
    | true =>
      refine iteT ?_
      intro c1 c2 c3 c4 c5
      refine he c1 c2 c3 c4 c5 zz hzz _ (by rw [exs]; exact hm) hb pl _ H4 Hc4 s4.gd (ev3.mono s4.cl) _ fun v5 H5 Hc5 s5 hv5 => ?_
      obtain ⟨k1, k2⟩ := Grow.more hD hp s2 hacc hcD f ((s3.trans s4).trans s5) hv5
      refine ⟨acc, k1, small_of (by omega), ?_⟩
      rw [take_more hx, List.filter_append, List.map_append, List.filter_cons, if_pos hb]
      exact k2
  · have e : i = xs'.length := by omega
    subst e
    refine .inl ⟨y2 (by rw [List.length_map]; exact Nat.le_refl _) (by rw [List.length_map]), ?_⟩
    rw [List.take_length] at f
    exact q D acc H' Hc' (s1.trans s2) hacc hcD hp (by
      cases e : H D with
      | none => rfl
      | some o =>
        rw [s1.keep D o hp e] at hD
        cases hD) f
/-- [e for target in it], the number of turns drawn -/
theorem d_mapX {β : Type} {cz : β → Prop} {xs : β → List α} (own : List (Str × Nat)) (hN : X.N.Nodup) (ok : BlkOk X.N X.env.scope scope own) (hi : DiX X tg it ρ cz xs P) (hg : InBlk X scope fun Y => ∀ z, cz z → ∀ x ∈ xs z, Dg Y tg (P x) is (Ps x))
    (he : InBlk X scope fun Y => ∀ z, cz z → ∀ x ∈ xs z, De Y elt (inR ρ own is (Ps x)) (F x)) (hz : ∀ z, cz z → (xs z).length < 1000000) (hc : X.calm = true := by rfl) (hw : ∀ i ∈ is, i ∈ own.map (·.2) := by decide) (hs : ∀ x, foldedSetIterable it X.env x = pure x := by intro _; rfl) :
    De X (.ListComp elt [⟨tg, it, [], 0⟩] scope pos) ρ (aEx cz fun z => aLst ((xs z).map F)) := fun pl σ H Hc g ev Q q =>
  tE_of (pe_lc hc hN pi_can ok pg_B pts_B pe_B hs) (lc_readX (b := fun _ => true) own hi hg (fun _ _ _ _ _ _ _ _ _ => dts_nil) (fun a1 a2 a3 a4 a5 z hz x hx _ => he a1 a2 a3 a4 a5 z hz x hx) hz hw g ev fun z hzz => by
    have e : (xs z).filter (fun _ => true) = xs z := List.filter_eq_self.mpr fun _ _ => rfl
    rw [e]
    exact Out.ofN fun v H' Hc' s h => q v H' Hc' s ⟨z, hzz, h⟩)
theorem fits_ex {β : Type} {c : β → Prop} {F : β → As} {pl : Option Addr} {H : Hp} : ∀ {n : Nat} {vs : List V} {Ps : List As}, Ps.length = n → (∀ P ∈ Ps, P = aEx c F) → Fits pl H vs Ps → ∃ zs : List β, zs.length = n ∧ (∀ z ∈ zs, c z) ∧ Fits pl H vs (zs.map F)
  | _, _, [], e, _, .nil => ⟨[], e, (fun _ h => nomatch h), .nil⟩
  | 0, _, _ :: _, e, _, _ => nomatch e
  | n + 1, _, P :: Ps, e, h, .cons h1 t => by
    obtain ⟨zs, k1, k2, k3⟩ := fits_ex (n := n) (Nat.succ.inj e) (fun Q hQ => h Q (List.mem_cons_of_mem _ hQ)) t
    rw [h P (List.mem_cons_self ..)] at h1
    obtain ⟨z, hz, h2⟩ := h1
    exact ⟨z :: zs, by rw [List.length_cons, k1], fun y hy => by
      rcases List.mem_cons.mp hy with rfl | hy
      · exact hz
      · exact k2 y hy, .cons h2 k3⟩
theorem lst_ex {β α : Type} {c : β → Prop} {F : β → As} {xs : List α} : Imp (aLst (xs.map fun _ => aEx c F)) (aEx (fun zs : List β => zs.length = xs.length ∧ ∀ z ∈ zs, c z) fun zs => aLst (zs.map F)) := fun ⟨a, vs, h1, h2, h3⟩ => by
  obtain ⟨zs, k1, k2, k3⟩ := fits_ex (n := xs.length) (by rw [List.length_map]) (fun P hP => by obtain ⟨_, _, rfl⟩ := List.mem_map.mp hP; rfl) h3
  exact ⟨zs, ⟨k1, k2⟩, a, vs, h1, h2, k3⟩
theorem dix_rangeK {e : Expr} {m lo : Nat} {p : Pos} (hm : X.mg "range" = none) (h : De X e ρ (aEx (fun k : Nat => lo ≤ k ∧ k < m) fun k => aInt (k : Int))) (hz : m < 1000000) (hg : Gl X "range" := by rfl) (hs : starEach [e] X.env = [(false, eval e X.env)] := by rfl) : DiX X tg (.Call (.Name "range" p) [e] [] pos) ρ (fun k : Nat => lo ≤ k ∧ k < m) List.range fun k => aInt (k : Int) := fun pl σ H Hc g ev R q =>
  tI_of (pi_range1 hg hm (pa_cons pe_can pa_nil hs) hs) (h pl σ H Hc g ev _ fun v H1 Hc1 s1 ⟨n, hn, hv⟩ => ⟨(n : Int), by rw [show v = V.int (n : Int) from hv], by omega, by omega, q _ H1 Hc1 n hn s1 fun i H2 Hc2 sm g2 => by
    rw [Int.toNat_natCast]
    refine ⟨fun Pi hi => ?_, fun h1 h2 => by rw [List.length_map, List.length_range] at h1; exact h1⟩
    have hlt : i < n := by
      have := (List.getElem?_eq_some_iff.mp hi).1
      rw [List.length_map, List.length_range] at this
      exact this
    rw [List.getElem?_map, List.getElem?_range hlt] at hi
    cases hi
    refine ⟨hlt, fun y H3 ⟨z1, z2⟩ => ⟨Hc2, by rw [z1]; exact Stp.refl g2, ?_⟩⟩
    rw [z2]
    show V.int (0 + (i : Int)) = V.int (i : Int)
    rw [Int.zero_add]⟩)
end
end Da
set_option Elab.async false
set_option linter.all false
set_option maxRecDepth 100000
set_option maxHeartbeats 4000000
namespace Da
open PySem PySem.Spec PyProof.Rows L2 Lb
theorem lex_code {B : Int} : ∀ {q r : List Int}, q.length = r.length → TS.Bd B q → TS.Bd B r → TS.code B q ≤ TS.code B r → q ≠ r → HT.lexLt q r = true
  | [], [], _, _, _, _, h => absurd rfl h
  | [], _ :: _, h, _, _, _, _ => nomatch h
  | _ :: _, [], h, _, _, _, _ => nomatch h
  | a :: q, b :: r, hl, h1, h2, hc, hne => by
    have hl' : q.length = r.length := by simpa using hl
    rw [HT.lexLt_cons]
    by_cases e : a = b
    · subst e
      rw [if_pos rfl]
      refine lex_code hl' h1.tail h2.tail ?_ fun e => hne (by rw [e])
      refine Int.not_lt.mp fun hlt => ?_
      have := (TS.code_same (d := a) (B := B) hl'.symm).mpr hlt
      omega
    · rw [if_neg e]
      refine decide_eq_true (Int.not_le.mp fun hle => ?_)
      have := TS.code_lt (d := b) (e := a) hl'.symm h2.tail h1.tail (by omega)
      omega
/-- rows strictly in order -/
structure RowsUp (n : Nat) (rs : List (List Int)) : Prop where
  few : rs.length < 64
  each : ∀ r ∈ rs, r.length = n ∧ ∀ v ∈ r, 0 ≤ v ∧ v ≤ 3
  up : rs.Pairwise fun a b => HT.lexLt a b = true
section
variable {X : Cx} {ρ : Rho} {pos p sp p2 : Pos} {e : Expr} {Ps : List As} {n k : Nat}
abbrev aRw (K : PySem.W.Frag) (n : Nat) : As := aEx (fun r : List Int => r.length = n ∧ ∀ v ∈ r, 0 ≤ v ∧ v ≤ 3) (aRow K)
theorem fits_rows {K : PySem.W.Frag} {pl : Option Addr} {H : Hp} : ∀ {vs : List V} {rs : List (List Int)}, Fits pl H vs (rs.map (aRow K)) → ∃ ks : List (Addr × List Int), vs = ks.map (fun p => V.ref p.1) ∧ ks.map (·.2) = rs ∧ ∀ p ∈ ks, SqT K H p.1 (p.2.map V.int)
  | _, [], .nil => ⟨[], rfl, rfl, fun _ h => nomatch h⟩
  | _, r :: rs, .cons ⟨a, us, h1, h2, h3⟩ t => by
    obtain ⟨ks, k1, k2, k3⟩ := fits_rows t
    have e : us = r.map V.int := fits_map (f := V.int) h3
    refine ⟨(a, r) :: ks, by rw [h1, k1]; rfl, by rw [List.map_cons, k2], fun p hp => ?_⟩
    rcases List.mem_cons.mp hp with rfl | hp
    · rw [← e]
      exact h2
    · exact k3 p hp
theorem rows_fits {K : PySem.W.Frag} {pl : Option Addr} {H : Hp} : ∀ {ks : List (Addr × List Int)}, (∀ p ∈ ks, SqT K H p.1 (p.2.map V.int)) → Fits pl H (ks.map fun p => V.ref p.1) ((ks.map (·.2)).map (aRow K))
  | [], _ => .nil
  | p :: ks, h => .cons ⟨p.1, p.2.map V.int, rfl, h p (List.mem_cons_self ..), fits_of (f := V.int) p.2⟩ (rows_fits fun q hq => h q (List.mem_cons_of_mem _ hq))
/-- sorted(set(xs)), rows -/
theorem d_sortSet (hc : X.calm = true) (hr : Room k X.A) (hm : X.mg "sorted" = none) (hm2 : X.mg "set" = none) (hn : 1 ≤ n) (h : De X e ρ (aLst Ps)) (hP : ∀ P ∈ Ps, P = aRw X.K n) (hz : Ps.length < 64) (hg : Gl X "sorted" := by rfl) (hg2 : Gl X "set" := by rfl) (he : starEach (e :: []) X.env = (false, eval e X.env) :: starEach [] X.env := by rfl)
    (he2 : starEach (.Call (.Name "set" p2) [e] [] sp :: []) X.env = (false, eval (.Call (.Name "set" p2) [e] [] sp) X.env) :: starEach [] X.env := by rfl) :
    De X (.Call (.Name "sorted" p) [.Call (.Name "set" p2) [e] [] sp] [] pos) ρ (aEx (RowsUp n) fun rs => aLst (rs.map (aRow X.K))) := fun pl σ H Hc g ev Q q => by
  refine tE_of (pe_callB (cr_sortedT hc) hg hm (by decide +kernel) (pa_cons (pe_callTy (cr_setOfT hc (by have := hr.un; omega)) hg2 hm2 (by decide +kernel) (pa_cons pe_can pa_nil he) (by decide) (by decide) he rfl) pa_nil he2) (by decide) (by decide) he2 rfl) ?_
  refine h pl σ H Hc g ev _ fun v H1 Hc1 s1 ⟨a, vs, e1, e2, f⟩ => ?_
  obtain ⟨rs, r1, r2, r3⟩ := fits_ex (n := Ps.length) rfl hP f
  obtain ⟨ks, k1, k2, k3⟩ := fits_rows r3
  subst k1
  have kl : ks.length < 64 := by
    have := congrArg List.length k2
    rw [List.length_map] at this
    omega
  refine ⟨a, ks, by rw [e1], SqL.of (s1.gd.sub _ _ e2), fun p hp => same_t s1.gd.sub (k3 p hp), kl, fun b L hb hL hL2 => ?_⟩
  have s2 := Stp.apart s1.gd hb (SetTO X.prog X.w b L)
  have good : ∀ p ∈ L, p.2.length = n ∧ ∀ v ∈ p.2, 0 ≤ v ∧ v ≤ 3 := fun p hp => r2 p.2 (by rw [← k2]; exact List.mem_map.mpr ⟨p, hL p hp, rfl⟩)
  have bd : ∀ p ∈ L, TS.Bd 4 p.2 := fun p hp v hv => by
    have := (good p hp).2 v hv
    omega
  refine ⟨b, L, n, 4, rfl, upd_same, fun p hp => same_t s2.sub (k3 p (hL p hp)), hn, fun p hp => ⟨(good p hp).1, bd p hp⟩, fun L' d hperm hnd hl hs hd => ?_⟩
  have s12 := s1.trans s2
  refine (q.step s12).new s12.gd hd ⟨L'.map (·.2), ⟨by rw [List.length_map]; exact hl, fun r hr => ?_, ?_⟩, d, _, rfl, upd_same, ?_⟩
  · obtain ⟨p, hp, rfl⟩ := List.mem_map.mp hr
    exact good p (hperm.subset hp)
  · have hnd' := List.pairwise_map.mp hnd
    rw [List.pairwise_map]
    have hall : L'.Pairwise fun a b => TS.code 4 a.2 ≤ TS.code 4 b.2 ∧ a.2 ≠ b.2 := hs.and hnd'
    refine List.Pairwise.imp_of_mem (fun {a b} ha hb h => ?_) hall
    have ga := good a (hperm.subset ha)
    have gb := good b (hperm.subset hb)
    exact lex_code (by rw [ga.1, gb.1]) (bd a (hperm.subset ha)) (bd b (hperm.subset hb)) h.1 h.2
  · exact rows_fits fun p hp => same_t ((s2.cl.trans (same_new (clean_none s12.gd hd)))) (k3 p (hL p (hperm.subset hp)))
end
end Da
set_option Elab.async false
set_option linter.all false
set_option maxRecDepth 100000
set_option maxHeartbeats 4000000
namespace Da
open PySem PySem.Spec PyProof.Rows L2
theorem d_tupleEx {X : Cx} {ρ : Rho} {pos p : Pos} {e : Expr} {β : Type} {c : β → Prop} {G : β → List As} (hm : X.mg "tuple" = none) (h : De X e ρ (aEx c fun z => aLst (G z))) (hs : starEach (e :: []) X.env = (false, eval e X.env) :: starEach [] X.env := by rfl) (hg : Gl X "tuple" := by rfl) : De X (.Call (.Name "tuple" p) [e] [] pos) ρ (aEx c fun z => aTup X.K (G z)) :=
  d_ct call_tuple_of (fun pl H Hc vs g f Q q => by
    obtain ⟨v, e1, z, hz, a, ws, h1, h2, f2⟩ := one f
    subst e1 h1
    exact ⟨a, ws, rfl, .inl ⟨SqL.of (g.sub _ _ h2), fun l hl => q.new g hl ⟨z, hz, l, ws, rfl, SqT.of upd_same, f2.mono (same_new (clean_none g hl))⟩⟩⟩) hm (da1 h hs) (by decide +kernel) hg (by decide) (by decide) hs rfl
end Da
namespace Lb
open PySem PySem.Spec PyProof.Rows L2 Da PySem.W
theorem zip_up {α : Type} {f : α → α → Bool} : ∀ {l : List α}, l.Pairwise (fun a b => f a b = true) → ((l.zip (l.drop 1)).all fun q => f q.1 q.2) = true
  | [], _ => rfl
  | [_], _ => rfl
  | a :: b :: l, h => by
    obtain ⟨h1, h2⟩ := List.pairwise_cons.mp h
    have ih := zip_up (l := b :: l) h2
    show (f a b && (((b :: l).zip ((b :: l).drop 1)).all fun q => f q.1 q.2)) = true
    rw [ih, h1 b (List.mem_cons_self ..)]
    rfl
structure OkDr (names : List Str) (t : Tie) : Prop where
  ok : OkTie names t
  nc : nice t
section
variable {P : Program} {w : World} {K : PySem.W.Frag} {mg : Str → Option Value} {base : Heap}
theorem scLawRowsTie : FnScope ["_law_pool_here", "_law_names", "_law_some", "_law_lines", "_law_turn", "_law_name"] ["_law_pool_here", "_law_names"] (defScope sLawRowsTie) := ⟨rfl, rfl, rfl, by decide +kernel, rfl, by decide +kernel, by decide +kernel⟩
theorem _law_rows_tie_ok (T : Txt w K mg) : Fok P w K mg base 3 "_law_rows_tie" ["_law_pool_here", "_law_names"] (spF (α := List Str) (fun ns => 1 ≤ ns.length ∧ ns.length ≤ 8 ∧ ns.Nodup) (fun ns => [aPool, aLst (ns.map aStr)]) (fun ns => aEx (fun q : List Str × List (List Int) => OkRows ns q.1 q.2) fun q => aTie K (.rows q.1 q.2))) := by
  refine fok_of T.f_LawRowsTie T.g__law_rows_tie scLawRowsTie (fun _ => rfl) (fun _ F => F.bindsN fun _ _ _ _ _ _ us hl => match us, hl with | [_, _], _ => rfl) fun y hy cdv A outer s H E hr => ?_
  have hN := scLawRowsTie.nd
  obtain ⟨y1, y8, ynd⟩ := hy
  have m3 : 0 < min 3 y.length ∧ min 3 y.length < 1000000 := by omega
  have em3 : aInt (min (3 : Int) ((y.map aStr).length : Int)) = aInt ((min 3 y.length : Nat) : Int) := by
    rw [List.length_map]
    congr 2
    omega
  refine ds_setEx (c := fun zs => ∃ n, 1 ≤ n ∧ n < 1 + min 3 y.length ∧ Picked y n zs) (F := fun zs => aLst (zs.map aStr)) 2 hN (De.imp (d_clx (c := fun k : Nat => 1 ≤ k ∧ k < 1 + min 3 y.length) (_law_picked_ok T) hr (fun k : Nat => (y, k)) (fun k hk => ⟨(by show y.length < 1000; omega), ynd, by show k < 1000; have := hk.2; omega⟩) (dax_cons (P := aPool) (d_v 0) (dax_cons (P := aLst (y.map aStr)) (d_v 1) (dax_one (d_addK (m := 1) (n := min 3 y.length) d_int (d_cl (_law_take_ok T) hr (min 3 y.length) m3 (da2 (d_v 0) (De.as (d_min2 rfl T.b_min d_int (d_lenL (Ps := y.map aStr) T.b_len (d_v 1))) em3)))) da_nil)))) fun ⟨k, hk, zs, hz, h⟩ => ⟨zs, ⟨k, hk.1, hk.2, hz⟩, h⟩) fun zs ⟨n, n1, n2, hz⟩ => ?_
  have zin := hz.inn
  have znd := hz.nd
  have zl : 1 ≤ zs.length ∧ zs.length ≤ 8 := by
    rw [hz.len]
    omega
  refine ds_setOwn 3 hN (dn_lst da_nil) ?_
  refine ds_forX (α := Nat) (Pt := fun k : Nat => aInt (k : Int)) (is := [4]) (Ts := fun k : Nat => [aInt (k : Int)]) (fun _ i ρ => ∃ (Ps : List As) (Z4 : Sl), Ps.length = i ∧ (∀ P ∈ Ps, P = aRw K zs.length) ∧ ρ = [.v aPool, .v (aLst (y.map aStr)), .v (aLst (zs.map aStr)), .own Ps, Z4, .no]) (fun _ _ h => False.elim h) rfl (dix_range T.b_range (d_cl (_law_take_ok T) hr 6 ⟨by decide, by decide⟩ (da2 (d_v 0) d_int)) (by decide)) (fun _ _ => ⟨[], .no, rfl, (fun _ h => nomatch h), rfl⟩) (fun _ _ n _ => dg_name 4 hN) (fun z hz i t hti ρ' ⟨Ps, Z4, hl, hP, e⟩ => ?_) (fun z hz ρ' ⟨Ps, Z4, hl, hP, e⟩ => ?_) (fun _ _ _ _ => rfl)
  · subst e
    have hz' : z < 6 := hz
    have hiz : i < z := by
      have := (List.getElem?_eq_some_iff.mp hti).1
      rw [List.length_range] at this
      exact this
    refine ds_app (P := aRw K zs.length) 3 rfl (De.imp (d_tupleL T.b_tuple (d_map (xs := zs) (P := aStr) (Ps := fun z => [aStr z]) (F := fun _ => aEx (fun v : Int => 0 ≤ v ∧ v ≤ 3) aInt) [("_law_name", 5)] hN (blkOk_by (by kernel_rfl)) (di_list (d_v 2)) (fun _ _ _ _ _ c _ => dg_name 5 hN) (fun _ _ _ _ _ c _ => De.imp (d_ixLx (c := fun k : Nat => k < 5) (n := fun k => k) (R := fun k => aInt (([0, 1, 1, 2, 3] : List Int)[k]?.getD 0)) (d_lst (Ps := ([0, 1, 1, 2, 3] : List Int).map aInt) (da_cons d_int (da_cons d_int (da_cons d_int (da2 d_int d_int))))) (d_cl (_law_take_ok T) hr 5 ⟨by decide, by decide⟩ (da2 (d_v 0) d_int)) (fun k hk => ?_)) ?_) (by omega))) ?_) (ds_nil ⟨Ps ++ [aRw K zs.length], .v (aInt (t : Int)), by rw [List.length_append, hl]; rfl, fun Q hQ => ?_, rfl⟩) (by omega)
    · have hk' : k < 5 := hk
      match k, hk' with
      | 0, _ => rfl
      | 1, _ => rfl
      | 2, _ => rfl
      | 3, _ => rfl
      | 4, _ => rfl
    · exact fun ⟨k, hk, h⟩ => ⟨_, by
        match k, (show k < 5 from hk) with
        | 0, _ => decide
        | 1, _ => decide
        | 2, _ => decide
        | 3, _ => decide
        | 4, _ => decide, h⟩
    · exact fun ⟨a, vs, h1, h2, h3⟩ => by
        obtain ⟨r, k1, k2, k3⟩ := fits_ex (n := zs.length) (by rw [List.length_map]) (fun P hP => by obtain ⟨_, _, rfl⟩ := List.mem_map.mp hP; rfl) h3
        exact ⟨r, ⟨k1, k2⟩, a, vs, h1, h2, k3⟩
    · rcases List.mem_append.mp hQ with h | h
      · exact hP Q h
      · exact List.mem_singleton.mp h
  · subst e
    have hz' : z < 6 := hz
    rw [List.length_range] at hl
    refine ds_ret (d_tup (Ps := [aStr "rows", aTup K (zs.map aStr), aEx (RowsUp zs.length) fun rs => aTup K (rs.map (aRow K))]) (da_cons d_str (da2 (d_tupleL T.b_tuple (d_v 2)) (d_tupleEx T.b_tuple (d_sortSet rfl hr T.b_sorted T.b_set zl.1 (d_v 3) hP (by omega)))))) fun ⟨a, vs, h1, h2, h3⟩ => ?_
    cases h3 with
    | cons k1 h3 => cases h3 with
      | cons k2 h3 => cases h3 with
        | cons k3 h3 => cases h3 with
          | nil =>
            obtain ⟨rs, hrs, k3⟩ := k3
            exact ⟨(zs, rs), ⟨⟨zl.1, zl.2, zin, znd⟩, by show rs.length < 100000; have := hrs.few; omega, fun r hr => (hrs.each r hr).1, fun r hr => (hrs.each r hr).2, zip_up hrs.up⟩, a, _, h1, h2, .cons k1 (.cons k2 (.cons k3 .nil))⟩
end
end Lb
set_option Elab.async false
set_option linter.all false
set_option maxRecDepth 100000
set_option maxHeartbeats 4000000
namespace Lb
open PySem PySem.Spec PyProof.Rows L2 Da PySem.W
/-- a drawn tie over names, but for its shape -/
theorem tup_ex3 {K : PySem.W.Frag} {P1 P2 : As} {β : Type} {c : β → Prop} {F : β → As} : Imp (aTup K [P1, P2, aEx c F]) (aEx c fun z => aTup K [P1, P2, F z]) := fun ⟨a, vs, h1, h2, h3⟩ => by
  cases h3 with
  | cons k1 h3 => cases h3 with
    | cons k2 h3 => cases h3 with
      | cons k3 h3 => cases h3 with
        | nil =>
          obtain ⟨z, hz, k3⟩ := k3
          exact ⟨z, hz, a, _, h1, h2, .cons k1 (.cons k2 (.cons k3 .nil))⟩
section
variable {P : Program} {w : World} {K : PySem.W.Frag} {mg : Str → Option Value} {base : Heap}
theorem scLawTie : FnScope ["_law_pool_here", "_law_wired_here", "_law_names", "_law_name", "_law_many", "_law_out", "_law_one", "_law_two", "_law_way", "_law_some"] ["_law_pool_here", "_law_wired_here"] (defScope sLawTie) := ⟨rfl, rfl, rfl, by decide +kernel, rfl, by decide +kernel, by decide +kernel⟩
theorem _law_tie_ok (T : Txt w K mg) : Fok P w K mg base 4 "_law_tie" ["_law_pool_here", "_law_wired_here"] (spF (α := List (Str × Nat)) (OkWires) (fun ws => [aPool, aLst (ws.map (aWire K))]) (fun ws => aEx (OkTie (ws.map (·.1))) fun t => aTie K t)) := by
  refine fok_of T.f_LawTie T.g__law_tie scLawTie (fun _ => rfl) (fun _ F => F.bindsN fun _ _ _ _ _ _ us hl => match us, hl with | [_, _], _ => rfl) fun y hy cdv A outer s H E hr => ?_
  have hN := scLawTie.nd
  have h8 : y.length ≤ 8 := hy.hi
  have h1 : 1 ≤ y.length := hy.lo
  have hdraw : ∀ k : Nat, k < y.length → ((y.map (·.1)).map aStr)[k]? = some (aStr ((y.map (·.1))[k]?.getD (.ofString ""))) := fun k hk => by
    rw [List.getElem?_map, List.getElem?_eq_getElem (by rw [List.length_map]; exact hk)]
    rfl
  have hmem : ∀ k : Nat, k < y.length → (y.map (·.1))[k]?.getD (.ofString "") ∈ y.map (·.1) := fun k hk => by
    rw [List.getElem?_eq_getElem (by rw [List.length_map]; exact hk)]
    exact List.getElem_mem _
  have elen : aInt ((((y.map (·.1)).map aStr).length : Nat) : Int) = aInt (y.length : Int) := by rw [List.length_map, List.length_map]
  have hpos : 0 < y.length ∧ y.length < 1000000 := by omega
  refine ds_setMap 2 (xs := y) (Pt := aWire K) (is := [3, 4]) (Ts := fun q => [aStr q.1, aInt (q.2 : Int)]) (F := fun q => aStr q.1) [("_law_name", 3), ("_law_many", 4)] hN (blkOk_by (by kernel_rfl)) (di_list (d_v 1)) (fun _ _ _ _ _ c _ => dg_two 3 4 rfl hN) (fun _ _ _ _ _ c _ => d_v 3) (by omega) ?_
  have em : (y.map fun q => aStr q.1) = (y.map (·.1)).map aStr := by rw [List.map_map]; rfl
  rw [em]
  refine ds_setEx (c := fun z => z ∈ y.map (·.1)) (F := aStr) 5 hN (De.imp (d_ixLx (c := fun k : Nat => k < y.length) (n := fun k => k) (R := fun k => aStr ((y.map (·.1))[k]?.getD (.ofString ""))) (d_v 2) (d_cl (_law_take_ok T) hr y.length hpos (da2 (d_v 0) (De.as (d_lenL T.b_len (d_v 2)) elen))) hdraw) fun ⟨k, hk, h⟩ => ⟨_, hmem k hk, h⟩) fun out hout => ?_
  refine ds_setEx (c := fun z => z ∈ y.map (·.1)) (F := aStr) 6 hN (De.imp (d_ixLx (c := fun k : Nat => k < y.length) (n := fun k => k) (R := fun k => aStr ((y.map (·.1))[k]?.getD (.ofString ""))) (d_v 2) (d_cl (_law_take_ok T) hr y.length hpos (da2 (d_v 0) (De.as (d_lenL T.b_len (d_v 2)) elen))) hdraw) fun ⟨k, hk, h⟩ => ⟨_, hmem k hk, h⟩) fun one hone => ?_
  refine ds_setEx (c := fun z => z ∈ y.map (·.1)) (F := aStr) 7 hN (De.imp (d_ixLx (c := fun k : Nat => k < y.length) (n := fun k => k) (R := fun k => aStr ((y.map (·.1))[k]?.getD (.ofString ""))) (d_v 2) (d_cl (_law_take_ok T) hr y.length hpos (da2 (d_v 0) (De.as (d_lenL T.b_len (d_v 2)) elen))) hdraw) fun ⟨k, hk, h⟩ => ⟨_, hmem k hk, h⟩) fun two htwo => ?_
  refine ds_setEx (c := fun k : Nat => k < 9) (F := fun k : Nat => aInt (k : Int)) 8 hN (d_cl (_law_take_ok T) hr 9 ⟨by decide, by decide⟩ (da2 (d_v 0) d_int)) fun way hway => ?_
  refine ds_ifR (b := decide (6 < (way : Int))) (dt_gt (d_v 8) d_int) (fun e => ?_) fun e => ?_
  · exact ds_ret (d_cl (_law_rows_tie_ok T) hr (y.map fun q : Str × Nat => q.1) ⟨by rw [List.length_map]; exact h1, by rw [List.length_map]; exact h8, hy.nd⟩ (da2 (d_v 0) (d_v 2))) fun ⟨q, hq, h⟩ => ⟨.rows q.1 q.2, hq, h⟩
  have w7 : way < 7 := by
    have := of_decide_eq_false e
    omega
  have hfix : Imp (aTup K [aStr "fixed", aStr out, aEx (fun v : Int => 0 ≤ v ∧ v ≤ 3) aInt]) (aEx (OkTie (y.map (·.1))) fun t => aTie K t) := fun h => by
    obtain ⟨v, hv, h⟩ := tup_ex3 h
    exact ⟨.fixed out v, ⟨hout, hv.1, hv.2⟩, h⟩
  have hop : ∀ (wd : Str) (ns : List Str), (wd, ns.length) ∈ ops → (∀ z ∈ ns, z ∈ y.map (·.1)) → Imp (aTup K (aStr wd :: ns.map aStr)) (aEx (OkTie (y.map (·.1))) fun t => aTie K t) := by
    intro wd ns h1 h2 pl H v h
    exact ⟨.op wd ns, ⟨h1, h2⟩, h⟩
  refine ds_set (P := aLst [aTup K [aStr "fixed", aStr out, aEx (fun v : Int => 0 ≤ v ∧ v ≤ 3) aInt], aTup K [aStr "same", aStr out, aStr one], aTup K [aStr "turned", aStr out, aStr one]]) 9 hN (d_lst (da_cons (d_tup (da_cons d_str (da2 (d_v 5) (De.imp (d_ixLx (c := fun k : Nat => k < 4) (n := fun k => k) (R := fun k => aInt (([0, 1, 1, 3] : List Int)[k]?.getD 0)) (d_lst (Ps := ([0, 1, 1, 3] : List Int).map aInt) (da_cons d_int (da_cons d_int (da2 d_int d_int)))) (d_cl (_law_take_ok T) hr 4 ⟨by decide, by decide⟩ (da2 (d_v 0) d_int)) (fun k hk => ?_)) ?_)))) (da2 (d_tup (da_cons d_str (da2 (d_v 5) (d_v 6)))) (d_tup (da_cons d_str (da2 (d_v 5) (d_v 6))))))) ?_
  · have hk' : k < 4 := hk
    match k, hk' with
    | 0, _ => rfl
    | 1, _ => rfl
    | 2, _ => rfl
    | 3, _ => rfl
  · exact fun ⟨k, hk, h⟩ => ⟨_, by
      match k, (show k < 4 from hk) with
      | 0, _ => decide
      | 1, _ => decide
      | 2, _ => decide
      | 3, _ => decide, h⟩
  refine ds_set 9 hN (dn_cat ?_ (d_v 9) (d_lst (da_cons (d_tup (da_cons d_str (da_cons (d_v 5) (da2 (d_v 6) (d_v 7))))) (da2 (d_tup (da_cons d_str (da_cons (d_v 5) (da2 (d_v 6) (d_v 7))))) (d_tup (da_cons d_str (da_cons (d_v 5) (da2 (d_v 6) (d_v 7))))))))).de ?_
  · show 6 < 1000000
    decide
  have hpick : Imp (aTup K [aStr "pick", aStr out, aEx (fun z => z ∈ y.map (·.1)) aStr, aStr one, aStr two]) (aEx (OkTie (y.map (·.1))) fun t => aTie K t) := by
    intro pl H v ⟨a, vs, h1, h2, h3⟩
    cases h3 with
    | cons k1 h3 => cases h3 with
      | cons k2 h3 => cases h3 with
        | cons k3 h3 =>
          obtain ⟨z, hz, k3⟩ := k3
          exact ⟨.op "pick" [out, z, one, two], ⟨(by show ((("pick" : Str), 4) : Str × Nat) ∈ ops; decide +kernel), fun x hx => by
            simp only [List.mem_cons, List.not_mem_nil, or_false] at hx
            rcases hx with rfl | rfl | rfl | rfl <;> assumption⟩, a, _, h1, h2, .cons k1 (.cons k2 (.cons k3 h3))⟩
  have m2 : ∀ z ∈ [out, one], z ∈ y.map (·.1) := fun x hx => by
    simp only [List.mem_cons, List.not_mem_nil, or_false] at hx
    rcases hx with rfl | rfl <;> assumption
  have m3 : ∀ z ∈ [out, one, two], z ∈ y.map (·.1) := fun x hx => by
    simp only [List.mem_cons, List.not_mem_nil, or_false] at hx
    rcases hx with rfl | rfl | rfl <;> assumption
  have hall : ∃ Q, ([aTup K [aStr "fixed", aStr out, aEx (fun v : Int => 0 ≤ v ∧ v ≤ 3) aInt], aTup K [aStr "same", aStr out, aStr one], aTup K [aStr "turned", aStr out, aStr one], aTup K [aStr "least", aStr out, aStr one, aStr two], aTup K [aStr "most", aStr out, aStr one, aStr two], aTup K [aStr "sum", aStr out, aStr one, aStr two], aTup K [aStr "pick", aStr out, aEx (fun z => z ∈ y.map (·.1)) aStr, aStr one, aStr two]] : List As)[way]? = some Q ∧ Imp Q (aEx (OkTie (y.map (·.1))) fun t => aTie K t) := by
    match way, w7 with
    | 0, _ => exact ⟨_, rfl, hfix⟩
    | 1, _ => exact ⟨_, rfl, hop "same" [out, one] (by show ((("same" : Str), 2) : Str × Nat) ∈ ops; decide +kernel) m2⟩
    | 2, _ => exact ⟨_, rfl, hop "turned" [out, one] (by show ((("turned" : Str), 2) : Str × Nat) ∈ ops; decide +kernel) m2⟩
    | 3, _ => exact ⟨_, rfl, hop "least" [out, one, two] (by show ((("least" : Str), 3) : Str × Nat) ∈ ops; decide +kernel) m3⟩
    | 4, _ => exact ⟨_, rfl, hop "most" [out, one, two] (by show ((("most" : Str), 3) : Str × Nat) ∈ ops; decide +kernel) m3⟩
    | 5, _ => exact ⟨_, rfl, hop "sum" [out, one, two] (by show ((("sum" : Str), 3) : Str × Nat) ∈ ops; decide +kernel) m3⟩
    | 6, _ => exact ⟨_, rfl, hpick⟩
  obtain ⟨Q, hQ, hI⟩ := hall
  refine ds_ret (d_ixL way (P := Q) (dn_cat ?_ (d_v 9) (d_lst (da1 (d_tup (da_cons d_str (da_cons (d_v 5) (da_cons (De.imp (R := aEx (fun z => z ∈ y.map (·.1)) aStr) (d_ixLx (c := fun k : Nat => k < y.length) (n := fun k => k) (R := fun k => aStr ((y.map (·.1))[k]?.getD (.ofString ""))) (d_v 2) (d_cl (_law_take_ok T) hr y.length hpos (da2 (d_v 0) (De.as (d_lenL T.b_len (d_v 2)) elen))) hdraw) fun ⟨k, hk, h⟩ => ⟨_, hmem k hk, h⟩) (da2 (d_v 6) (d_v 7))))))))).de (d_v 8) hQ) hI
  show 7 < 1000000
  decide
end
end Lb
set_option Elab.async false
set_option linter.all false
set_option maxRecDepth 100000
set_option maxHeartbeats 4000000
namespace Lb
open PySem PySem.Spec PyProof.Rows L2 Da PySem.W
theorem ops_str : ∀ q ∈ ops, PyData.strOk q.1 = true := by decide +kernel
theorem strs_layT {ns : List Str} (h : ∀ z ∈ ns, PyData.strOk z = true) : PyData.canLay0 (.tuple (ns.map .str)) = true ∧ PyData.depth (.tuple (ns.map .str)) = 1 := by
  have := strs_lays ns h
  refine ⟨by simp only [PyData.canLay0]; exact this.1, by simp only [PyData.depth, this.2]⟩
theorem nice_of {names : List Str} {t : Tie} (hn : ∀ z ∈ names, OkName z) (h : OkTie names t) : nice t := by
  cases t with
  | fixed o n =>
    have h1 := strOk_name (hn o h.1)
    refine shaped_of ?_ ?_
    · simp only [PyData.canLay0, tieD, PyData.canLayAll0, h1]
      decide +kernel
    · simp only [tieD, PyData.depth, PyData.depthAll]
      decide
  | op wd ns =>
    have h1 := ops_str _ h.1
    have h2 := strs_lays ns fun z hz => strOk_name (hn z (h.2 z hz))
    refine shaped_of ?_ ?_
    · simp only [PyData.canLay0, tieD, PyData.canLayAll0, h1, h2.1]
      decide
    · simp only [tieD, PyData.depth, PyData.depthAll, h2.2]
      decide
  | rows ws rs =>
    have h' : OkRows names ws rs := h
    have h2 := strs_layT fun z hz => strOk_name (hn z (h'.li.inn z hz))
    have h3 := rowDs_lays rs
    refine shaped_of ?_ ?_
    · simp only [PyData.canLay0] at h2
      simp only [PyData.canLay0, tieD, PyData.canLayAll0, h2.1, h3.1]
      decide +kernel
    · simp only [PyData.depth] at h2
      have h4 : PyData.depthAll (rs.map fun r => PyData.tuple (r.map PyData.int)) ≤ 1 := h3.2
      simp only [tieD, PyData.depth, PyData.depthAll, h2.2]
      omega
end Lb
set_option Elab.async false
set_option linter.all false
set_option maxRecDepth 100000
set_option maxHeartbeats 4000000
namespace Da
open PySem PySem.Spec PyProof.Rows L2
section
variable {X : Cx} {ρ : Slots} {N M : Slots → Prop} {R : As → Prop} {pos p' pos' : Pos} {e c : Expr} {P : As} {Ps : List As} {rest A B body : List Stmt} {st : Stmt}
theorem ds_appEx {β : Type} {cz : β → Prop} {F : β → As} (i : Nat) {x : Str} {pn apos cpos : Pos} (hi : ρ[i]? = some (.own Ps)) (he : De X e (exR ρ) (aEx cz F)) (k : ∀ z, cz z → Ds X rest (ρ.set i (.own (Ps ++ [F z]))) N R) (hz : Ps.length < 100000) (hN : X.N[i]? = some x := by rfl) (hv : Vis X.env.scope x := by first | exact Or.inl rfl | exact Or.inr (Or.inl rfl) | exact Or.inr (Or.inr rfl))
    (hd : (x == ("__debug__" : Str)) = false := by decide) (hcd : (x == ("__classdict__" : Str)) = false := by decide) (hb : attributeBase (.Name x pn) "append" X.env (eval (.Name x pn) X.env) = eval (.Name x pn) X.env := by rfl)
    (hfew : ((backTo cpos (starEach (e :: []) X.env)).all (fun x => !x.1) && (backToKw cpos (keywordEach [] X.env)).all (fun x => x.1.isSome)
      && decide ((e :: []).length + ([] : List Keyword).length + (if ([] : List Keyword).isEmpty then 0 else 1) < 30)) = true := by rfl)
    (hline : (apos.endLine == cpos.line) = true := by rfl) (hs : starEach (e :: []) X.env = (false, eval e X.env) :: starEach [] X.env := by rfl) (hplain : (backTo cpos (starEach [] X.env)).any (·.1) = false := by rfl)
    (hsw : swapsWith (.Call (.Attribute (.Name x pn) "append" apos) [e] [] cpos) none pos.line X.env = pure false := by rfl) : Ds X (.Expr (.Call (.Attribute (.Name x pn) "append" apos) [e] [] cpos) pos :: rest) ρ N R := fun pl H0 Hc0 σ H D ⟨Hc, s⟩ hn hr => by
  obtain ⟨q, vs, k1, k2, k3, k4, k5, k6⟩ := s.own i Ps hi
  refine tSs_of (pss_cons (ps_expr (pe_bm PySem.F.plainAttrs_list PySem.F.slot_list_append PySem.F.type_list_append mt_append (pe_var hN hv hd hcd) (pa_cons pe_can pa_nil hs) hb hfew hline hs hplain) hsw) pss_can) ⟨_, k1, .inl ⟨rfl, _, SqL.of k2⟩, ?_⟩
  refine he pl σ H Hc s.stp.gd s.env _ fun v H1 Hc1 t ⟨zz, hzz, hvv⟩ => ⟨q, vs, v, rfl, rfl, t.keep q _ k4 k2, small_of (by rw [k6.len]; omega), ?_⟩
  exact k zz hzz pl H0 Hc0 σ _ D ⟨Hc1, (s.step t).mut hi k1 ((k6.mono t.cl).app (.cons hvv .nil))⟩ hn hr
end
section
variable {X : Cx} {ρ : Rho} {tg l : Expr} {α β : Type} {c : β → Prop} {xs : β → List α} {P : α → As}
theorem dix_list (h : De X l ρ (aEx c fun z => aLst ((xs z).map P))) : DiX X tg l ρ c xs P := fun pl σ H Hc g ev R q => by
  refine tI_of (pi_list pe_can) (h pl σ H Hc g ev _ fun v H1 Hc1 s1 ⟨z, hz, a, vs, e1, e2, f⟩ => ⟨a, e1, ⟨vs, SqL.of (s1.gd.sub _ _ e2)⟩, q _ H1 Hc1 z hz s1 fun i H2 Hc2 sm g2 => ?_⟩)
  have sq : SqL X.K H2 a vs := SqL.of (g2.sub _ _ (sm _ _ e2))
  refine ⟨fun Pi hi => ?_, fun h1 h2 => ⟨vs, sq, by rw [f.len]; exact h1⟩⟩
  obtain ⟨x, hx, hp⟩ := f.get hi
  refine ⟨⟨vs, x, sq, hx⟩, fun y H3 ⟨z1, z2⟩ => ⟨Hc2, by rw [z1]; exact Stp.refl g2, ?_⟩⟩
  have e := z2 vs sq
  rw [hx] at e
  cases e
  exact Pi.mono sm hp
end
end Da
namespace Lb
open PySem PySem.Spec PyProof.Rows L2 Da PySem.W
def menuB : List Str := ["p", "q", "x", "part", "abcdef", "s", "t"]
theorem menuB_ok : ∀ z ∈ menuB, OkName z := fun z hz => okName_of ((List.all_eq_true (p := fun z : Str => (decide (1 ≤ z.length) && decide (z.length ≤ 6) && z.cps.toList.all fun c => decide (c ∈ letters)))).mp (by decide +kernel : menuB.all _ = true) z hz)
theorem menuB_nd : menuB.Nodup := by decide +kernel
theorem menuB_few : menuB.length < 1000 := by decide +kernel
/-- parts as they are drawn -/
structure Bound (names : List Str) (ps : List (Str × List Tie)) : Prop where
  five : ps.length ≤ 5
  nd : (ps.map (·.1)).Nodup
  inn : ∀ q ∈ ps, q.1 ∈ menuB
  ties : ∀ q ∈ ps, 1 ≤ q.2.length ∧ q.2.length ≤ 2 ∧ ∀ t ∈ q.2, OkTie names t
section
variable {P : Program} {w : World} {K : PySem.W.Frag} {mg : Str → Option Value} {base : Heap}
theorem scLawBound : FnScope ["_law_pool_here", "_law_wired_here", "_law_most", "_law_ties", "_law_found", "_law_name", "_law_turn"] ["_law_pool_here", "_law_wired_here", "_law_most", "_law_ties"] (defScope sLawBound) := ⟨rfl, rfl, rfl, by decide +kernel, rfl, by decide +kernel, by decide +kernel⟩
theorem _law_bound_ok (T : Txt w K mg) : Fok P w K mg base 5 "_law_bound" ["_law_pool_here", "_law_wired_here", "_law_most", "_law_ties"] (spF (α := List (Str × Nat)) (OkWires) (fun ws => [aPool, aLst (ws.map (aWire K)), aInt 5, aInt 2]) (fun ws => aEx (Bound (ws.map (·.1))) fun ps => aLst (ps.map (aPart K)))) := by
  refine fok_of T.f_LawBound T.g__law_bound scLawBound (fun _ => rfl) (fun _ F => F.bindsN fun _ _ _ _ _ _ us hl => match us, hl with | [_, _, _, _], _ => rfl) fun y hy cdv A outer s H E hr => ?_
  have hN := scLawBound.nd
  have em : aLst (menuB.map aStr) = aLst [aStr "p", aStr "q", aStr "x", aStr "part", aStr "abcdef", aStr "s", aStr "t"] := rfl
  refine ds_setOwn 4 hN (dn_lst da_nil) ?_
  refine ds_forX (α := Str) (Pt := aStr) (is := [5]) (Ts := fun z => [aStr z]) (cz := fun zs => zs.length ≤ 5 ∧ zs.Nodup ∧ ∀ z ∈ zs, z ∈ menuB) (xs := fun zs => zs) (fun zs i ρ => ∃ (ps : List (Str × List Tie)) (Z5 : Sl), ps.map (·.1) = zs.take i ∧ (∀ q ∈ ps, 1 ≤ q.2.length ∧ q.2.length ≤ 2 ∧ ∀ t ∈ q.2, OkTie (y.map (·.1)) t) ∧ ρ = [.v aPool, .v (aLst (y.map (aWire K))), .v (aInt 5), .v (aInt 2), .own (ps.map (aPart K)), Z5, .no]) (fun _ _ h => False.elim h) rfl (dix_list (De.imp (d_clx (c := fun k : Nat => k < 6) (_law_picked_ok T) hr (fun k : Nat => (menuB, k)) (fun k hk => ⟨menuB_few, menuB_nd, by show k < 1000; omega⟩) (dax_cons (P := aPool) (d_v 0) (dax_cons (P := aLst (menuB.map aStr)) (De.as (d_lst (da_cons d_str (da_cons d_str (da_cons d_str (da_cons d_str (da_cons d_str (da2 d_str d_str))))))) em.symm) (dax_one (d_cl (_law_take_ok T) hr 6 ⟨by decide, by decide⟩ (da2 (d_v 0) (De.as (d_add (i := 5) (j := 1) (d_v 2) d_int) rfl))) da_nil)))) fun ⟨k, hk, zs, hz, h⟩ => ⟨zs, ⟨by have := hz.len; have hk' : k < 6 := hk; show zs.length ≤ 5; omega, hz.nd, hz.inn⟩, h⟩))
    (fun zs _ => ⟨[], .no, rfl, (fun _ h => nomatch h), rfl⟩) (fun _ _ n _ => dg_name 5 hN) (fun zs hzs i z hzi ρ' ⟨ps, Z5, hm, hb, e⟩ => ?_) (fun zs hzs ρ' ⟨ps, Z5, hm, hb, e⟩ => ?_) (fun _ _ _ _ => rfl)
  · subst e
    refine ds_appEx (cz := fun q : Str × List Tie => q.1 = z ∧ 1 ≤ q.2.length ∧ q.2.length ≤ 2 ∧ ∀ t ∈ q.2, OkTie (y.map (·.1)) t) (F := aPart K) 4 rfl (De.imp (d_tup (Ps := [aStr z, aEx (fun ts : List Tie => 1 ≤ ts.length ∧ ts.length ≤ 2 ∧ ∀ t ∈ ts, OkTie (y.map (·.1)) t) fun ts => aLst (ts.map (aTie K))]) (da2 (d_v 5) (De.imp (d_mapX (cz := fun k : Nat => 1 ≤ k ∧ k < 1 + 2) (xs := List.range) (P := fun k : Nat => aInt (k : Int)) (is := [6]) (Ps := fun k : Nat => [aInt (k : Int)]) (F := fun _ => aEx (OkTie (y.map (·.1))) (aTie K)) [("_law_turn", 6)] hN (blkOk_by (by kernel_rfl)) (dix_rangeK T.b_range (d_addK (m := 1) (n := 2) d_int (d_cl (_law_take_ok T) hr 2 ⟨by decide, by decide⟩ (da2 (d_v 0) (d_v 3)))) (by decide)) (fun _ _ _ _ _ _ _ _ _ => dg_name 6 hN) (fun _ _ _ _ _ _ _ _ _ => d_cl (_law_tie_ok T) hr y hy (da2 (d_v 0) (d_v 1))) (fun k hk => by rw [List.length_range]; omega)) ?_))) ?_) (fun q hq => ds_nil ⟨ps ++ [q], .v (aStr z), ?_, fun q' hq' => ?_, ?_⟩) ?_
    · exact fun ⟨k, hk, h⟩ => by
        obtain ⟨ts, ⟨k1, k2⟩, h⟩ := lst_ex h
        rw [List.length_range] at k1
        exact ⟨ts, ⟨by omega, by omega, k2⟩, h⟩
    · intro pl H v ⟨a, vs, h1, h2, h3⟩
      cases h3 with
      | cons k1 h3 => cases h3 with
        | cons k2 h3 => cases h3 with
          | nil =>
            obtain ⟨ts, hts, k2⟩ := k2
            exact ⟨(z, ts), ⟨rfl, hts⟩, a, _, h1, h2, .cons k1 (.cons k2 .nil)⟩
    · rw [List.map_append, hm, take_more hzi, List.map_singleton, hq.1]
    · rcases List.mem_append.mp hq' with h | h
      · exact hb q' h
      · rw [List.mem_singleton.mp h]
        exact hq.2
    · rw [List.map_append]
      rfl
    · rw [List.length_map]
      have := congrArg List.length hm
      rw [List.length_map, List.length_take] at this
      have := hzs.1
      omega
  · subst e
    rw [List.take_length] at hm
    refine ds_ret (d_v 4) fun h => ⟨ps, ⟨?_, by rw [hm]; exact hzs.2.1, fun q hq => hzs.2.2 _ (by rw [← hm]; exact List.mem_map.mpr ⟨q, hq, rfl⟩), hb⟩, h⟩
    have := congrArg List.length hm
    rw [List.length_map] at this
    have := hzs.1
    omega
end
end Lb
set_option Elab.async false
set_option linter.all false
set_option maxRecDepth 100000
set_option maxHeartbeats 4000000
namespace Da
open PySem PySem.Spec PyProof.Rows L2
/-! ### a def that hands back a list just made, which nothing else knows -/
def DsN (X : Cx) (sts : List Stmt) (ρ : Slots) (Ps : List As) : Prop := ∀ pl H0 Hc0 σ H (D : Ends), St1 pl H0 Hc0 ρ σ H → (∀ p vs H' Hc', Stp pl H0 Hc0 H' Hc' → H' p = some (.lst vs) → Hc' p = none → pl ≠ some p → H0 p = none → Fits pl Hc' vs Ps → D.rt (.ref p) H') → tSs X sts D σ H
section
variable {X : Cx} {ρ : Slots} {Ps : List As} {pos p' : Pos} {e : Expr} {P : As} {rest : List Stmt}
theorem dsn_set (i : Nat) {x : Str} (hN : X.N.Nodup) (he : De X e (exR ρ) P) (k : DsN X rest (ρ.set i (.v P)) Ps) (hi : X.N[i]? = some x := by rfl) (hx : Loc X.env.scope x := by first | exact Or.inl rfl | exact Or.inr rfl) (hs : swapsWith e (some (.Name x p')) pos.line X.env = pure false := by rfl) (hf : X.fn x = true ∨ X.env.scope.names.lookup x = some .local := by first | exact .inl rfl | exact .inr rfl | assumption) :
    DsN X (.Assign [.Name x p'] e pos :: rest) ρ Ps := fun pl H0 Hc0 σ H D ⟨Hc, s⟩ hr =>
  tSs_of (pss_cons (ps_set hN hi hx pe_can hs hf) pss_can) (he pl σ H Hc s.stp.gd s.env _ fun v H1 Hc1 t hv => k pl H0 Hc0 _ H1 D ⟨Hc1, (s.step t).setV i hv⟩ hr)
theorem dsn_ret (he : DeN X e (exR ρ) Ps) : DsN X (.Return (some e) pos :: rest) ρ Ps := fun pl H0 Hc0 σ H D ⟨Hc, s⟩ hr =>
  tSs_of (pss_cons (ps_ret pe_can) pss_can) (he pl σ H Hc s.stp.gd s.env _ fun p vs H1 Hc1 t h1 h2 h3 h4 h5 => hr p vs H1 Hc1 (s.stp.trans t) h1 h2 h3 (by
    cases z : H0 p with
    | none => rfl
    | some o =>
      rw [s.stp.keep p o h3 z] at h4
      cases h4) h5)
end
def spN {α : Type} (ok : α → Prop) (args : α → List As) (Ps : α → List As) : Sp := fun vs H Q _ => ∃ pl Hc x, Gd pl H Hc ∧ ok x ∧ Fits pl Hc vs (args x) ∧ OutN pl H Hc (Ps x) Q
section
variable {P : Program} {w : World} {K : PySem.W.Frag} {mg : Str → Option Value} {base : Heap} {x qual : Str} {params : Arguments} {body : List Stmt} {scope : Scope} {f : Addr} {fd : FuncData} {N ps : List Str} {k : Nat}
theorem fokN_of {α : Type} {ok : α → Prop} {args : α → List As} {Ps : α → List As} {dvs : List V} {kws : List (Str × V)} (F : ∃ fd, FunD K x qual params body scope dvs kws (He.ga K x) fd) (hg : mg x = some (.ref (He.ga K x))) (S : FnScope N ps scope) (hl : ∀ y, (args y).length = ps.length)
    (hbn : ∀ fd, FunD K x qual params body scope dvs kws (He.ga K x) fd → Binds K fd ps [])
    (hb : ∀ (y : α), ok y → ∀ (cdv : Value) (A : Around) (outer : List Env) (s : Shared) (H : Hp) (E : XK), Room k (A.deeper (envOfC qual scope s.heap.objs.size (He.ga K x) cdv)) →
      DsN (cxOf CX0 P w K mg base N qual scope (He.ga K x) cdv A outer s H E).nox body (inSl (args y) N.length) (Ps y)) : Fok P w K mg base (k + 1) x ps (spN ok args Ps) := by
  obtain ⟨fd, F⟩ := F
  refine ⟨⟨fd, F.ok S (fun vs H Q E ⟨pl, Hc, y, g, hy, f, q⟩ => by rw [f.len, hl]) fun cdv A outer s H vs Q E hr ⟨pl, Hc, y, g, hy, f, q⟩ => ⟨_, PSs.nox pss_can, ?_⟩, hbn fd F⟩, hg, F.kp⟩
  exact hb y hy cdv A outer s H E hr pl H Hc _ H _ ⟨Hc, start_ok g f⟩ fun p vs H' Hc' t h1 h2 h3 h4 h5 => q p vs H' Hc' t h1 h2 h3 h4 h5
end
theorem same_l {K : PySem.W.Frag} {H H' : Hp} {a : Addr} {xs : List V} (e : Same H H') (h : SqL K H a xs) : SqL K H' a xs := by
  rcases h with (h | ⟨o, h⟩) | h
  · exact .inl (.inl (e _ _ h))
  · exact .inl (.inr ⟨o, e _ _ h⟩)
  · exact .inr h
/-- a list that was handed in -/
def aSq (K : PySem.W.Frag) (Ps : List As) : As := ⟨fun pl H v => ∃ a vs, v = .ref a ∧ SqL K H a vs ∧ Fits pl H vs Ps, fun e ⟨a, vs, h1, h2, h3⟩ => ⟨a, vs, h1, same_l e h2, h3.mono e⟩⟩
section
variable {X : Cx} {ρ : Rho} {pos p : Pos} {a b c e : Expr} {es : List Expr} {Ps : List As} {x : Str} {j k : Nat} {ps : List Str}
theorem d_lenQ (hm : X.mg "len" = none) (h : De X e ρ (aSq X.K Ps)) (hs : starEach (e :: []) X.env = (false, eval e X.env) :: starEach [] X.env := by rfl) (hg : Gl X "len" := by rfl) : De X (.Call (.Name "len" p) [e] [] pos) ρ (aInt (Ps.length : Int)) :=
  d_cb call_len_seq (fun pl H Hc vs g f Q q => by
    obtain ⟨v, e1, a, ws, h1, h2, f2⟩ := one f
    subst e1 h1
    refine ⟨a, ws, rfl, .inl (same_l g.sub h2), ?_⟩
    rw [f2.len]
    exact q.here g rfl) hm (da1 h hs) PySem.boot_len hg (by decide) (by decide) hs rfl
theorem dn_cl {α : Type} {ok : α → Prop} {args : α → List As} {res : α → List As} (F : Fok X.prog X.w X.K X.mg X.base j x ps (spN ok args res)) (hr : Room k X.A) (y : α) (hy : ok y) (ha : DeA X (e :: es) ρ (args y)) (hjk : j ≤ k := by decide) (hg : Gl X x := by rfl)
    (hdb : (x == ("__debug__" : Str)) = false := by decide) (he : starEach (e :: es) X.env = (false, eval e X.env) :: starEach es X.env := by rfl) (hpl : (backTo pos (starEach es X.env)).any (·.1) = false := by rfl) : DeN X (.Call (.Name x p) (e :: es) [] pos) ρ (res y) := fun pl σ H Hc g ev Q q => by
  obtain ⟨fd, f, hb⟩ := (F.mono hjk).ex
  refine tE_of (pe_call f hr hg F.mg F.kp hb .nil pass0 pa_can hdb he hpl) (ha pl σ H Hc g ev _ fun vs H1 Hc1 s1 h1 => ?_)
  show spN ok args res (vs ++ []) H1 Q E0
  rw [List.append_nil]
  exact ⟨pl, Hc1, y, s1.gd, hy, h1, q.step s1⟩
/-- xs[i:j], a list's of any making -/
theorem dn_slice {p2 : Pos} (i j : Nat) (ha : De X a ρ (aSq X.K Ps)) (hb : De X b ρ (aInt (i : Int))) (hc : De X c ρ (aInt (j : Int))) : DeN X (.Subscript a (.Slice (some b) (some c) none p2) pos) ρ ((Ps.drop (min i Ps.length)).take (min j Ps.length - min i Ps.length)) := fun pl σ H Hc g ev Q q =>
  tE_of (pe_slice sl_list pe_can (po_some pe_can) (po_some pe_can)) (ha pl σ H Hc g ev _ fun v H1 Hc1 s1 ⟨d, vs, h1, h2, f⟩ => hb pl σ H1 Hc1 s1.gd (ev.mono s1.cl) _ fun u H2 Hc2 s2 hu => ⟨(i : Int), hu, hc pl σ H2 Hc2 s2.gd (ev.mono (s1.cl.trans s2.cl)) _ fun u3 H3 Hc3 s3 hu3 => ⟨(j : Int), hu3, d, vs, h1, same_l s3.gd.sub (same_l s3.cl (same_l s2.cl h2)), fun p hp => by
    have e : cutV vs (some (i : Int)) (some (j : Int)) = (vs.drop (min i Ps.length)).take (min j Ps.length - min i Ps.length) := by
      unfold cutV
      rw [HT.sIx_nat, HT.sIx_nat, f.len]
    rw [e]
    exact (((q.step s1).step s2).step s3).new s3.gd hp (((f.mono s2.cl).mono s3.cl).drop _ |>.take _)⟩⟩)
theorem d_intB {k : Bool} (hm : X.mg "int" = none) (h : De X e ρ (aBl k)) (hs : starEach (e :: []) X.env = (false, eval e X.env) :: starEach [] X.env := by rfl) (hg : Gl X "int" := by rfl) : De X (.Call (.Name "int" p) [e] [] pos) ρ (aInt (if k then 1 else 0)) :=
  d_ct call_int1 (fun pl H Hc vs g f Q q => by
    obtain ⟨v, e1, h1⟩ := one f
    subst e1
    exact .inr ⟨k, by rw [show v = V.bl k from h1], q.here g rfl⟩) hm (da1 h hs) (by decide +kernel) hg (by decide) (by decide) hs rfl
end
end Da
namespace Lb
open PySem PySem.Spec PyProof.Rows L2 Da PySem.W
section
variable {P : Program} {w : World} {K : PySem.W.Frag} {mg : Str → Option Value} {base : Heap}
abbrev poolL : List As := [aS fun _ => True, aS fun i => 0 ≤ i ∧ i < 2147483647]
theorem scLawPool : FnScope ["_law_script", "_law_k", "_law_cell", "_law_seed"] ["_law_script", "_law_k"] (defScope sLawPool) := ⟨rfl, rfl, rfl, by decide +kernel, rfl, by decide +kernel, by decide +kernel⟩
theorem _law_pool_ok (T : Txt w K mg) : Fok P w K mg base 1 "_law_pool" ["_law_script", "_law_k"] (spN (α := List Int × Nat) (fun q => q.1.length < 1000 ∧ q.2 < 1000) (fun q => [aSq K (q.1.map aInt), aInt (q.2 : Int)]) fun _ => poolL) := by
  refine fokN_of T.f_LawPool T.g__law_pool scLawPool (fun _ => rfl) (fun _ F => F.bindsN fun _ _ _ _ _ _ us hl => match us, hl with | [_, _], _ => rfl) fun y hy cdv A outer s H E hr => ?_
  have hN := scLawPool.nd
  obtain ⟨xs, k⟩ := y
  obtain ⟨h1, h2⟩ := hy
  replace h1 : xs.length < 1000 := h1
  replace h2 : k < 1000 := h2
  obtain ⟨c, r, hc⟩ : ∃ c r, (xs.drop (min k xs.length)).take (min (k + 1) xs.length - min k xs.length) ++ [0] = c :: r := by
    cases h : (xs.drop (min k xs.length)).take (min (k + 1) xs.length - min k xs.length) with
    | nil => exact ⟨0, [], rfl⟩
    | cons a l => exact ⟨a, l ++ [0], rfl⟩
  have hl : ∀ n m, ((xs.map aInt).drop n).take m = ((xs.drop n).take m).map aInt := fun n m => by rw [← List.map_drop, ← List.map_take]
  refine dsn_set (P := aInt c) 2 hN (d_ixL (Ps := (c :: r).map aInt) 0 (De.as (dn_cat ?_ (dn_slice (Ps := xs.map aInt) k (k + 1) (d_v 0) (d_v 1) (De.as (d_add (i := (k : Int)) (j := 1) (d_v 1) d_int) (congrArg (fun i : Int => aInt i) (show (k : Int) + 1 = ((k + 1 : Nat) : Int) by omega)))).de (d_lst (da1 (d_int (i := 0))))).de ?_) d_int) ?_
  · rw [hl, List.length_map, List.length_take]
    show _ + 1 < 1000000
    have := List.length_drop (l := xs) (i := min k (xs.map aInt).length)
    omega
  · rw [hl, List.length_map, ← hc, List.map_append]
    rfl
  refine dsn_set (P := aS fun i => 0 ≤ i ∧ i < 2147483647) 3 hN (d_modS (c := fun _ => True) (c' := fun j => j = 2147483629) (d_mulS (c := fun _ => True) (c' := fun j => j = 48271) (d_addS (c := fun _ => True) (c' := fun _ => True) (d_addS (c := fun _ => True) (c' := fun _ => True) (d_modS (c := fun _ => True) (c' := fun j => j = 2147483647) (d_s (d_v 2) trivial) (d_s d_int rfl) fun i j _ e => by subst e; exact ⟨by omega, trivial⟩) (d_mulS (c := fun j => j = 7919) (c' := fun _ => True) (d_s d_int rfl) (d_s (d_v 1) trivial) fun i j e _ => by subst e; exact ⟨.inl ⟨by omega, by omega⟩, trivial⟩) fun _ _ _ _ => trivial) (d_s d_int trivial) fun _ _ _ _ => trivial) (d_s d_int rfl) fun i j _ e => by subst e; exact ⟨.inr ⟨by omega, by omega⟩, trivial⟩) (d_s d_int rfl) fun i j _ e => by subst e; exact ⟨by omega, Int.emod_nonneg _ (by omega), by have := Int.emod_lt_of_pos i (by omega : (0 : Int) < 2147483629); omega⟩) ?_
  refine dsn_ret (dn_lst (da2 (d_mulS (c := fun j => j = 0 ∨ j = 1) (c' := fun _ => True) (d_s (d_intB T.b_int (d_ge (d_v 2) (d_op op_pow (opd_I (C := CPow) (i := 10) (j := 18) ⟨by omega, by omega, by decide⟩) d_int d_int))) ?_) (d_s (d_v 2) trivial) fun i j hi _ => ⟨.inl ⟨by omega, by omega⟩, trivial⟩) (d_v 3)))
  split
  · exact .inr rfl
  · exact .inl rfl
end
end Lb
set_option Elab.async false
set_option linter.all false
set_option maxRecDepth 100000
set_option maxHeartbeats 4000000
namespace Lb
open PySem Da
/-! ### worlds -/
structure InW (ms : List Nat) (w : List Int) : Prop where
  len : w.length = ms.length
  val : ∀ (i : Nat) (v : Int) (m : Nat), w[i]? = some v → ms[i]? = some m → 0 ≤ v ∧ v < (m : Int)
theorem stepW_mem {found : List (List Int)} {m : Nat} {w : List Int} : w ∈ stepW found m ↔ ∃ w' ∈ found, ∃ v : Nat, v < m ∧ w = w' ++ [(v : Int)] := by
  unfold stepW
  rw [List.mem_flatMap]
  constructor
  · rintro ⟨w', h1, h2⟩
    obtain ⟨v, h3, rfl⟩ := List.mem_map.mp h2
    exact ⟨w', h1, v, List.mem_range.mp h3, rfl⟩
  · rintro ⟨w', h1, v, h3, rfl⟩
    exact ⟨w', h1, List.mem_map.mpr ⟨v, List.mem_range.mpr h3, rfl⟩⟩
theorem everyL_mem : ∀ (n : Nat) {ms : List Nat}, ms.length = n → ∀ {w : List Int}, w ∈ everyL ms ↔ InW ms w
  | 0, ms, h, w => by
    have e : ms = [] := List.eq_nil_of_length_eq_zero h
    subst e
    constructor
    · intro hw
      have e : w = [] := List.mem_singleton.mp hw
      subst e
      exact ⟨rfl, fun i v m h => by simp at h⟩
    · intro hw
      have e : w = [] := List.eq_nil_of_length_eq_zero hw.len
      subst e
      exact List.mem_singleton.mpr rfl
  | n + 1, ms, h, w => by
    have hne : ms ≠ [] := fun e => by rw [e] at h; cases h
    obtain ⟨l, m, rfl⟩ : ∃ l m, ms = l ++ [m] := ⟨_, _, (List.dropLast_concat_getLast hne).symm⟩
    have hl : l.length = n := by simpa using h
    have ih := fun w => everyL_mem n hl (w := w)
    rw [everyL_more, stepW_mem]
    constructor
    · rintro ⟨w', h1, v, h2, rfl⟩
      have i1 := (ih w').mp h1
      refine ⟨by rw [List.length_append, List.length_append, i1.len]; rfl, fun i a b ha hb => ?_⟩
      by_cases hi : i < l.length
      · rw [List.getElem?_append_left (by rw [i1.len]; exact hi)] at ha
        rw [List.getElem?_append_left hi] at hb
        exact i1.val i a b ha hb
      · rw [List.getElem?_append_right (by rw [i1.len]; omega)] at ha
        rw [List.getElem?_append_right (by omega)] at hb
        rw [i1.len] at ha
        cases hk : i - l.length with
        | zero =>
          rw [hk] at ha hb
          simp at ha hb
          omega
        | succ k =>
          rw [hk] at ha
          simp at ha
    · intro hw
      have hwl : w.length = l.length + 1 := by rw [hw.len, List.length_append]; rfl
      have hwne : w ≠ [] := fun e => by rw [e] at hwl; cases hwl
      obtain ⟨w', a, rfl⟩ : ∃ w' a, w = w' ++ [a] := ⟨_, _, (List.dropLast_concat_getLast hwne).symm⟩
      have hl' : w'.length = l.length := by simpa using hwl
      have ha := hw.val l.length a m (by rw [List.getElem?_append_right (by omega), hl']; simp) (by rw [List.getElem?_append_right (by omega)]; simp)
      refine ⟨w', (ih w').mpr ⟨hl', fun i x b hx hb => ?_⟩, a.toNat, by omega, by rw [Int.toNat_of_nonneg ha.1]⟩
      have hi : i < l.length := (List.getElem?_eq_some_iff.mp hb).1
      exact hw.val i x b (by rw [List.getElem?_append_left (by omega)]; exact hx) (by rw [List.getElem?_append_left hi]; exact hb)
theorem world_mem {y : Wk} {w : List Int} : w ∈ everyL (mans y) ↔ InW (mans y) w := everyL_mem _ rfl
theorem okWorld_in {y : Wk} {vs : List Int} (h : OkWorld y vs) : InW (mans y) vs := by
  refine ⟨by rw [List.length_map]; exact h.len, fun i v m hv hm => ?_⟩
  rw [List.getElem?_map] at hm
  cases hq : y.1[i]? with
  | none =>
    rw [hq] at hm
    cases hm
  | some q =>
    rw [hq] at hm
    have e : q.2 = m := Option.some.inj hm
    subst e
    exact h.val (v, q) (List.mem_of_getElem? (i := i) (List.getElem?_zip_eq_some.mpr ⟨hv, hq⟩))
theorem vG_at {y : Wk} (nd : (y.1.map (·.1)).Nodup) {w : List Int} (hl : w.length = y.1.length) {i : Nat} {q : Str × Nat} {v : Int} (hq : y.1[i]? = some q) (hv : w[i]? = some v) : vG y w q.1 = some v := by
  unfold vG
  refine gOf_mem (l := vList y w) (q := (q.1, v)) ?_ ?_
  · unfold vList
    rw [vList_keys hl]
    exact nd
  · exact List.mem_map.mpr ⟨(v, q), List.mem_of_getElem? (i := i) (List.getElem?_zip_eq_some.mpr ⟨hv, hq⟩), rfl⟩
theorem at_name {y : Wk} {z : Str} (h : z ∈ y.1.map (·.1)) : ∃ (i : Nat) (q : Str × Nat), y.1[i]? = some q ∧ q.1 = z := by
  obtain ⟨q, hq, rfl⟩ := List.mem_map.mp h
  obtain ⟨i, hi, e⟩ := List.mem_iff_getElem.mp hq
  exact ⟨i, q, by rw [List.getElem?_eq_getElem hi, e], rfl⟩
/-- a world's value of a wire -/
theorem vG_in {y : Wk} (nd : (y.1.map (·.1)).Nodup) {w : List Int} (hw : InW (mans y) w) {q : Str × Nat} (hq : q ∈ y.1) : ∃ v : Int, vG y w q.1 = some v ∧ 0 ≤ v ∧ v < (q.2 : Int) := by
  obtain ⟨i, hi, e⟩ := List.mem_iff_getElem.mp hq
  have hq' : y.1[i]? = some q := by rw [List.getElem?_eq_getElem hi, e]
  have hwl : w.length = y.1.length := by rw [hw.len, List.length_map]
  have hv : w[i]? = some w[i] := List.getElem?_eq_getElem (by omega)
  exact ⟨_, vG_at nd hwl hq' hv, hw.val i _ q.2 hv (by rw [List.getElem?_map, hq']; rfl)⟩
theorem mG_nd {y : Wk} (nd : (y.1.map (·.1)).Nodup) {q : Str × Nat} (h : q ∈ y.1) : mG y q.1 = some (q.2 : Int) := by
  unfold mG
  exact gOf_mem (l := mList y) (q := (q.1, (q.2 : Int))) (by unfold mList; rw [List.map_map]; exact nd) (List.mem_map.mpr ⟨q, h, rfl⟩)
/-! ### what a tie asks of the values -/
theorem vals_congr {v v' : Gn} {ns : List Str} (h : ∀ z ∈ ns, v z = v' z) : valsOf v ns = valsOf v' ns := by
  unfold valsOf
  exact List.map_congr_left fun z hz => by rw [h z hz]
theorem holds_congr {m m' v v' : Gn} {t : Tie} (ot : OkT t) (hm : ∀ z ∈ namesT t, m z = m' z) (hv : ∀ z ∈ namesT t, v z = v' z) : holdsB m t v = holdsB m' t v' := by
  cases t with
  | fixed o n =>
    unfold holdsB
    simp only
    rw [hv o (List.mem_singleton.mpr rfl)]
  | rows ws rs =>
    unfold holdsB
    simp only
    rw [vals_congr (ns := ws) hv]
  | op wd ns =>
    have h2 := (ops_ne (ot.op _ _ rfl)).2.2.2
    match ns, h2 with
    | o :: r0 :: rr, _ =>
      have e1 := hv o (List.mem_cons_self ..)
      have e2 := hm o (List.mem_cons_self ..)
      have e3 := hm r0 (List.mem_cons_of_mem _ (List.mem_cons_self ..))
      have e4 : valsOf v (r0 :: rr) = valsOf v' (r0 :: rr) := vals_congr fun z hz => hv z (List.mem_cons_of_mem _ hz)
      have e5 : outBy m (.op wd (o :: r0 :: rr)) v = outBy m' (.op wd (o :: r0 :: rr)) v' := by
        show opBy m wd o (r0 :: rr) (valsOf v (r0 :: rr)) = opBy m' wd o (r0 :: rr) (valsOf v' (r0 :: rr))
        unfold opBy
        rw [e2, e4]
        simp only [List.getD_cons_zero]
        rw [e3]
      show decide ((v o).getD 0 = outBy m (.op wd (o :: r0 :: rr)) v) = decide ((v' o).getD 0 = outBy m' (.op wd (o :: r0 :: rr)) v')
      rw [e1, e5]
/-! ### the least ones -/
theorem within_refl (l : List Nat) : withinL l l = true := by
  unfold withinL
  rw [List.all_eq_true]
  exact fun p hp => decide_eq_true hp
theorem within_iff {l o : List Nat} : withinL l o = true ↔ ∀ p ∈ l, p ∈ o := by
  unfold withinL
  rw [List.all_eq_true]
  exact ⟨fun h p hp => of_decide_eq_true (h p hp), fun h p hp => decide_eq_true (h p hp)⟩
theorem leastF_has : ∀ (l : List (List Nat)), ∀ x ∈ l, ∃ o ∈ leastF l, withinL o x = true := by
  have step : ∀ (l f : List (List Nat)) (o : List Nat), o ∈ f → o ∈ l.foldl stepF f := by
    intro l
    induction l with
    | nil => exact fun f o h => h
    | cons a r ih =>
      intro f o h
      refine ih _ o ?_
      unfold stepF
      split
      · exact h
      · exact List.mem_append_left _ h
  have : ∀ (l f : List (List Nat)), ∀ x ∈ l, ∃ o ∈ l.foldl stepF f, withinL o x = true := by
    intro l
    induction l with
    | nil => exact fun f x h => nomatch h
    | cons a r ih =>
      intro f x h
      rcases List.mem_cons.mp h with rfl | h
      · by_cases hf : f.any (fun o => withinL o x) = true
        · obtain ⟨o, h1, h2⟩ := List.any_eq_true.mp hf
          exact ⟨o, step r (stepF f x) o (by unfold stepF; rw [if_pos hf]; exact h1), h2⟩
        · exact ⟨x, step r (stepF f x) x (by unfold stepF; rw [if_neg hf]; exact List.mem_append_right _ (List.mem_singleton.mpr rfl)), within_refl x⟩
      · exact ih _ x h
  exact fun l => this l []
theorem leastL_has {ls : List (List Nat)} {x : List Nat} (h : x ∈ ls) : ∃ o ∈ leastL ls, withinL o x = true := leastF_has _ x (List.mem_mergeSort.mpr h)
theorem leastL_sub {ls : List (List Nat)} {x : List Nat} (h : x ∈ leastL ls) : x ∈ ls := List.mem_mergeSort.mp (leastF_sub _ x h)
theorem broken_of {y : Wk} {ls : List (Str × Int)} {l : List Nat} (h : l ∈ brokenL y ls) : ∃ w, InW (mans y) w ∧ meetsB (vG y w) ls = true ∧ l = restL y.2.length (soundL y w) := by
  obtain ⟨q, hq, rfl⟩ := List.mem_map.mp (leastL_sub h)
  obtain ⟨w, hw, rfl⟩ := List.mem_map.mp hq
  obtain ⟨h1, h2⟩ := List.mem_filter.mp hw
  exact ⟨w, world_mem.mp h1, h2, rfl⟩
theorem broken_has {y : Wk} {ls : List (Str × Int)} {w : List Int} (hw : InW (mans y) w) (hm : meetsB (vG y w) ls = true) : ∃ o ∈ brokenL y ls, withinL o (restL y.2.length (soundL y w)) = true :=
  leastL_has (List.mem_map.mpr ⟨(w, soundL y w), List.mem_map.mpr ⟨w, List.mem_filter.mpr ⟨world_mem.mpr hw, hm⟩, rfl⟩, rfl⟩)
theorem stepW_nodup {found : List (List Int)} {m : Nat} (nd : found.Nodup) : (stepW found m).Nodup := by
  unfold stepW
  induction found with
  | nil => exact List.nodup_nil
  | cons a r ih =>
    have h := List.nodup_cons.mp nd
    rw [List.flatMap_cons, List.nodup_append]
    refine ⟨?_, ih h.2, ?_⟩
    · refine List.Pairwise.map _ (R := (· ≠ ·)) ?_ List.nodup_range
      intro i j hij e
      have := List.append_cancel_left e
      simp at this
      omega
    · intro x hx x' hx' e
      subst e
      obtain ⟨v, _, rfl⟩ := List.mem_map.mp hx
      obtain ⟨b, hb, hb2⟩ := List.mem_flatMap.mp hx'
      obtain ⟨v', _, e⟩ := List.mem_map.mp hb2
      have e1 := (List.append_inj' e rfl).1
      exact h.1 (e1 ▸ hb)
theorem everyL_nodup : ∀ (n : Nat) {ms : List Nat}, ms.length = n → (everyL ms).Nodup
  | 0, ms, h => by
    have e : ms = [] := List.eq_nil_of_length_eq_zero h
    subst e
    exact List.nodup_cons.mpr ⟨(fun h => nomatch h), List.nodup_nil⟩
  | n + 1, ms, h => by
    have hne : ms ≠ [] := fun e => by rw [e] at h; cases h
    obtain ⟨l, m, rfl⟩ : ∃ l m, ms = l ++ [m] := ⟨_, _, (List.dropLast_concat_getLast hne).symm⟩
    rw [everyL_more]
    exact stepW_nodup (everyL_nodup n (by simpa using h))
theorem filter_one {α : Type} {p : α → Bool} {a : α} : ∀ {l : List α}, l.Nodup → a ∈ l → (∀ x ∈ l, p x = true ↔ x = a) → l.filter p = [a]
  | [], _, h, _ => nomatch h
  | b :: l, nd, h, hp => by
    have nd' := List.nodup_cons.mp nd
    rw [List.filter_cons]
    by_cases e : b = a
    · subst e
      rw [if_pos ((hp b (List.mem_cons_self ..)).mpr rfl)]
      congr 1
      rw [List.filter_eq_nil_iff]
      intro x hx hpx
      exact nd'.1 (((hp x (List.mem_cons_of_mem _ hx)).mp hpx) ▸ hx)
    · rw [if_neg fun h => e ((hp b (List.mem_cons_self ..)).mp h)]
      exact filter_one nd'.2 ((List.mem_cons.mp h).resolve_left fun z => e z.symm) fun x hx => hp x (List.mem_cons_of_mem _ hx)
/-- one world alone meets the looks -/
theorem broken_one {y : Wk} {ls : List (Str × Int)} {w : List Int} (hw : InW (mans y) w) (h : ∀ w', InW (mans y) w' → (meetsB (vG y w') ls = true ↔ w' = w)) : brokenL y ls = [restL y.2.length (soundL y w)] := by
  unfold brokenL seenL
  rw [filter_one (everyL_nodup _ rfl) (world_mem.mpr hw) fun x hx => h x (world_mem.mp hx)]
  unfold leastL
  rw [List.map_singleton, List.map_singleton]
  rw [show sortK [restL y.2.length (soundL y w)] = [restL y.2.length (soundL y w)] from List.mergeSort_singleton _]
  rfl
end Lb
set_option Elab.async false
set_option linter.all false
set_option maxRecDepth 100000
set_option maxHeartbeats 4000000
namespace Lb
open PySem Da
theorem restL_mem {n : Nat} {l : List Nat} {p : Nat} : p ∈ restL n l ↔ p < n ∧ p ∉ l := by
  unfold restL
  rw [List.mem_filter, List.mem_range]
  simp
theorem wiresT_mem {t : Tie} {z : Str} : z ∈ wiresT t ↔ z ∈ namesT t := by
  cases t with
  | fixed o n => exact Iff.rfl
  | op wd ns => exact dedup_mem
  | rows ws rs => exact Iff.rfl
theorem usedL_mem {y : Wk} {l : List Nat} {z : Str} : z ∈ usedL y l ↔ ∃ p ∈ l, ∃ t ∈ tiesAt y p, z ∈ namesT t := by
  unfold usedL
  rw [List.mem_flatMap]
  constructor
  · rintro ⟨p, hp, h⟩
    obtain ⟨t, ht, hz⟩ := List.mem_flatMap.mp h
    exact ⟨p, hp, t, ht, wiresT_mem.mp hz⟩
  · rintro ⟨p, hp, t, ht, hz⟩
    exact ⟨p, hp, List.mem_flatMap.mpr ⟨t, ht, wiresT_mem.mpr hz⟩⟩
theorem wiresL_mem {y : Wk} {l : List Nat} {z : Str} : z ∈ wiresL y l ↔ z ∈ y.1.map (·.1) ∧ z ∈ usedL y l := by
  unfold wiresL
  constructor
  · intro h
    obtain ⟨q, hq, rfl⟩ := List.mem_map.mp h
    obtain ⟨h1, h2⟩ := List.mem_filter.mp hq
    exact ⟨List.mem_map.mpr ⟨q, h1, rfl⟩, of_decide_eq_true h2⟩
  · rintro ⟨h1, h2⟩
    obtain ⟨q, hq, rfl⟩ := List.mem_map.mp h1
    exact List.mem_map.mpr ⟨q, List.mem_filter.mpr ⟨hq, decide_eq_true h2⟩, rfl⟩
theorem innerL_mem {y : Wk} {l : List Nat} {z : Str} : z ∈ innerL y l ↔ z ∈ wiresL y l ∧ z ∉ wiresL y (restL y.2.length l) := by
  unfold innerL
  rw [List.mem_filter]
  simp
theorem outerL_mem {y : Wk} {l : List Nat} {ns : List Str} {z : Str} : z ∈ outerL y l ns ↔ z ∈ wiresL y l ∧ z ∉ ns := by
  unfold outerL
  rw [List.mem_filter]
  simp
theorem goneL_mem {y : Wk} {ss : List Stg} {z : Str} : z ∈ goneL y ss ↔ ∃ q ∈ ss, z ∈ innerL y q.2 := List.mem_flatMap
theorem stay_wire {y : Wk} {ss : List Stg} {q : Str × Nat} : q ∈ (closedW y ss).1 ↔ q ∈ y.1 ∧ q.1 ∉ goneL y ss := by
  show q ∈ y.1.filter _ ↔ _
  rw [List.mem_filter]
  simp
theorem stay_mem {y : Wk} {ss : List Stg} {z : Str} : z ∈ (closedW y ss).1.map (·.1) ↔ z ∈ y.1.map (·.1) ∧ z ∉ goneL y ss := by
  constructor
  · intro h
    obtain ⟨q, hq, rfl⟩ := List.mem_map.mp h
    obtain ⟨h1, h2⟩ := stay_wire.mp hq
    exact ⟨List.mem_map.mpr ⟨q, h1, rfl⟩, h2⟩
  · rintro ⟨h1, h2⟩
    obtain ⟨q, hq, rfl⟩ := List.mem_map.mp h1
    exact List.mem_map.mpr ⟨q, stay_wire.mpr ⟨hq, h2⟩, rfl⟩
theorem tiesAt_ok {y : Wk} (hy : OkWk y) {p : Nat} {t : Tie} (h : t ∈ tiesAt y p) : p < y.2.length ∧ OkTie (y.1.map (·.1)) t := by
  unfold tiesAt at h
  cases e : y.2[p]? with
  | none =>
    rw [e] at h
    cases h
  | some q =>
    rw [e] at h
    exact ⟨(List.getElem?_eq_some_iff.mp e).1, (hy.ps.tie q (List.mem_of_getElem? e) t h).1⟩
theorem tiesAt_at {y : Wk} {p : Nat} {q : Str × List Tie} (h : y.2[p]? = some q) : tiesAt y p = q.2 := by
  unfold tiesAt
  rw [h]
/-- a wire that a part outside a lot names is not inner to it -/
theorem used_out {y : Wk} (hy : OkWk y) {p : Nat} {t : Tie} {z : Str} {l : List Nat} (ht : t ∈ tiesAt y p) (hz : z ∈ namesT t) (hp : p ∉ l) : z ∉ innerL y l := fun h => by
  obtain ⟨h1, h2⟩ := tiesAt_ok hy ht
  exact (innerL_mem.mp h).2 (wiresL_mem.mpr ⟨(okT_names h2).2 z hz, usedL_mem.mpr ⟨p, restL_mem.mpr ⟨h1, hp⟩, t, ht, hz⟩⟩)
theorem stg_same : ∀ {ss : List Stg}, (withinStg ss).Nodup → ∀ {q q' : Stg} {p : Nat}, q ∈ ss → q' ∈ ss → p ∈ q.2 → p ∈ q'.2 → q = q'
  | [], _, _, _, _, h, _, _, _ => nomatch h
  | a :: r, nd, q, q', p, h, h', hp, hp' => by
    unfold withinStg at nd
    rw [List.flatMap_cons] at nd
    obtain ⟨_, k2, k3⟩ := List.nodup_append.mp nd
    rcases List.mem_cons.mp h with e | h1
    · rcases List.mem_cons.mp h' with e' | h1'
      · rw [e, e']
      · subst e
        exact absurd rfl (k3 p hp p (List.mem_flatMap.mpr ⟨q', h1', hp'⟩))
    · rcases List.mem_cons.mp h' with e' | h1'
      · subst e'
        exact absurd rfl (k3 p hp' p (List.mem_flatMap.mpr ⟨q, h1, hp⟩))
      · exact stg_same k2 h1 h1' hp hp'
theorem within_mem {ss : List Stg} {p : Nat} : p ∈ withinStg ss ↔ ∃ q ∈ ss, p ∈ q.2 := List.mem_flatMap
/-- what a part of no stage names stays -/
theorem alone_stays {y : Wk} (hy : OkWk y) {ss : List Stg} {p : Nat} {t : Tie} {z : Str} (hp : p ∉ withinStg ss) (ht : t ∈ tiesAt y p) (hz : z ∈ namesT t) : z ∈ (closedW y ss).1.map (·.1) := by
  refine stay_mem.mpr ⟨(okT_names (tiesAt_ok hy ht).2).2 z hz, fun h => ?_⟩
  obtain ⟨q, hq, hi⟩ := goneL_mem.mp h
  exact used_out hy ht hz (fun hm => hp (within_mem.mpr ⟨q, hq, hm⟩)) hi
/-- a stage's wires that are not inner to it stay -/
theorem outer_stays {y : Wk} (hy : OkWk y) {ss : List Stg} (st : OkStgs y ss) {q : Stg} (hq : q ∈ ss) {z : Str} (hz : z ∈ outerL y q.2 (innerL y q.2)) : z ∈ (closedW y ss).1.map (·.1) := by
  obtain ⟨h1, h2⟩ := outerL_mem.mp hz
  obtain ⟨h3, h4⟩ := wiresL_mem.mp h1
  refine stay_mem.mpr ⟨h3, fun h => ?_⟩
  obtain ⟨q', hq', hi⟩ := goneL_mem.mp h
  obtain ⟨p, hp, t, ht, hn⟩ := usedL_mem.mp h4
  refine used_out hy ht hn (fun hp' => ?_) hi
  have e := stg_same st.dis hq hq' hp hp'
  subst e
  exact h2 hi
theorem partOf_alone {y : Wk} {ss : List Stg} {p : Nat} {q : Str × List Tie} (h : y.2[p]? = some q) (hp : p ∉ withinStg ss) : partOf y ss [p] = q := by
  unfold partOf
  have e : (ss.find? fun q => decide (q.2 = [p])) = none := List.find?_eq_none.mpr fun q hq => by
    have hn : q.2 ≠ [p] := fun e => hp (within_mem.mpr ⟨q, hq, by rw [e]; exact List.mem_singleton.mpr rfl⟩)
    simpa using hn
  rw [e]
  show (y.2[p]?).getD _ = q
  rw [h]
  rfl
theorem partOf_stage {y : Wk} {ss : List Stg} (st : OkStgs y ss) {q : Stg} (hq : q ∈ ss) : partOf y ss q.2 = (q.1, [stageT y q.2 (innerL y q.2)]) := by
  unfold partOf
  rw [find_stg (stg_inj st) hq]
theorem soundL_mem {y : Wk} {w : List Int} {p : Nat} : p ∈ soundL y w ↔ ∃ q, y.2[p]? = some q ∧ heldB (mG y) q.2 (vG y w) = true := by
  unfold soundL
  constructor
  · intro h
    obtain ⟨c, hc, rfl⟩ := List.mem_map.mp h
    obtain ⟨h1, h2⟩ := List.mem_filter.mp hc
    exact ⟨c.1, List.mem_zipIdx_iff_getElem?.mp h1, h2⟩
  · rintro ⟨q, h1, h2⟩
    exact List.mem_map.mpr ⟨(q, p), List.mem_filter.mpr ⟨List.mem_zipIdx_iff_getElem?.mpr h1, h2⟩, rfl⟩
theorem lotC_mem {y : Wk} {ss : List Stg} {l : List Nat} {k : Nat} : k ∈ lotC y ss l ↔ ∃ h, (holdersL y ss)[k]? = some h ∧ ∃ p ∈ h, p ∈ l := by
  unfold lotC
  constructor
  · intro h
    obtain ⟨c, hc, rfl⟩ := List.mem_map.mp h
    obtain ⟨h1, h2⟩ := List.mem_filter.mp hc
    obtain ⟨p, hp, hd⟩ := List.any_eq_true.mp h2
    exact ⟨c.1, List.mem_zipIdx_iff_getElem?.mp h1, p, hp, of_decide_eq_true hd⟩
  · rintro ⟨h, h1, p, hp, hl⟩
    exact List.mem_map.mpr ⟨(h, k), List.mem_filter.mpr ⟨List.mem_zipIdx_iff_getElem?.mpr h1, List.any_eq_true.mpr ⟨p, hp, decide_eq_true hl⟩⟩, rfl⟩
/-! ### a world's values of some wires alone -/
def resW (y : Wk) (ws : List (Str × Nat)) (w : List Int) : List Int := ws.map fun q => (vG y w q.1).getD 0
theorem closed_nd {y : Wk} (hy : OkWk y) (ss : List Stg) : ((closedW y ss).1.map (·.1)).Nodup := hy.ws.nd.sublist (List.Sublist.map _ List.filter_sublist)
theorem res_in {y : Wk} (hy : OkWk y) {ss : List Stg} {w : List Int} (hw : InW (mans y) w) : InW (mans (closedW y ss)) (resW y (closedW y ss).1 w) := by
  refine ⟨by unfold resW; rw [List.length_map, List.length_map], fun i v m hv hm => ?_⟩
  unfold resW at hv
  rw [List.getElem?_map] at hv hm
  cases hq : (closedW y ss).1[i]? with
  | none =>
    rw [hq] at hm
    cases hm
  | some q =>
    rw [hq] at hv hm
    have e1 : (vG y w q.1).getD 0 = v := Option.some.inj hv
    have e2 : q.2 = m := Option.some.inj hm
    subst e1 e2
    obtain ⟨v, h1, h2, h3⟩ := vG_in hy.ws.nd hw (stay_wire.mp (List.mem_of_getElem? hq)).1
    rw [h1]
    exact ⟨h2, h3⟩
theorem res_at {y : Wk} (hy : OkWk y) {ss : List Stg} {w : List Int} (hw : InW (mans y) w) {z : Str} (hz : z ∈ (closedW y ss).1.map (·.1)) : vG (closedW y ss) (resW y (closedW y ss).1 w) z = vG y w z := by
  obtain ⟨i, q, hq, rfl⟩ := at_name hz
  obtain ⟨v, h1, _, _⟩ := vG_in hy.ws.nd hw (stay_wire.mp (List.mem_of_getElem? hq)).1
  rw [h1]
  refine vG_at (closed_nd hy ss) (by unfold resW; rw [List.length_map]) hq ?_
  unfold resW
  rw [List.getElem?_map, hq]
  show some ((vG y w q.1).getD 0) = some v
  rw [h1]
  rfl
theorem many_at {y : Wk} (hy : OkWk y) {ss : List Stg} {z : Str} (hz : z ∈ (closedW y ss).1.map (·.1)) : mG (closedW y ss) z = mG y z := by
  obtain ⟨i, q, hq, rfl⟩ := at_name hz
  have hm := List.mem_of_getElem? hq
  rw [mG_nd (closed_nd hy ss) hm, mG_nd hy.ws.nd (stay_wire.mp hm).1]
theorem fold_has {y : Wk} {f : Str → Nat} : ∀ {ns : List Str} {found : List Gn} {g0 : Gn}, g0 ∈ found → (∀ z ∈ ns, f z < mN y z) → ∃ g ∈ ns.foldl (stepG y) found, ∀ z, (z ∈ ns → g z = some (f z : Int)) ∧ (z ∉ ns → g z = g0 z)
  | [], found, g0, h, _ => ⟨g0, h, fun z => ⟨(fun h => nomatch h), fun _ => rfl⟩⟩
  | a :: r, found, g0, h, hf => by
    have h1 : upG g0 a (f a : Int) ∈ stepG y found a := List.mem_flatMap.mpr ⟨g0, h, List.mem_map.mpr ⟨f a, List.mem_range.mpr (hf a (List.mem_cons_self ..)), rfl⟩⟩
    obtain ⟨g, hg, hz⟩ := fold_has (ns := r) h1 fun z hz => hf z (List.mem_cons_of_mem _ hz)
    refine ⟨g, hg, fun z => ⟨fun hm => ?_, fun hm => ?_⟩⟩
    · by_cases hr : z ∈ r
      · exact (hz z).1 hr
      · have e : z = a := (List.mem_cons.mp hm).resolve_right hr
        subst e
        rw [(hz z).2 hr, upG_same]
    · rw [(hz z).2 fun h => hm (List.mem_cons_of_mem _ h), upG_ne fun e => hm (by rw [e]; exact List.mem_cons_self ..)]
/-- a world's values of some wires are among the fillings -/
theorem fill_has {y : Wk} (hy : OkWk y) {w : List Int} (hw : InW (mans y) w) {ns : List Str} (hn : ∀ z ∈ ns, z ∈ y.1.map (·.1)) : ∃ g ∈ fillL y ns, ∀ z, (z ∈ ns → g z = vG y w z) ∧ (z ∉ ns → g z = none) := by
  have hv : ∀ z ∈ ns, ∃ v : Int, vG y w z = some v ∧ 0 ≤ v ∧ v < (mN y z : Int) := fun z hz => by
    obtain ⟨q, hq, rfl⟩ := List.mem_map.mp (hn z hz)
    obtain ⟨v, h1, h2, h3⟩ := vG_in hy.ws.nd hw hq
    refine ⟨v, h1, h2, ?_⟩
    have e := (mN_at hy (hn _ hz)).1
    rw [mG_nd hy.ws.nd hq] at e
    have := Option.some.inj e
    omega
  obtain ⟨g, hg, hz⟩ := fold_has (y := y) (f := fun z => ((vG y w z).getD 0).toNat) (ns := ns) (found := [fun _ => none]) (List.mem_singleton.mpr rfl) fun z hz => by
    obtain ⟨v, h1, h2, h3⟩ := hv z hz
    show ((vG y w z).getD 0).toNat < _
    rw [h1]
    show v.toNat < _
    omega
  refine ⟨g, hg, fun z => ⟨fun h => ?_, (hz z).2⟩⟩
  obtain ⟨v, h1, h2, h3⟩ := hv z h
  rw [(hz z).1 h, h1]
  show some ((v.toNat : Nat) : Int) = some v
  rw [Int.toNat_of_nonneg h2]
theorem held_iff {m v : Gn} {ts : List Tie} : heldB m ts v = true ↔ ∀ t ∈ ts, holdsB m t v = true := List.all_eq_true
/-- a part of the closed work is sound where all that it holds is -/
theorem closed_sound {y : Wk} (hy : OkWk y) {ss : List Stg} (st : OkStgs y ss) {w : List Int} (hw : InW (mans y) w) {k : Nat} {h : List Nat} (hk : (holdersL y ss)[k]? = some h) (hs : ∀ p ∈ h, p ∈ soundL y w) : k ∈ soundL (closedW y ss) (resW y (closedW y ss).1 w) := by
  refine soundL_mem.mpr ⟨partOf y ss h, by show ((holdersL y ss).map (partOf y ss))[k]? = _; rw [List.getElem?_map, hk]; rfl, ?_⟩
  rcases holders_mem (List.mem_of_getElem? hk) with ⟨p, rfl, hp, hpw⟩ | ⟨q, hq, rfl⟩
  · obtain ⟨q, hq, hh⟩ := soundL_mem.mp (hs p (List.mem_singleton.mpr rfl))
    rw [partOf_alone hq hpw]
    refine held_iff.mpr fun t ht => ?_
    have ht' : t ∈ tiesAt y p := by rw [tiesAt_at hq]; exact ht
    have stays := fun z hz => alone_stays hy hpw ht' (z := z) hz
    rw [holds_congr (okT_names (tiesAt_ok hy ht').2).1 (fun z hz => many_at hy (stays z hz)) fun z hz => res_at hy hw (stays z hz)]
    exact held_iff.mp hh t ht
  · rw [partOf_stage st hq]
    refine held_iff.mpr fun t ht => ?_
    have e : t = stageT y q.2 (innerL y q.2) := List.mem_singleton.mp ht
    subst e
    show decide (_ ∈ _) = true
    refine decide_eq_true ?_
    have wn : ∀ z ∈ wiresL y q.2, z ∈ y.1.map (·.1) := fun z hz => (wiresL_mem.mp hz).1
    obtain ⟨go, g1, g2⟩ := fill_has hy hw (ns := outerL y q.2 (innerL y q.2)) fun z hz => wn z (outerL_mem.mp hz).1
    obtain ⟨gi, i1, i2⟩ := fill_has hy hw (ns := innerL y q.2) fun z hz => wn z (innerL_mem.mp hz).1
    unfold stageRows
    refine List.mem_map.mpr ⟨go, List.mem_filter.mpr ⟨g1, List.any_eq_true.mpr ⟨gi, i1, List.all_eq_true.mpr fun t ht => ?_⟩⟩, ?_⟩
    · obtain ⟨p, hp, ht'⟩ := List.mem_flatMap.mp ht
      have ok := tiesAt_ok hy ht'
      have or_ : ∀ z ∈ namesT t, orG go gi z = vG y w z := fun z hz => by
        have hzw : z ∈ wiresL y q.2 := wiresL_mem.mpr ⟨(okT_names ok.2).2 z hz, usedL_mem.mpr ⟨p, hp, t, ht', hz⟩⟩
        unfold orG
        by_cases hi : z ∈ innerL y q.2
        · rw [(g2 z).2 fun h => (outerL_mem.mp h).2 hi, (i2 z).1 hi]
          rfl
        · rw [(g2 z).1 (outerL_mem.mpr ⟨hzw, hi⟩), (i2 z).2 hi]
          cases vG y w z <;> rfl
      rw [holds_congr (okT_names ok.2).1 (fun _ _ => rfl) or_]
      obtain ⟨qp, hqp, hh⟩ := soundL_mem.mp (hs p hp)
      exact held_iff.mp hh t (by rw [← tiesAt_at hqp]; exact ht')
    · unfold valsOf
      refine List.map_congr_left fun z hz => ?_
      rw [(g2 z).1 hz, res_at hy hw (outer_stays hy st hq hz)]
end Lb
set_option Elab.async false
set_option linter.all false
set_option maxRecDepth 100000
set_option maxHeartbeats 4000000
namespace Lb
open PySem Da
theorem meets_iff {v : Gn} {ls : List (Str × Int)} : meetsB v ls = true ↔ ∀ l ∈ ls, (v l.1).getD 0 = l.2 := by
  unfold meetsB
  rw [List.all_eq_true]
  exact ⟨fun h l hl => of_decide_eq_true (h l hl), fun h l hl => decide_eq_true (h l hl)⟩
/-- a lot holds one of some lots -/
def holdsOneB (l : List Nat) (ls : List (List Nat)) : Bool := ls.any fun o => withinL o l
/-- all looks of a world; those at wires that stay -/
def allLk (y : Wk) (vs : List Int) : List (Str × Int) := (y.1.map (·.1)).zip vs
def stayLk (y : Wk) (ss : List Stg) (vs : List Int) : List (Str × Int) := (allLk y vs).filter fun q => decide (q.1 ∈ (closedW y ss).1.map (·.1))
theorem allLk_at {y : Wk} (hy : OkWk y) {vs : List Int} (hv : InW (mans y) vs) {l : Str × Int} (h : l ∈ allLk y vs) : vG y vs l.1 = some l.2 ∧ l.1 ∈ y.1.map (·.1) := by
  obtain ⟨i, hi, e⟩ := List.mem_iff_getElem.mp h
  have hg : (allLk y vs)[i]? = some l := by rw [List.getElem?_eq_getElem hi, e]
  obtain ⟨h1, h2⟩ := List.getElem?_zip_eq_some.mp hg
  rw [List.getElem?_map] at h1
  cases hq : y.1[i]? with
  | none =>
    rw [hq] at h1
    cases h1
  | some q =>
    rw [hq] at h1
    have e1 : q.1 = l.1 := Option.some.inj h1
    rw [← e1]
    exact ⟨vG_at hy.ws.nd (by rw [hv.len, List.length_map]) hq h2, List.mem_map.mpr ⟨q, List.mem_of_getElem? hq, rfl⟩⟩
theorem own_meets {y : Wk} (hy : OkWk y) {vs : List Int} (hv : InW (mans y) vs) {ls : List (Str × Int)} (h : ∀ l ∈ ls, l ∈ allLk y vs) : meetsB (vG y vs) ls = true := meets_iff.mpr fun l hl => by
  rw [(allLk_at hy hv (h l hl)).1]
  rfl
theorem closed_has {y : Wk} (hy : OkWk y) {ss : List Stg} (st : OkStgs y ss) {vs w : List Int} (hw : InW (mans y) w) (hm : ∀ l ∈ stayLk y ss vs, (vG y w l.1).getD 0 = l.2) : holdsOneB (lotC y ss (restL y.2.length (soundL y w))) (brokenL (closedW y ss) (stayLk y ss vs)) = true := by
  obtain ⟨o, h1, h2⟩ := broken_has (ls := stayLk y ss vs) (res_in hy (ss := ss) hw) (meets_iff.mpr fun l hl => by
    have hs := of_decide_eq_true (List.mem_filter.mp hl).2
    rw [res_at hy hw hs]
    exact hm l hl)
  refine List.any_eq_true.mpr ⟨o, h1, within_iff.mpr fun k hk => ?_⟩
  obtain ⟨k1, k2⟩ := restL_mem.mp (within_iff.mp h2 k hk)
  have k1' : k < (holdersL y ss).length := by
    have : (closedW y ss).2.length = (holdersL y ss).length := List.length_map ..
    omega
  have hg := List.getElem?_eq_getElem k1'
  refine lotC_mem.mpr ⟨_, hg, ?_⟩
  refine Classical.byContradiction fun hn => k2 (closed_sound hy st hw hg fun p hp => ?_)
  have hpn : p < y.2.length := by
    rcases holders_mem (List.mem_of_getElem? hg) with ⟨q, e, hq, _⟩ | ⟨q, hq, e⟩
    · rw [e] at hp
      rw [List.mem_singleton.mp hp]
      exact hq
    · rw [← e] at hp
      exact (st.lot q hq).lot.lt p hp
  refine Classical.byContradiction fun hs => hn ⟨p, hp, restL_mem.mpr ⟨hpn, hs⟩⟩
theorem right_outer {y : Wk} (hy : OkWk y) {ss : List Stg} (st : OkStgs y ss) {vs : List Int} (hv : InW (mans y) vs) : holdsOneB (lotC y ss (restL y.2.length (soundL y vs))) (brokenL (closedW y ss) (stayLk y ss vs)) = true :=
  closed_has hy st hv fun l hl => meets_iff.mp (own_meets hy hv (ls := stayLk y ss vs) fun l hl => (List.mem_filter.mp hl).1) l hl
theorem right_rest {y : Wk} (hy : OkWk y) {vs : List Int} (hv : InW (mans y) vs) {ls : List (Str × Int)} (h : ∀ l ∈ ls, l ∈ allLk y vs) : holdsOneB (restL y.2.length (soundL y vs)) (brokenL y ls) = true := by
  obtain ⟨o, h1, h2⟩ := broken_has hv (own_meets hy hv h)
  exact List.any_eq_true.mpr ⟨o, h1, h2⟩
theorem right_ahead {y : Wk} {ls ls' : List (Str × Int)} (h : ∀ l ∈ ls, l ∈ ls') {lot : List Nat} (hl : lot ∈ brokenL y ls') : holdsOneB lot (brokenL y ls) = true := by
  obtain ⟨w, hw, hm, rfl⟩ := broken_of hl
  obtain ⟨o, h1, h2⟩ := broken_has hw (meets_iff.mpr fun l hl => meets_iff.mp hm l (h l hl))
  exact List.any_eq_true.mpr ⟨o, h1, h2⟩
theorem right_closed {y : Wk} (hy : OkWk y) {ss : List Stg} (st : OkStgs y ss) {vs : List Int} {ls : List (Str × Int)} (h : ∀ l ∈ stayLk y ss vs, l ∈ ls) {lot : List Nat} (hl : lot ∈ brokenL y ls) : holdsOneB (lotC y ss lot) (brokenL (closedW y ss) (stayLk y ss vs)) = true := by
  obtain ⟨w, hw, hm, rfl⟩ := broken_of hl
  exact closed_has hy st hw fun l hl => meets_iff.mp hm l (h l hl)
theorem right_all {y : Wk} (hy : OkWk y) {vs : List Int} (hv : InW (mans y) vs) {ls : List (Str × Int)} (h : ∀ l ∈ ls, l ∈ allLk y vs) (h' : ∀ l ∈ allLk y vs, l ∈ ls) : brokenL y ls = [restL y.2.length (soundL y vs)] := by
  refine broken_one hv fun w hw => ⟨fun hm => ?_, fun e => by rw [e]; exact own_meets hy hv h⟩
  have hl : w.length = vs.length := by rw [hw.len, hv.len]
  refine List.ext_getElem? fun i => ?_
  by_cases hi : i < vs.length
  · have hiy : i < y.1.length := by
      have := hv.len
      rw [List.length_map] at this
      omega
    have hq := List.getElem?_eq_getElem hiy
    have e1 := List.getElem?_eq_getElem (l := vs) hi
    have e2 := List.getElem?_eq_getElem (l := w) (by omega : i < w.length)
    have hm' := meets_iff.mp hm (y.1[i].1, vs[i]) (h' _ (List.mem_of_getElem? (i := i) (List.getElem?_zip_eq_some.mpr ⟨by rw [List.getElem?_map, hq]; rfl, e1⟩)))
    have e3 := vG_at hy.ws.nd (by rw [hw.len, List.length_map]) hq e2
    have e4 : (vG y w y.1[i].1).getD 0 = vs[i] := hm'
    rw [e3] at e4
    have e5 : w[i] = vs[i] := e4
    rw [e1, e2, e5]
  · rw [List.getElem?_eq_none (by omega), List.getElem?_eq_none (by omega)]
end Lb
set_option Elab.async false
set_option linter.all false
set_option maxRecDepth 100000
set_option maxHeartbeats 4000000
namespace Lb
open PySem Da
theorem foldl_from (l : List Nat) (a : Nat) : l.foldl (· * ·) a = a * l.foldl (· * ·) 1 := by
  induction l generalizing a with
  | nil => simp
  | cons m l ih =>
    rw [List.foldl_cons, List.foldl_cons, ih, ih (1 * m), Nat.one_mul, Nat.mul_assoc]
theorem prod_sub {l' l : List Nat} (h : l'.Sublist l) (h1 : ∀ m ∈ l, 1 ≤ m) : l'.foldl (· * ·) 1 ≤ l.foldl (· * ·) 1 := by
  induction h with
  | slnil => exact Nat.le_refl _
  | cons a s ih =>
    rename_i l1 l2
    rw [List.foldl_cons, foldl_from l2 (1 * a), Nat.one_mul]
    have h2 := ih fun m hm => h1 m (List.mem_cons_of_mem _ hm)
    have h3 := h1 a (List.mem_cons_self ..)
    exact Nat.le_trans h2 (Nat.le_mul_of_pos_left _ h3)
  | cons_cons a s ih =>
    rename_i l1 l2
    rw [List.foldl_cons, List.foldl_cons, foldl_from l1 (1 * a), foldl_from l2 (1 * a)]
    exact Nat.mul_le_mul_left _ (ih fun m hm => h1 m (List.mem_cons_of_mem _ hm))
/-! ### the rows of a stage rise -/
abbrev rowOf (ns : List Str) (g : Gn) : List Int := ns.map fun z => (g z).getD 0
theorem lex_last : ∀ (r : List Int) {v v' : Int}, v < v' → HT.lexLt (r ++ [v]) (r ++ [v']) = true
  | [], v, v', h => by
    show (if v = v' then _ else decide (v < v')) = true
    rw [if_neg (by omega)]
    exact decide_eq_true h
  | x :: r, v, v', h => by
    show (if x = x then HT.lexLt (r ++ [v]) (r ++ [v']) else _) = true
    rw [if_pos rfl]
    exact lex_last r h
theorem lex_app : ∀ {r r' : List Int} {v v' : Int}, r.length = r'.length → HT.lexLt r r' = true → HT.lexLt (r ++ [v]) (r' ++ [v']) = true
  | [], [], _, _, _, h => by cases h
  | [], _ :: _, _, _, hl, _ => by cases hl
  | _ :: _, [], _, _, hl, _ => by cases hl
  | x :: r, x' :: r', v, v', hl, h => by
    have h' : (if x = x' then HT.lexLt r r' else decide (x < x')) = true := h
    show (if x = x' then HT.lexLt (r ++ [v]) (r' ++ [v']) else decide (x < x')) = true
    by_cases e : x = x'
    · rw [if_pos e] at h' ⊢
      exact lex_app (by simpa using hl) h'
    · rw [if_neg e] at h' ⊢
      exact h'
theorem row_more {l : List Str} {z : Str} (hz : z ∉ l) (g : Gn) (v : Int) : rowOf (l ++ [z]) (upG g z v) = rowOf l g ++ [v] := by
  show (l ++ [z]).map _ = _
  rw [List.map_append]
  congr 1
  · exact List.map_congr_left fun x hx => by rw [upG_ne fun e => hz (by rw [← e]; exact hx)]
  · show [((upG g z v z).getD 0)] = [v]
    rw [upG_same]
    rfl
theorem rows_step {y : Wk} {l : List Str} {z : Str} (hz : z ∉ l) : ∀ {gs : List Gn}, (gs.map (rowOf l)).Pairwise (fun a b => HT.lexLt a b = true) → ((stepG y gs z).map (rowOf (l ++ [z]))).Pairwise fun a b => HT.lexLt a b = true
  | [], _ => List.Pairwise.nil
  | g :: gs, h => by
    rw [List.map_cons, List.pairwise_cons] at h
    have ih := rows_step (y := y) hz h.2
    unfold stepG at ih ⊢
    rw [List.flatMap_cons, List.map_append, List.pairwise_append]
    refine ⟨?_, ih, ?_⟩
    · rw [List.map_map, List.pairwise_map]
      refine List.Pairwise.imp ?_ (List.pairwise_lt_range (n := mN y z))
      intro a b hab
      show HT.lexLt (rowOf (l ++ [z]) (upG g z (a : Int))) (rowOf (l ++ [z]) (upG g z (b : Int))) = true
      rw [row_more hz, row_more hz]
      exact lex_last _ (by omega)
    · intro a ha b hb
      rw [List.map_map] at ha
      obtain ⟨i, _, rfl⟩ := List.mem_map.mp ha
      obtain ⟨gb, hgb, rfl⟩ := List.mem_map.mp hb
      obtain ⟨g', hg', hv⟩ := List.mem_flatMap.mp hgb
      obtain ⟨j, _, rfl⟩ := List.mem_map.mp hv
      show HT.lexLt (rowOf (l ++ [z]) (upG g z (i : Int))) (rowOf (l ++ [z]) (upG g' z (j : Int))) = true
      rw [row_more hz, row_more hz]
      exact lex_app (by simp) (h.1 _ (List.mem_map.mpr ⟨g', hg', rfl⟩))
theorem rows_up {y : Wk} : ∀ (n : Nat) {ns : List Str}, ns.length = n → ns.Nodup → ((fillL y ns).map (rowOf ns)).Pairwise fun a b => HT.lexLt a b = true
  | 0, ns, h, _ => by
    have e : ns = [] := List.eq_nil_of_length_eq_zero h
    subst e
    exact List.pairwise_singleton _ _
  | n + 1, ns, h, nd => by
    have hne : ns ≠ [] := fun e => by rw [e] at h; cases h
    obtain ⟨l, z, rfl⟩ : ∃ l z, ns = l ++ [z] := ⟨_, _, (List.dropLast_concat_getLast hne).symm⟩
    obtain ⟨k1, _, k3⟩ := List.nodup_append.mp nd
    rw [fillL_more]
    exact rows_step (fun hm => k3 z hm z (List.mem_singleton.mpr rfl) rfl) (rows_up n (by simpa using h) k1)
theorem zip_lex : ∀ {rs : List (List Int)}, rs.Pairwise (fun a b => HT.lexLt a b = true) → ((rs.zip (rs.drop 1)).all fun q => HT.lexLt q.1 q.2) = true
  | [], _ => rfl
  | [_], _ => rfl
  | a :: b :: r, h => by
    have h1 := List.pairwise_cons.mp h
    have ih := zip_lex h1.2
    show (HT.lexLt a b && ((b :: r).zip ((b :: r).drop 1)).all _) = true
    rw [ih, h1.1 b (List.mem_cons_self ..)]
    rfl
theorem wiresL_sub (y : Wk) (l : List Nat) : (wiresL y l).Sublist (y.1.map (·.1)) := by
  unfold wiresL
  exact List.Sublist.map _ List.filter_sublist
theorem stage_ok {y : Wk} (hy : OkWk y) {ss : List Stg} (st : OkStgs y ss) (op : shutB y ss = false) {q : Stg} (hq : q ∈ ss) : OkRows ((closedW y ss).1.map (·.1)) (outerL y q.2 (innerL y q.2)) (stageRows y (tiesL y q.2) (outerL y q.2 (innerL y q.2)) (innerL y q.2)) := by
  have osub : (outerL y q.2 (innerL y q.2)).Sublist (y.1.map (·.1)) := by
    unfold outerL
    exact List.filter_sublist.trans (wiresL_sub y q.2)
  have h8 : (outerL y q.2 (innerL y q.2)).length ≤ 8 := by
    have h1 := osub.length_le
    have h2 := hy.ws.hi
    rw [List.length_map] at h1
    omega
  have ond : (outerL y q.2 (innerL y q.2)).Nodup := hy.ws.nd.sublist osub
  refine ⟨⟨?_, h8, fun z hz => outer_stays hy st hq hz, ond⟩, ?_, fun r hr => ?_, fun r hr v hv => ?_, ?_⟩
  · refine List.length_pos_iff.mpr fun e => ?_
    have hne : innerL y q.2 ≠ wiresL y q.2 := by
      have := List.any_eq_false.mp op q hq
      simpa using this
    refine hne ?_
    unfold innerL
    refine List.filter_eq_self.mpr fun z hz => ?_
    have hi : z ∈ innerL y q.2 := Classical.byContradiction fun hn => by
      have : z ∈ outerL y q.2 (innerL y q.2) := outerL_mem.mpr ⟨hz, hn⟩
      rw [e] at this
      cases this
    have := (innerL_mem.mp hi).2
    simpa using this
  · unfold stageRows
    rw [List.length_map]
    refine Nat.lt_of_le_of_lt (List.length_filter_le _ _) ?_
    have h1 := fillL_len hy _ (l := outerL y q.2 (innerL y q.2)) rfl fun z hz => osub.subset hz
    have h2 : 4 ^ (outerL y q.2 (innerL y q.2)).length ≤ 4 ^ 8 := Nat.pow_le_pow_right (by decide) h8
    have h3 : (4 : Nat) ^ 8 = 65536 := by decide
    omega
  · unfold stageRows at hr
    obtain ⟨g, _, rfl⟩ := List.mem_map.mp hr
    rw [List.length_map]
  · unfold stageRows at hr
    obtain ⟨g, hg, rfl⟩ := List.mem_map.mp hr
    obtain ⟨z, hz, rfl⟩ := List.mem_map.mp hv
    obtain ⟨u, h1, h2⟩ := (fillL_dom (List.mem_filter.mp hg).1 z).1 hz
    have h4 := (mN_at hy (osub.subset hz)).2.1
    rw [h1]
    show (0 : Int) ≤ (u : Int) ∧ (u : Int) ≤ 3
    omega
  · refine zip_lex ?_
    unfold stageRows
    exact (rows_up _ rfl ond).sublist (List.Sublist.map _ List.filter_sublist)
theorem okTie_sub {names names' : List Str} {t : Tie} (h : OkTie names t) (hn : ∀ z ∈ namesT t, z ∈ names') : OkTie names' t := by
  cases t with
  | fixed o n => exact ⟨hn o (List.mem_singleton.mpr rfl), h.2⟩
  | op wd ns => exact ⟨h.1, hn⟩
  | rows ws rs =>
    have h' : OkRows names ws rs := h
    exact (⟨⟨h'.li.lo, h'.li.hi, hn, h'.li.nd⟩, h'.few, h'.len, h'.val, h'.up⟩ : OkRows names' ws rs)
theorem holders_perm (y : Wk) (ss : List Stg) : (holdersL y ss).Perm ((((List.range y.2.length).filter fun p => !decide (p ∈ withinStg ss)).map fun p => [p]) ++ ss.map (·.2)) := List.mergeSort_perm ..
theorem heads_le : ∀ {ss : List Stg}, (∀ q ∈ ss, q.2 ≠ []) → ss.length ≤ (withinStg ss).length
  | [], _ => Nat.le_refl _
  | a :: r, h => by
    have ih := heads_le (ss := r) fun q hq => h q (List.mem_cons_of_mem _ hq)
    have h1 := List.length_pos_iff.mpr (h a (List.mem_cons_self ..))
    unfold withinStg at ih ⊢
    rw [List.flatMap_cons, List.length_append, List.length_cons]
    omega
theorem holders_le {y : Wk} {ss : List Stg} (st : OkStgs y ss) : (holdersL y ss).length ≤ y.2.length := by
  rw [(holders_perm y ss).length_eq, List.length_append, List.length_map, List.length_map]
  have h1 := heads_le fun q hq => (st.lot q hq).ne
  have h2 : (((List.range y.2.length).filter fun p => !decide (p ∈ withinStg ss)) ++ withinStg ss).Nodup := by
    rw [List.nodup_append]
    refine ⟨List.nodup_range.sublist List.filter_sublist, st.dis, fun a ha b hb e => ?_⟩
    subst e
    have := (List.mem_filter.mp ha).2
    rw [decide_eq_true hb] at this
    cases this
  have h3 := h2.length_le_of_subset (l₂ := List.range y.2.length) fun p hp => by
    rcases List.mem_append.mp hp with h | h
    · exact (List.mem_filter.mp h).1
    · obtain ⟨q, hq, hpq⟩ := within_mem.mp h
      exact List.mem_range.mpr ((st.lot q hq).lot.lt p hpq)
  rw [List.length_append, List.length_range] at h3
  omega
theorem part_names {y : Wk} (hy : OkWk y) {ss : List Stg} (st : OkStgs y ss) : ((closedW y ss).2.map (·.1)).Nodup := by
  show (((holdersL y ss).map (partOf y ss)).map (·.1)).Nodup
  have hp := ((holders_perm y ss).map (partOf y ss)).map (fun q : Str × List Tie => q.1)
  refine hp.nodup_iff.mpr ?_
  rw [List.map_append, List.map_append, List.map_map, List.map_map, List.map_map, List.map_map, List.nodup_append]
  have alone : ∀ p ∈ (List.range y.2.length).filter fun p => !decide (p ∈ withinStg ss), ∃ q, y.2[p]? = some q ∧ partOf y ss [p] = q := fun p hp => by
    obtain ⟨h1, h2⟩ := List.mem_filter.mp hp
    have hg := List.getElem?_eq_getElem (List.mem_range.mp h1)
    exact ⟨_, hg, partOf_alone hg (by simpa using h2)⟩
  refine ⟨?_, ?_, ?_⟩
  · show List.Pairwise (· ≠ ·) _
    rw [List.pairwise_map]
    refine List.Pairwise.imp_of_mem ?_ (List.nodup_range.sublist List.filter_sublist)
    intro a b ha hb hab e
    obtain ⟨qa, a1, a2⟩ := alone a ha
    obtain ⟨qb, b1, b2⟩ := alone b hb
    have e' : (partOf y ss [a]).1 = (partOf y ss [b]).1 := e
    rw [a2, b2] at e'
    refine hab ((List.getElem?_inj (l := y.2.map (·.1)) ?_ hy.ps.nd).mp ?_)
    · rw [List.length_map]
      exact (List.getElem?_eq_some_iff.mp a1).1
    · rw [List.getElem?_map, List.getElem?_map, a1, b1]
      exact congrArg some e'
  · have e : ss.map (((fun q : Str × List Tie => q.1) ∘ partOf y ss) ∘ fun x : Stg => x.2) = ss.map (·.1) := List.map_congr_left fun q hq => by
      show (partOf y ss q.2).1 = q.1
      rw [partOf_stage st hq]
    rw [e]
    exact st.nd
  · intro a ha b hb e
    obtain ⟨p, hp, rfl⟩ := List.mem_map.mp ha
    obtain ⟨q, hq, rfl⟩ := List.mem_map.mp hb
    obtain ⟨qp, p1, p2⟩ := alone p hp
    have e' : (partOf y ss [p]).1 = (partOf y ss q.2).1 := e
    rw [p2, partOf_stage st hq] at e'
    exact st.apart q hq (List.mem_map.mpr ⟨qp, List.mem_of_getElem? p1, e'⟩)
/-- the closed work is a work -/
theorem closed_ok_wk {y : Wk} (hy : OkWk y) {ss : List Stg} (st : OkStgs y ss) (op : shutB y ss = false) : OkWk (closedW y ss) := by
  have wsub : (closedW y ss).1.Sublist y.1 := List.filter_sublist
  have names : ∀ z ∈ (closedW y ss).1.map (·.1), OkName z := fun z hz => by
    obtain ⟨q, hq, rfl⟩ := List.mem_map.mp hz
    exact (hy.ws.each q (wsub.subset hq)).name
  refine ⟨⟨?_, Nat.le_trans wsub.length_le hy.ws.hi, fun q hq => hy.ws.each q (wsub.subset hq), closed_nd hy ss, ?_⟩, ⟨?_, fun q hq => ?_, part_names hy st, fun q hq t ht => ?_⟩⟩
  · have hex : ∃ q, q ∈ (closedW y ss).1 := by
      cases hs : ss with
      | nil =>
        obtain ⟨q, hq⟩ := List.exists_mem_of_length_pos hy.ws.lo
        exact ⟨q, stay_wire.mpr ⟨hq, fun h => by obtain ⟨_, h, _⟩ := goneL_mem.mp h; cases h⟩⟩
      | cons a r =>
        have ha : a ∈ ss := by rw [hs]; exact List.mem_cons_self ..
        obtain ⟨z, hz⟩ := List.exists_mem_of_length_pos (stage_ok hy st op ha).li.lo
        obtain ⟨q, hq, _⟩ := List.mem_map.mp (outer_stays hy st ha hz)
        exact ⟨q, hs ▸ hq⟩
    obtain ⟨q, hq⟩ := hex
    exact List.length_pos_iff.mpr fun e => by rw [e] at hq; cases hq
  · have h1 := prod_sub (wsub.map (·.2)) fun m hm => by
      obtain ⟨q, hq, rfl⟩ := List.mem_map.mp hm
      have := (hy.ws.each q hq).lo
      omega
    have h2 := hy.ws.few
    unfold prodI at h2 ⊢
    omega
  · show ((holdersL y ss).map (partOf y ss)).length ≤ 7
    rw [List.length_map]
    exact Nat.le_trans (holders_le st) hy.ps.hi
  · obtain ⟨h, hh, rfl⟩ := List.mem_map.mp hq
    rcases holders_mem hh with ⟨p, rfl, hp, hpw⟩ | ⟨g, hg, rfl⟩
    · have hg := List.getElem?_eq_getElem hp
      rw [partOf_alone hg hpw]
      exact hy.ps.each _ (List.mem_of_getElem? hg)
    · rw [partOf_stage st hg]
      exact ⟨st.name g hg, Nat.le_refl 1, by show 1 ≤ 24; decide⟩
  · have ok : OkTie ((closedW y ss).1.map (·.1)) t := by
      obtain ⟨h, hh, rfl⟩ := List.mem_map.mp hq
      rcases holders_mem hh with ⟨p, rfl, hp, hpw⟩ | ⟨g, hg, rfl⟩
      · have hg := List.getElem?_eq_getElem hp
        rw [partOf_alone hg hpw] at ht
        have ht' : t ∈ tiesAt y p := by rw [tiesAt_at hg]; exact ht
        exact okTie_sub (tiesAt_ok hy ht').2 fun z hz => alone_stays hy hpw ht' hz
      · rw [partOf_stage st hg] at ht
        have e : t = stageT y g.2 (innerL y g.2) := List.mem_singleton.mp ht
        subst e
        exact stage_ok hy st op hg
    exact ⟨ok, nice_of names ok⟩
end Lb
set_option Elab.async false
set_option linter.all false
set_option maxRecDepth 100000
set_option maxHeartbeats 4000000
namespace Lb
open PySem Da
theorem menuS_ok : ∀ z ∈ menuS, OkName z := fun z hz => okName_of ((List.all_eq_true (p := fun z : Str => (decide (1 ≤ z.length) && decide (z.length ≤ 6) && z.cps.toList.all fun c => decide (c ∈ letters)))).mp (by decide +kernel : menuS.all _ = true) z hz)
theorem menuS_nd : menuS.Nodup := by decide +kernel
theorem menus_apart : ∀ z ∈ menuS, z ∉ menuB := by decide +kernel
theorem bound_ok {ws : List (Str × Nat)} {ps : List (Str × List Tie)} (hw : Wired ws) (hb : Bound (ws.map (·.1)) ps) : OkWk (ws, ps) := by
  have h5 := hb.five
  refine ⟨hw.ok, ⟨by show ps.length ≤ 7; omega, fun q hq => ⟨menuB_ok _ (hb.inn q hq), (hb.ties q hq).1, by have := (hb.ties q hq).2.1; omega⟩, hb.nd, fun q hq t ht => ?_⟩⟩
  have ot := (hb.ties q hq).2.2 t ht
  exact ⟨ot, nice_of (fun z hz => by
    obtain ⟨r, hr, rfl⟩ := List.mem_map.mp hz
    exact (hw.ok.each r hr).name) ot⟩
theorem staged_ok {ws : List (Str × Nat)} {ps : List (Str × List Tie)} {ss : List Stg} (hb : Bound (ws.map (·.1)) ps) (hs : Staged ps.length ss) : OkStgs (ws, ps) ss := by
  have h5 := hb.five
  have hl : ss.length ≤ 3 := by
    have := hs.names.length_le
    rw [List.length_map] at this
    exact this
  have hw : (withinStg ss).length ≤ ps.length := by
    have h := hs.dis.length_le_of_subset (l₂ := List.range ps.length) fun p hp => List.mem_range.mpr (hs.lt p hp)
    rw [List.length_range] at h
    exact h
  have nm : ∀ q ∈ ss, q.1 ∈ menuS := fun q hq => hs.names.subset (List.mem_map.mpr ⟨q, hq, rfl⟩)
  refine ⟨by omega, fun q hq => menuS_ok _ (nm q hq), hs.lot, menuS_nd.sublist hs.names, hs.dis, fun q hq hm => ?_, by omega⟩
  obtain ⟨r, hr, e⟩ := List.mem_map.mp hm
  have hr' : r ∈ ps := hr
  exact menus_apart _ (nm q hq) (by rw [← e]; exact hb.inn r hr')
theorem shut_ok {ws : List (Str × Nat)} {ps : List (Str × List Tie)} {ss : List Stg} (hw : Wired ws) (hb : Bound (ws.map (·.1)) ps) (hs : Staged ps.length ss) : OkShut ((ws, ps), ss) :=
  ⟨bound_ok hw hb, staged_ok hb hs, closed_ok_wk (bound_ok hw hb) (staged_ok hb hs)⟩
/-- the one part that is bound where none is drawn -/
theorem bound_p {names : List Str} {z : Str} (hz : z ∈ names) : Bound names [("p", [.fixed z 1])] := by
  refine ⟨Nat.le_of_ble_eq_true rfl, List.nodup_cons.mpr ⟨(fun h => nomatch h), List.nodup_nil⟩, fun q hq => ?_, fun q hq => ?_⟩
  · rw [List.mem_singleton.mp hq]
    show ("p" : Str) ∈ menuB
    decide +kernel
  · rw [List.mem_singleton.mp hq]
    exact ⟨Nat.le_refl 1, Nat.le_of_ble_eq_true rfl, fun t ht => by rw [List.mem_singleton.mp ht]; exact ⟨hz, by decide, by decide⟩⟩
end Lb
set_option Elab.async false
set_option linter.all false
set_option maxRecDepth 100000
set_option maxHeartbeats 4000000
namespace Da
open PySem PySem.Spec PyProof.Rows L2
section
variable {X : Cx} {ρ : Slots} {N : Slots → Prop} {R : As → Prop} {k : Nat} {f C : Addr} {fd : FuncData} {ps : List Str} {sp : Sp} {dvs : List V} {ds : List Value} {x a b c : Str} {p1 p2 p3 p4 p5 p6 p7 p8 p9 p10 : Pos} {j : Nat} {P0 P1 Res : As} {bad : Bool}
/-- try: return x(a, b) .. except c: return None -/
theorem ds_tryCall (G : FnOk X.prog X.w X.K X.mg X.base (L2.CX X.prog X.w) k f fd ps sp) (hr : Room k X.A) (hm : X.mg x = some (.ref f)) (kp : PySem.W.keepIn X.K (.ref f) = true) (hb : Binds X.K fd ps ds) (hv : Vals dvs ds) (hC : X.mg c = some (.ref C)) (hX : PySem.W.exmOne X.K (.ref C) (.ref C) = some true)
    (h0 : ρ[0]? = some (.v P0)) (h1 : ρ[1]? = some (.v P1)) (spec : ∀ pl H Hc v0 v1 (Q : VK) (E : XK), Gd pl H Hc → P0.is pl Hc v0 → P1.is pl Hc v1 → (bad = false → Out pl H Hc Res Q) → (bad = true → ∀ d H' Hc', Stp pl H Hc H' Hc' → E (.ref C) d H') → sp ([v0, v1] ++ dvs) H Q E)
    (hR : bad = false → R Res) (hR' : bad = true → R aNon) (hs : X.stack = X.env :: X.outer := by rfl) (hf : X.env.frame = some X.env.locals := by rfl) (hg : Gl X x := by rfl) (hgc : Gl X c := by rfl) (hdc : (c == ("__debug__" : Str)) = false := by decide) (hdx : (x == ("__debug__" : Str)) = false := by decide)
    (n0 : X.N[0]? = some a := by rfl) (n1 : X.N[1]? = some b := by rfl) (v0 : Vis X.env.scope a := by first | exact Or.inl rfl | exact Or.inr (Or.inl rfl)) (v1 : Vis X.env.scope b := by first | exact Or.inl rfl | exact Or.inr (Or.inl rfl)) (da : (a == ("__debug__" : Str)) = false := by decide) (db : (b == ("__debug__" : Str)) = false := by decide) (ca : (a == ("__classdict__" : Str)) = false := by decide) (cb : (b == ("__classdict__" : Str)) = false := by decide) :
    Ds X [.Try [.Return (some (.Call (.Name x p1) [.Name a p2, .Name b p3] [] p4)) p5] [.ExceptHandler (some (.Name c p6)) none [.Return (some (.Constant .none j p7)) p8] p9] [] [] p10] ρ N R := fun pl H0 Hc0 σ H1 D ⟨Hc, st⟩ hn hrr => by
  refine tSs_of (pss_one (ps_try_only (c := .ref C) (tb := fun W D σ H => tCallSD sp dvs (WE W) (tCons (tVar 0) (tCons (tVar 1) tNil)) σ H D.rt) (ts := fun _ _ _ D _ H => D.rt .non H) (Wout := fun _ _ _ _ => False) hs hf ⟨hgc, hdc, .inl hC⟩ (fun _ _ x => by obtain ⟨_, _, _, _, _, _, _, _, _, _, _, _, _, _, _, _, z⟩ := x; exact z.elim)
    (fun W pn xe tk _ => pss_one (ps_ret (pe_callSD (X := X.tr pn xe) G hr hg hm kp hb hv (fun σ => passAt tk σ) (pa_cons (pe_var n0 v0 da ca) (pa_cons (pe_var n1 v1 db cb) pa_nil)) hdx)))
    (fun a oe cls d pn _ _ => pss_one (ps_ret pe_non)))) ?_
  obtain ⟨v0, e0, k0⟩ := st.val 0 _ h0
  obtain ⟨v1, e1, k1⟩ := st.val 1 _ h1
  refine ⟨v0, e0, v1, e1, spec pl H1 Hc v0 v1 _ _ st.stp.gd k0 k1 (fun hs v H' Hc' t hvv => hrr Res v H' Hc' (hR hs) (st.stp.trans t) hvv) fun hs d H' Hc' t => ⟨true, hX, fun _ a _ => hrr aNon .non H' Hc' (hR' hs) (st.stp.trans t) rfl, fun e => nomatch e⟩⟩
end
end Da
namespace Lb
open PySem PySem.Spec PyProof.Rows L2 Da PySem.W
section
variable {P : Program} {w : World} {K : PySem.W.Frag} {mg : Str → Option Value} {base : Heap}
theorem scLawShut : FnScope ["_law_work", "_law_some"] ["_law_work", "_law_some"] (defScope sLawShut) := ⟨rfl, rfl, rfl, by decide +kernel, rfl, by decide +kernel, by decide +kernel⟩
theorem _law_shut_ok (T : Txt w K mg) : Fok P w K mg base 11 "_law_shut" ["_law_work", "_law_some"] (spF (α := Wk × List Stg) (OkShut) (fun q => [aWk K q.1, aLst (q.2.map (aStg K))]) (fun q => if shutB q.1 q.2 = true then aNon else aWk K (closedW q.1 q.2))) := by
  refine fok_of T.f_LawShut T.g__law_shut scLawShut (fun _ => rfl) (fun _ F => F.bindsN fun _ _ _ _ _ _ us hl => match us, hl with | [_, _], _ => rfl) fun y hy cdv A outer s H E hr => ?_
  have hN := scLawShut.nd
  obtain ⟨fdc, Fc⟩ := T.f_Closed
  have G := closed_ok (P := P) (base := base) T Fc
  obtain ⟨ds, hv, hb⟩ := Fc.binds0 (ps := ["work", "stages", "seen"]) 2 (by simp [He.DefD.kws, dClosed]) rfl fun D doc pm an cdv ct us ks h1 h2 => match us, ks, h1, h2 with | [_, _], [_], _, _ => ⟨_, _, _, _, _, _, rfl, rfl, rfl⟩
  refine ds_tryCall (bad := shutB y.1 y.2) (Res := aWk K (closedW y.1 y.2)) G hr T.g_closed Fc.kp hb hv T.g_NoStages T.exm rfl rfl (fun pl H Hc v0 v1 Q E g k0 k1 hq he => ⟨pl, Hc, y, g, hy, .cons k0 (.cons k1 (.cons ⟨kwSeen K, [], rfl, T.seen Hc, .nil⟩ .nil)), hq, he⟩) (fun hs => Imp.of (by rw [if_neg (by rw [hs]; decide)])) fun hs => Imp.of (by rw [if_pos hs])
end
end Lb
set_option Elab.async false
set_option linter.all false
set_option maxRecDepth 100000
set_option maxHeartbeats 4000000
namespace Lb
open PySem PySem.Spec PyProof.Rows L2 Da PySem.W
abbrev intsD (r : List Int) : PyData := .list (r.map .int)
theorem ints_shaped (r : List Int) : SeqAt.shaped (intsD r) = true := shaped_of (by simp only [PyData.canLay0]; exact (rowD_lays r).1) (by simp only [PyData.depth, (rowD_lays r).2]; omega)
theorem eqv_intsL (r s : List Int) : PyData.eqv (intsD r) (intsD s) = decide (r = s) := by
  have h := rowD_eqv r s
  unfold PyData.eqv at h ⊢
  exact h
theorem eqv_rows : ∀ r s : List (List Int), PyData.eqvAll (r.map rowD) (s.map rowD) = decide (r = s)
  | [], [] => by simp [PyData.eqvAll]
  | [], b :: s => by simp [PyData.eqvAll]
  | a :: r, [] => by simp [PyData.eqvAll]
  | a :: r, b :: s => by
    rw [List.map_cons, List.map_cons, PyData.eqvAll, eqv_rows r s, rowD_eqv]
    by_cases h : a = b
    · subst h
      simp
    · simp [h]
theorem eqv_rowsL (r s : List (List Int)) : PyData.eqv (.list (r.map rowD)) (.list (s.map rowD)) = decide (r = s) := by
  unfold PyData.eqv
  exact eqv_rows r s
theorem lI_inj : ∀ {a b : List Nat}, lI a = lI b → a = b
  | [], [], _ => rfl
  | [], _ :: _, h => by cases h
  | _ :: _, [], h => by cases h
  | x :: a, y :: b, h => by
    have h1 := List.cons.inj h
    rw [Int.ofNat.inj h1.1, lI_inj h1.2]
theorem lots_eq {r s : List (List Nat)} : r.map lI = s.map lI ↔ r = s := by
  constructor
  · intro h
    induction r generalizing s with
    | nil =>
      cases s with
      | nil => rfl
      | cons b s => cases h
    | cons a r ih =>
      cases s with
      | nil => cases h
      | cons b s =>
        have h1 := List.cons.inj h
        rw [lI_inj h1.1, ih h1.2]
  · exact fun e => by rw [e]
section
variable {X : Cx} {ρ : Rho} {pos p : Pos} {a b : Expr} {k : Nat}
theorem lots_is {K : PySem.W.Frag} {ls : List (List Nat)} : IsD K (aLst (ls.map (aLot K))) (.list ((ls.map lI).map rowD)) := by
  rw [List.map_map]
  exact isd_lst fun _ _ => row_is
theorem dt_eqNilI {r : List Int} (hr : Room k X.A) (ha : De X a ρ (aLst (r.map aInt))) : Dt X (.Compare a [.Eq] [.List [] p] pos) ρ (decide (r = [])) :=
  (dt_cmp (op_eqD hr.units) (k := PyData.eqv (intsD r) (intsD [])) (opd_eqD (isd_lst fun _ _ => isd_int) (isd_lst (α := Int) (P := aInt) (xs := []) fun _ h => nomatch h) (ints_shaped r) (ints_shaped [])) ha (d_lst da_nil)).as (eqv_intsL r [])
theorem d_neNilL {ls : List (List Nat)} (hr : Room k X.A) (ha : De X a ρ (aLst (ls.map (aLot X.K)))) : De X (.Compare a [.NotEq] [.List [] p] pos) ρ (aBl (!decide (ls = []))) :=
  (d_cmp (op_neD hr.units) (opd_neD lots_is (lots_is (ls := [])) (rowsL_shaped _) (rowsL_shaped _)) ha (d_lst da_nil)).as (by
    rw [eqv_rowsL]
    congr 2
    exact decide_eq_decide.mpr lots_eq)
theorem d_eqLots {ls ms : List (List Nat)} (hr : Room k X.A) (ha : De X a ρ (aLst (ls.map (aLot X.K)))) (hb : De X b ρ (aLst (ms.map (aLot X.K)))) (hm : behindInMarks .Eq b = false := by first | exact nomark _ | rfl) : De X (.Compare a [.Eq] [b] pos) ρ (aBl (decide (ls = ms))) :=
  (d_cmp (op_eqD hr.units) (opd_eqD lots_is lots_is (rowsL_shaped _) (rowsL_shaped _)) ha hb hm).as (by
    rw [eqv_rowsL]
    congr 1
    exact decide_eq_decide.mpr lots_eq)
end
section
variable {P : Program} {w : World} {K : PySem.W.Frag} {mg : Str → Option Value} {base : Heap}
theorem scLawHoldsOne : FnScope ["_law_lot", "_law_lots", "_law_one", "_law_part"] ["_law_lot", "_law_lots"] (defScope sLawHoldsOne) := ⟨rfl, rfl, rfl, by decide +kernel, rfl, by decide +kernel, by decide +kernel⟩
theorem _law_holds_one_ok (T : Txt w K mg) : Fok P w K mg base 1 "_law_holds_one" ["_law_lot", "_law_lots"] (spF (α := List Nat × List (List Nat)) (fun q => q.2.length < 1000000 ∧ ∀ l ∈ q.2, l.length < 1000000) (fun q => [aLot K q.1, aLst (q.2.map (aLot K))]) (fun q => aBl (holdsOneB q.1 q.2))) := by
  refine fok_of T.f_LawHoldsOne T.g__law_holds_one scLawHoldsOne (fun _ => rfl) (fun _ F => F.bindsN fun _ _ _ _ _ _ us hl => match us, hl with | [_, _], _ => rfl) fun y hy cdv A outer s H E hr => ?_
  have hN := scLawHoldsOne.nd
  obtain ⟨l, ls⟩ := y
  obtain ⟨h1, h2⟩ := hy
  replace h1 : ls.length < 1000000 := h1
  replace h2 : ∀ l ∈ ls, l.length < 1000000 := h2
  refine ds_ret (d_neNilL hr (d_fil (xs := ls) (P := aLot K) (Ps := fun c => [aLot K c]) (b := fun c => decide (((lI c).filter fun p => !decide (p ∈ lI l)) = [])) (F := aLot K) [("_law_one", 2)] hN (blkOk_by (by kernel_rfl)) (di_list (d_v 1)) (fun _ _ _ _ _ c _ => dg_name 2 hN)
    (fun _ _ _ _ _ c hc => dt_eqNilI hr (d_fil (xs := lI c) (P := aInt) (Ps := fun p => [aInt p]) (b := fun p => !decide (p ∈ lI l)) (F := aInt) [("_law_part", 3)] hN (blkOk_by (by kernel_rfl)) (di_tup (d_v 2)) (fun _ _ _ _ _ p _ => dg_name 3 hN) (fun _ _ _ _ _ p _ => dt_ninIT (ks := lI l) (d_v 3) (d_v 0)) (fun _ _ _ _ _ p _ _ => d_v 3) (by rw [lI_len]; exact h2 c hc)))
    (fun _ _ _ _ _ c _ _ => d_v 2) h1)) (Imp.of ?_)
  congr 2
  unfold holdsOneB
  rw [Bool.eq_iff_iff, List.any_eq_true]
  simp only [Bool.not_eq_true', decide_eq_false_iff_not]
  constructor
  · intro hne
    obtain ⟨c, hc⟩ := List.exists_mem_of_ne_nil _ hne
    obtain ⟨c1, c2⟩ := List.mem_filter.mp hc
    refine ⟨c, c1, within_iff.mpr fun p hp => ?_⟩
    have c3 := List.filter_eq_nil_iff.mp (of_decide_eq_true c2) (p : Int) (lI_mem.mpr hp)
    exact lI_mem.mp (by simpa using c3)
  · rintro ⟨c, c1, c2⟩ hnil
    have hm : c ∈ ls.filter fun c => decide (((lI c).filter fun p => !decide (p ∈ lI l)) = []) := by
      refine List.mem_filter.mpr ⟨c1, decide_eq_true (List.filter_eq_nil_iff.mpr fun p hp => ?_)⟩
      obtain ⟨q, hq, rfl⟩ := List.mem_map.mp hp
      have := lI_mem.mpr (within_iff.mp c2 q hq)
      simpa using this
    rw [hnil] at hm
    cases hm
end
end Lb
set_option Elab.async false
set_option linter.all false
set_option maxRecDepth 100000
set_option maxHeartbeats 4000000
namespace Lb
open PySem Da
theorem in_okWorld {y : Wk} {vs : List Int} (h : InW (mans y) vs) : OkWorld y vs := by
  have hl : vs.length = y.1.length := by rw [h.len, List.length_map]
  refine ⟨hl, fun q hq => ?_⟩
  obtain ⟨i, hi, e⟩ := List.mem_iff_getElem.mp hq
  have hg : (vs.zip y.1)[i]? = some q := by rw [List.getElem?_eq_getElem hi, e]
  obtain ⟨h1, h2⟩ := List.getElem?_zip_eq_some.mp hg
  exact h.val i q.1 q.2.2 h1 (by rw [List.getElem?_map, h2]; rfl)
theorem all_worth {y : Wk} (hy : OkWk y) {vs : List Int} (hv : InW (mans y) vs) {l : Str × Int} (h : l ∈ allLk y vs) : OkWorth y l := by
  obtain ⟨h1, h2⟩ := allLk_at hy hv h
  obtain ⟨q, hq, e⟩ := List.mem_map.mp h2
  obtain ⟨v, k1, k2, k3⟩ := vG_in hy.ws.nd hv hq
  rw [e, h1] at k1
  have e2 : l.2 = v := Option.some.inj k1
  exact ⟨q.2, by rw [← e]; exact mG_nd hy.ws.nd hq, by omega, by omega⟩
theorem stay_worth {y : Wk} (hy : OkWk y) {ss : List Stg} {vs : List Int} (hv : InW (mans y) vs) {l : Str × Int} (h : l ∈ stayLk y ss vs) : OkWorth (closedW y ss) l := by
  obtain ⟨h1, h2⟩ := List.mem_filter.mp h
  obtain ⟨n, k1, k2⟩ := all_worth hy hv h1
  exact ⟨n, by rw [many_at hy (of_decide_eq_true h2)]; exact k1, k2⟩
/-- the looks behind i turns -/
def looksAt (y : Wk) (ss : List Stg) (vs : List Int) (i : Nat) : List (Str × Int) := stayLk y ss vs ++ ((allLk y vs).take i).filter fun q => !decide (q.1 ∈ (closedW y ss).1.map (·.1))
theorem looksAt_zero (y : Wk) (ss : List Stg) (vs : List Int) : looksAt y ss vs 0 = stayLk y ss vs := by
  unfold looksAt
  rw [List.take_zero, List.filter_nil, List.append_nil]
theorem takeM {α : Type} : ∀ {l : List α} {i : Nat} {x : α}, l[i]? = some x → l.take (i + 1) = l.take i ++ [x]
  | [], i, x, h => by simp at h
  | a :: l, 0, x, h => by
    have e : a = x := Option.some.inj h
    subst e
    rfl
  | a :: l, i + 1, x, h => congrArg (List.cons a) (takeM (l := l) (i := i) (x := x) h)
theorem looksAt_in {y : Wk} {ss : List Stg} {vs : List Int} {i : Nat} {q : Str × Int} (h : (allLk y vs)[i]? = some q) (hs : q.1 ∈ (closedW y ss).1.map (·.1)) : looksAt y ss vs (i + 1) = looksAt y ss vs i := by
  unfold looksAt
  rw [takeM h, List.filter_append, List.filter_cons, if_neg (by simp only [Bool.not_eq_true, Bool.not_eq_false']; exact decide_eq_true hs), List.filter_nil, List.append_nil]
theorem looksAt_more {y : Wk} {ss : List Stg} {vs : List Int} {i : Nat} {q : Str × Int} (h : (allLk y vs)[i]? = some q) (hs : q.1 ∉ (closedW y ss).1.map (·.1)) : looksAt y ss vs (i + 1) = looksAt y ss vs i ++ [q] := by
  unfold looksAt
  rw [takeM h, List.filter_append, List.filter_cons, if_pos (by rw [decide_eq_false hs]; rfl), List.filter_nil, List.append_assoc]
theorem looksAt_sub {y : Wk} {ss : List Stg} {vs : List Int} {i : Nat} : ∀ l ∈ looksAt y ss vs i, l ∈ allLk y vs := fun l hl => by
  rcases List.mem_append.mp hl with h | h
  · exact (List.mem_filter.mp h).1
  · exact List.mem_of_mem_take (List.mem_filter.mp h).1
theorem looksAt_stay {y : Wk} {ss : List Stg} {vs : List Int} {i : Nat} : ∀ l ∈ stayLk y ss vs, l ∈ looksAt y ss vs i := fun _ hl => List.mem_append_left _ hl
theorem looksAt_all {y : Wk} {ss : List Stg} {vs : List Int} : ∀ l ∈ allLk y vs, l ∈ looksAt y ss vs (allLk y vs).length := fun l hl => by
  unfold looksAt
  rw [List.take_length]
  by_cases h : l.1 ∈ (closedW y ss).1.map (·.1)
  · exact List.mem_append_left _ (List.mem_filter.mpr ⟨hl, decide_eq_true h⟩)
  · exact List.mem_append_right _ (List.mem_filter.mpr ⟨hl, by rw [decide_eq_false h]; rfl⟩)
theorem allLk_len {y : Wk} (hy : OkWk y) (vs : List Int) : (allLk y vs).length ≤ 8 := by
  unfold allLk
  rw [List.length_zip, List.length_map]
  have := hy.ws.hi
  omega
theorem stay_len {y : Wk} (hy : OkWk y) (ss : List Stg) (vs : List Int) : (stayLk y ss vs).length ≤ 8 := Nat.le_trans (List.length_filter_le _ _) (allLk_len hy vs)
theorem looksAt_len {y : Wk} (hy : OkWk y) (ss : List Stg) (vs : List Int) (i : Nat) : (looksAt y ss vs i).length ≤ 16 := by
  unfold looksAt
  rw [List.length_append]
  have h1 := stay_len hy ss vs
  have h2 := List.length_filter_le (fun q => !decide (q.1 ∈ (closedW y ss).1.map (·.1))) ((allLk y vs).take i)
  have h3 := allLk_len hy vs
  rw [List.length_take] at h2
  omega
theorem looksAt_ok {y : Wk} (hy : OkWk y) {ss : List Stg} {vs : List Int} (hv : InW (mans y) vs) (i : Nat) : OkLooks y (looksAt y ss vs i) := ⟨by have := looksAt_len hy ss vs i; omega, fun l hl => all_worth hy hv (looksAt_sub l hl)⟩
theorem stayLk_ok {y : Wk} (hy : OkWk y) {ss : List Stg} {vs : List Int} (hv : InW (mans y) vs) : OkLooks (closedW y ss) (stayLk y ss vs) := ⟨by have := stay_len hy ss vs; omega, fun l hl => stay_worth hy hv hl⟩
theorem rest_ok {n : Nat} (h : n < 1000) (l : List Nat) : OkLot n (restL n l) := by
  refine ⟨h, fun p hp => (restL_mem.mp hp).1, ?_, ?_⟩
  · unfold restL
    exact List.pairwise_lt_range.sublist List.filter_sublist
  · unfold restL
    exact Nat.lt_of_le_of_lt (List.length_filter_le _ _) (by rw [List.length_range]; exact h)
theorem broken_lot {y : Wk} (hy : OkWk y) {ls : List (Str × Int)} {l : List Nat} (h : l ∈ brokenL y ls) : OkLot y.2.length l := by
  obtain ⟨w, _, _, rfl⟩ := broken_of h
  have := hy.ps.hi
  exact rest_ok (by omega) _
theorem leastL_len (ls : List (List Nat)) : (leastL ls).length ≤ ls.length := by
  unfold leastL
  refine Nat.le_trans (leastF_len _) ?_
  show (ls.mergeSort _).length ≤ _
  rw [List.length_mergeSort]
  exact Nat.le_refl _
end Lb
set_option Elab.async false
set_option linter.all false
set_option maxRecDepth 100000
set_option maxHeartbeats 4000000
namespace Lb
open PySem PySem.Spec PyProof.Rows L2 Da PySem.W
theorem broken_few {y : Wk} (hy : OkWk y) (ls : List (Str × Int)) : (brokenL y ls).length < 1000000 := by
  unfold brokenL
  refine Nat.lt_of_le_of_lt (leastL_len _) ?_
  rw [List.length_map]
  have := seenL_len hy ls
  omega
/-- what is asked of a world -/
structure OkAskR (q : Wk × List Stg × List Int) : Prop where
  wk : OkWk q.1
  st : OkStgs q.1 q.2.1
  op : shutB q.1 q.2.1 = false
  vs : InW (mans q.1) q.2.2
section
variable {P : Program} {w : World} {K : PySem.W.Frag} {mg : Str → Option Value} {base : Heap}
theorem scLawRight : FnScope ["_law_work", "_law_shut_here", "_law_some", "_law_world", "_law_staying", "_law_wires", "_law_sound", "_law_rest", "_law_looks", "_law_outer", "_law_ahead", "_law_name", "_law_value", "_law_later", "_law_lot", "_law_many", "_law_part"] ["_law_work", "_law_shut_here", "_law_some", "_law_world"] (defScope sLawRight) := ⟨rfl, rfl, rfl, by decide +kernel, rfl, by decide +kernel, by decide +kernel⟩
theorem _law_right_ok (T : Txt w K mg) : Fok P w K mg base 8 "_law_right" ["_law_work", "_law_shut_here", "_law_some", "_law_world"] (spF (α := Wk × List Stg × List Int) (OkAskR) (fun q => [aWk K q.1, aWk K (closedW q.1 q.2.1), aLst (q.2.1.map (aStg K)), aLst (q.2.2.map aInt)]) (fun _ => aBl true)) := by
  refine fok_of T.f_LawRight T.g__law_right scLawRight (fun _ => rfl) (fun _ F => F.bindsN fun _ _ _ _ _ _ us hl => match us, hl with | [_, _, _, _], _ => rfl) fun y hy cdv A outer s H E hr => ?_
  have hN := scLawRight.nd
  obtain ⟨y, ss, vs⟩ := y
  obtain ⟨hk, st, op, hv⟩ := hy
  replace hk : OkWk y := hk
  replace st : OkStgs y ss := st
  replace op : shutB y ss = false := op
  replace hv : InW (mans y) vs := hv
  have h1 : y.1.length ≤ 8 := hk.ws.hi
  have h2 : y.2.length ≤ 7 := hk.ps.hi
  have few : y.2.length < 1000 := by omega
  have hz : OkWk (closedW y ss) := closed_ok_wk hk st op
  have z1 : (closedW y ss).1.length ≤ 8 := hz.ws.hi
  have alen : (allLk y vs).length ≤ 8 := allLk_len hk vs
  have lotLen : ∀ ls, ∀ l ∈ brokenL y ls, l.length < 1000000 := fun ls l hl => by
    have := (broken_lot hk hl).len
    omega
  have lotLenZ : ∀ ls, ∀ l ∈ brokenL (closedW y ss) ls, l.length < 1000000 := fun ls l hl => by
    have := (broken_lot hz hl).len
    omega
  refine ds_set (P := aLst ((closedW y ss).1.map fun q => aStr q.1)) 4 hN (d_map (xs := (closedW y ss).1) (P := aWire K) (Ps := fun q => [aStr q.1, aInt (q.2 : Int)]) (F := fun q => aStr q.1) [("_law_name", 11), ("_law_many", 15)] hN (blkOk_by (by kernel_rfl)) (di_list (d_meth (m_wires T) T.cl hr (closedW y ss) trivial (d_v 1) rfl)) (fun _ _ _ _ _ c _ => dg_two 11 15 rfl hN) (fun _ _ _ _ _ c _ => d_v 11) (by omega)) ?_
  refine ds_setMap 5 (xs := y.1) (Pt := aWire K) (is := [11, 15]) (Ts := fun q => [aStr q.1, aInt (q.2 : Int)]) (F := fun q => aStr q.1) [("_law_name", 11), ("_law_many", 15)] hN (blkOk_by (by kernel_rfl)) (di_list (d_meth (m_wires T) T.cl hr y trivial (d_v 0) rfl)) (fun _ _ _ _ _ c _ => dg_two 11 15 rfl hN) (fun _ _ _ _ _ c _ => d_v 11) (by omega) ?_ rfl
  refine ds_set (P := aLot K (soundL y vs)) 6 hN (d_cl (sound_in_ok T) hr (y, vs) ⟨hk, in_okWorld hv⟩ (da2 (d_v 0) (d_v 3))) ?_
  refine ds_set (P := aLot K (restL y.2.length (soundL y vs))) 7 hN (d_tupleL T.b_tuple ((d_fil (xs := List.range y.2.length) (P := fun p => aInt (p : Int)) (Ps := fun p => [aInt (p : Int)]) (b := fun p => !decide (p ∈ soundL y vs)) (F := fun p => aInt (p : Int)) [("_law_part", 16)] hN (blkOk_by (by kernel_rfl)) (di_range T.b_range (d_len T hr few (d_v 0)) (by omega)) (fun _ _ _ _ _ c _ => dg_name 16 hN)
    (fun _ _ _ _ _ c _ => (dt_ninIT (ks := lI (soundL y vs)) (d_v 16) (d_v 6)).as (by rw [decide_eq_decide.mpr lI_mem])) (fun _ _ _ _ _ c _ _ => d_v 16) (by rw [List.length_range]; omega)).as (by unfold restL lI; rw [List.map_map]; rfl))) ?_
  have e4 : aLst ((closedW y ss).1.map fun q => aStr q.1) = aLst (((closedW y ss).1.map (·.1)).map aStr) := by rw [List.map_map]; rfl
  have e5 : aLst (y.1.map fun q => aStr q.1) = aLst ((y.1.map (·.1)).map aStr) := by rw [List.map_map]; rfl
  refine ds_setFil 8 (xs := allLk y vs) (Pt := fun q => aTup K [aStr q.1, aInt q.2]) (is := [11, 12]) (Ts := fun q => [aStr q.1, aInt q.2]) (b := fun q => decide (q.1 ∈ (closedW y ss).1.map (·.1))) (F := aLook K) [("_law_name", 11), ("_law_value", 12)] hN (blkOk_by (by kernel_rfl)) (di_zip (xs := y.1.map (·.1)) (ys := vs) (P := aStr) (P' := aInt) T.b_zip (De.as (d_v 5) e5) (d_v 3)) (fun _ _ _ _ _ c _ => dg_two 11 12 rfl hN)
    (fun _ _ _ _ _ c _ => dt_inSL (d_v 11) (De.as (d_v 4) e4)) (fun _ _ _ _ _ c _ _ => d_tup (da_cons d_str (da2 (d_v 11) (d_v 12)))) (by omega) ?_ rfl
  refine ds_set (P := aLst ((brokenL (closedW y ss) (stayLk y ss vs)).map (aLot K))) 9 hN (d_cl (broken_ok T) hr (closedW y ss, stayLk y ss vs) ⟨hz, stayLk_ok hk hv⟩ (da2 (d_v 1) (d_v 8))) ?_
  have restOk := rest_ok few (soundL y vs)
  refine ds_ifF (dt_not (dt_val (d_cl (_law_holds_one_ok T) hr (lotC y ss (restL y.2.length (soundL y vs)), brokenL (closedW y ss) (stayLk y ss vs)) ⟨broken_few hz _, lotLenZ _⟩ (da2 (d_cl (lot_closed_ok T) hr (y, ss, restL y.2.length (soundL y vs)) ⟨st, few, restOk⟩ (da_cons (d_v 0) (da2 (d_v 2) (d_v 7)))) (d_v 9))))) (by show (!holdsOneB _ _) = false; rw [right_outer hk st hv]; rfl) ?_
  refine ds_set (P := aLst ((brokenL y (looksAt y ss vs 0)).map (aLot K))) 10 hN (d_cl (broken_ok T) hr (y, looksAt y ss vs 0) ⟨hk, looksAt_ok hk hv 0⟩ (da2 (d_v 0) (De.as (d_v 8 (P := aLst ((stayLk y ss vs).map (aLook K)))) (congrArg (fun ls => aLst (ls.map (aLook K))) (looksAt_zero y ss vs).symm)))) ?_
  refine ds_for (α := Str × Int) (xs := allLk y vs) (Pt := fun q => aTup K [aStr q.1, aInt q.2]) (is := [11, 12]) (Ts := fun q => [aStr q.1, aInt q.2]) (fun i ρ => ∃ Z11 Z12 Z13 Z14, ρ = [.v (aWk K y), .v (aWk K (closedW y ss)), .v (aLst (ss.map (aStg K))), .v (aLst (vs.map aInt)), .v (aLst ((closedW y ss).1.map fun q => aStr q.1)), .v (aLst (y.1.map fun q => aStr q.1)), .v (aLot K (soundL y vs)), .v (aLot K (restL y.2.length (soundL y vs))), .v (aLst ((looksAt y ss vs i).map (aLook K))), .v (aLst ((brokenL (closedW y ss) (stayLk y ss vs)).map (aLot K))), .v (aLst ((brokenL y (looksAt y ss vs i)).map (aLot K))), Z11, Z12, Z13, Z14, .no, .no])
    (fun _ _ h => False.elim h) rfl (di_zip (xs := y.1.map (·.1)) (ys := vs) (P := aStr) (P' := aInt) T.b_zip (De.as (d_v 5) e5) (d_v 3)) ⟨.no, .no, .no, .no, by rw [looksAt_zero]; rfl⟩ (fun n _ => dg_two 11 12 rfl hN) (fun i q hq ρ' ⟨Z11, Z12, Z13, Z14, e⟩ => ?_) (fun ρ' ⟨Z11, Z12, Z13, Z14, e⟩ => ?_) (fun _ _ => rfl)
  · subst e
    refine ds_if (M := fun ρ => ∃ Z11 Z12 Z13 Z14, ρ = [.v (aWk K y), .v (aWk K (closedW y ss)), .v (aLst (ss.map (aStg K))), .v (aLst (vs.map aInt)), .v (aLst ((closedW y ss).1.map fun q => aStr q.1)), .v (aLst (y.1.map fun q => aStr q.1)), .v (aLot K (soundL y vs)), .v (aLot K (restL y.2.length (soundL y vs))), .v (aLst ((looksAt y ss vs (i + 1)).map (aLook K))), .v (aLst ((brokenL (closedW y ss) (stayLk y ss vs)).map (aLot K))), .v (aLst ((brokenL y (looksAt y ss vs (i + 1))).map (aLot K))), Z11, Z12, Z13, Z14, .no, .no]) (dt_ninSL (z := q.1) (ys := (closedW y ss).1.map (·.1)) (d_v 11) (De.as (d_v 4) e4)) (fun hb => ?_) (fun hb => ds_nil ⟨.v (aStr q.1), .v (aInt q.2), Z13, Z14, ?_⟩) fun ρ' e => ds_nil e
    · have hns : q.1 ∉ (closedW y ss).1.map (·.1) := by simpa using hb
      have em := looksAt_more hq hns
      refine ds_set (P := aLst ((looksAt y ss vs (i + 1)).map (aLook K))) 8 hN (De.as (dn_cat (Ps := (looksAt y ss vs i).map (aLook K)) (Qs := [aLook K q]) ?_ (d_v 8) (d_lst (da1 (d_tup (da_cons d_str (da2 (d_v 11) (d_v 12))))))).de (by rw [em, List.map_append]; rfl)) ?_
      · rw [List.length_map]
        have := looksAt_len hk ss vs i
        show _ + 1 < 1000000
        omega
      refine ds_set (P := aLst ((brokenL y (looksAt y ss vs (i + 1))).map (aLot K))) 13 hN (d_cl (broken_ok T) hr (y, looksAt y ss vs (i + 1)) ⟨hk, looksAt_ok hk hv _⟩ (da2 (d_v 0) (d_v 8))) ?_
      refine ds_ifF (dt_not (dt_val (d_cl (_law_holds_one_ok T) hr (restL y.2.length (soundL y vs), brokenL y (looksAt y ss vs (i + 1))) ⟨broken_few hk _, lotLen _⟩ (da2 (d_v 7) (d_v 13))))) (by show (!holdsOneB _ _) = false; rw [right_rest hk hv looksAt_sub]; rfl) ?_
      refine ds_for (α := List Nat) (xs := brokenL y (looksAt y ss vs (i + 1))) (Pt := aLot K) (is := [14]) (Ts := fun l => [aLot K l]) (fun _ ρ => ∃ Z14, ρ = [.v (aWk K y), .v (aWk K (closedW y ss)), .v (aLst (ss.map (aStg K))), .v (aLst (vs.map aInt)), .v (aLst ((closedW y ss).1.map fun q => aStr q.1)), .v (aLst (y.1.map fun q => aStr q.1)), .v (aLot K (soundL y vs)), .v (aLot K (restL y.2.length (soundL y vs))), .v (aLst ((looksAt y ss vs (i + 1)).map (aLook K))), .v (aLst ((brokenL (closedW y ss) (stayLk y ss vs)).map (aLot K))), .v (aLst ((brokenL y (looksAt y ss vs i)).map (aLot K))), .v (aStr q.1), .v (aInt q.2), .v (aLst ((brokenL y (looksAt y ss vs (i + 1))).map (aLot K))), Z14, .no, .no])
        (fun _ _ h => False.elim h) rfl (di_list (d_v 13)) ⟨_, rfl⟩ (fun n _ => dg_name 14 hN) (fun j l hl ρ' ⟨Z14, e⟩ => ?_) (fun ρ' ⟨Z14, e⟩ => ?_) (fun _ _ => rfl)
      · subst e
        have hm := List.mem_of_getElem? hl
        have r1 : holdsOneB l (brokenL y (looksAt y ss vs i)) = true := right_ahead (ls' := looksAt y ss vs (i + 1)) (fun x hx => by rw [em]; exact List.mem_append_left _ hx) hm
        have r2 : holdsOneB (lotC y ss l) (brokenL (closedW y ss) (stayLk y ss vs)) = true := right_closed hk st looksAt_stay hm
        refine ds_ifF (dt_or2 (dt_not (dt_val (d_cl (_law_holds_one_ok T) hr (l, brokenL y (looksAt y ss vs i)) ⟨broken_few hk _, lotLen _⟩ (da2 (d_v 14) (d_v 10))))) fun _ => dt_not (dt_val (d_cl (_law_holds_one_ok T) hr (lotC y ss l, brokenL (closedW y ss) (stayLk y ss vs)) ⟨broken_few hz _, lotLenZ _⟩ (da2 (d_cl (lot_closed_ok T) hr (y, ss, l) ⟨st, few, broken_lot hk hm⟩ (da_cons (d_v 0) (da2 (d_v 2) (d_v 14)))) (d_v 9))))) (by show (!holdsOneB _ _ || !holdsOneB _ _) = false; rw [r1, r2]; rfl) (ds_nil ⟨_, rfl⟩)
      · subst e
        exact ds_set 10 hN (d_v 13) (ds_nil ⟨_, _, _, _, rfl⟩)
    · have hs : q.1 ∈ (closedW y ss).1.map (·.1) := by simpa using hb
      rw [looksAt_in hq hs]
      rfl
  · subst e
    refine ds_ret (d_eqLots hr (d_v 10) (De.as (P := aLst ([restL y.2.length (soundL y vs)].map (aLot K))) (d_lst (da1 (d_v 7))) rfl)) (Imp.of ?_)
    rw [right_all hk hv looksAt_sub looksAt_all, decide_eq_true rfl]
end
end Lb
set_option Elab.async false
set_option linter.all false
set_option maxRecDepth 100000
set_option maxHeartbeats 4000000
namespace Da
open PySem PySem.Spec PyProof.Rows L2
/-! ### a turn with a pool of its own -/
def PlFree (P : As) : Prop := ∀ pl pl' H v, P.is pl H v → P.is pl' H v
theorem plf_V {z : V} : PlFree (aV z) := fun _ _ _ _ h => h
theorem plf_fits {Ps : List As} (h : ∀ P ∈ Ps, PlFree P) {pl pl' : Option Addr} {H : Hp} {vs : List V} (f : Fits pl H vs Ps) : Fits pl' H vs Ps := by
  induction f with
  | nil => exact .nil
  | cons a t ih => exact .cons (h _ (List.mem_cons_self ..) _ _ _ _ a) (ih fun P hP => h P (List.mem_cons_of_mem _ hP))
theorem plf_sq {K : PySem.W.Frag} {Ps : List As} (h : ∀ P ∈ Ps, PlFree P) : PlFree (aSq K Ps) := fun pl pl' H v ⟨a, vs, h1, h2, h3⟩ => ⟨a, vs, h1, h2, plf_fits h h3⟩
section
variable {X : Cx} {ρ : Slots} {N M : Slots → Prop} {R : As → Prop} {pos p' : Pos} {e : Expr} {rest : List Stmt}
theorem ds_turn (i : Nat) {x : Str} (hN : X.N.Nodup) (he : DeN X e (exR ρ) [aS fun _ => True, aS fun i => 0 ≤ i ∧ i < 2147483647]) (hfree : ∀ (j : Nat) (S : Sl), ρ[j]? = some S → S = .no ∨ ∃ P, S = .v P ∧ PlFree P) (hno : ρ[i]? = some .no)
    (k : Ds X rest (ρ.set i (.v aPool)) M (fun _ => False)) (hM : ∀ ρ', M ρ' → ρ'.length = ρ.length ∧ ∀ (j : Nat) (P : As), ρ[j]? = some (.v P) → ρ'[j]? = some (.v P)) (hNN : N ρ)
    (hi : X.N[i]? = some x := by rfl) (hx : Loc X.env.scope x := by first | exact Or.inl rfl | exact Or.inr rfl) (hs : swapsWith e (some (.Name x p')) pos.line X.env = pure false := by rfl) (hf : X.fn x = true ∨ X.env.scope.names.lookup x = some .local := by first | exact .inl rfl | exact .inr rfl | assumption) :
    Ds X (.Assign [.Name x p'] e pos :: rest) ρ N R := fun pl H0 Hc0 σ H D ⟨Hc, s⟩ hn hr => by
  refine tSs_of (pss_cons (ps_set hN hi hx pe_can hs hf) pss_can) (he pl σ H Hc s.stp.gd s.env _ fun p vs H1 Hc1 t h1 h2 h3 h4 h5 => ?_)
  obtain ⟨u, v, e1, ⟨a, _, ea⟩, ⟨b, ⟨b1, b2⟩, eb⟩⟩ := two h5
  have ea' : u = V.int a := ea
  have eb' : v = V.int b := eb
  subst e1 ea' eb'
  have t1 : Stp pl H0 Hc0 H1 Hc1 := s.stp.trans t
  have p0 : H0 p = none := by
    cases z : H0 p with
    | none => rfl
    | some o =>
      rw [s.stp.keep p o h3 z] at h4
      cases h4
  have own : ∀ (j : Nat) (Ps : List As), ρ[j]? = some (.own Ps) → False := fun j Ps h => by
    rcases hfree j _ h with e | ⟨P, e, _⟩ <;> cases e
  have own2 : ∀ (j : Nat) (Ps : List As), (ρ.set i (.v aPool))[j]? = some (.own Ps) → False := fun j Ps h => by
    rcases get_set h with ⟨_, e, _⟩ | ⟨_, e⟩
    · cases e
    · exact own j Ps e
  have gp : Gd (some p) H1 Hc1 := ⟨t.gd.sub, fun q hq => by
    cases hq
    exact ⟨h2, a, b, h1, b1, b2⟩⟩
  refine k (some p) H1 Hc1 _ H1 D ⟨Hc1, ⟨Stp.refl gp, by rw [List.length_set, List.length_set, s.len], fun j P h => ?_, fun j Ps h => (own2 j Ps h).elim, fun j k Ps Qs q _ h _ => (own2 j Ps h).elim⟩⟩ (fun ρ' σ' H' m ⟨Hc', s'⟩ => ?_) fun P v H' Hc' f _ _ => f.elim
  · rcases get_set h with ⟨rfl, e, hl⟩ | ⟨ne, e⟩
    · have e' : aPool = P := by injection e
      subst e'
      exact ⟨.ref p, List.getElem?_set_self (by rw [s.len]; exact hl), p, rfl, rfl⟩
    · obtain ⟨w, w1, w2⟩ := s.val j P e
      rcases hfree j _ e with z | ⟨P', z, fr⟩
      · cases z
      · have z' : P = P' := by injection z
        subst z'
        exact ⟨w, by rw [List.getElem?_set_ne ne]; exact w1, fr _ _ _ _ (P.mono t.cl w2)⟩
  · obtain ⟨ml, mv⟩ := hM ρ' m
    have keep2 : ∀ q o, pl ≠ some q → H0 q = some o → H' q = some o := fun q o n h => s'.stp.keep q o (fun z => by
      cases z
      rw [p0] at h
      cases h) (t1.keep q o n h)
    refine hn ρ σ' H' hNN ⟨Hc', ⟨⟨keep2, t1.cl.trans s'.stp.cl, ⟨s'.stp.gd.sub, fun q hq => ?_⟩, fun q o h => ?_⟩, by rw [s'.len, ml], fun j P h => ?_, fun j Ps h => (own j Ps h).elim, fun j k Ps Qs q _ h _ => (own j Ps h).elim⟩⟩
    · obtain ⟨g1, c, d, g2, g3⟩ := t1.gd.pool q hq
      refine ⟨?_, c, d, s'.stp.keep q _ (fun z => by cases z; exact h3 hq) g2, g3⟩
      cases z : Hc' q with
      | none => rfl
      | some o =>
        rcases s'.stp.new q o z with w | w | ⟨vs, w⟩
        · rw [g1] at w
          cases w
        · rw [g2] at w
          cases w
        · rw [g2] at w
          cases w
    · rcases s'.stp.new q o h with w | w
      · exact t1.new q o w
      · cases e : H0 q with
        | none => exact .inr (.inl e)
        | some u =>
          by_cases hq : pl = some q
          · obtain ⟨_, c, d, g2, _⟩ := t1.gd.pool q hq
            rcases w with w | ⟨vs, w⟩
            · rw [g2] at w
              cases w
            · rw [g2] at w
              cases w
          · have k2 := t1.keep q u hq e
            rcases w with w | ⟨vs, w⟩
            · rw [k2] at w
              cases w
            · rw [k2] at w
              cases w
              exact .inr (.inr ⟨vs, e⟩)
    · obtain ⟨w, w1, w2⟩ := s'.val j P (mv j P h)
      rcases hfree j _ h with z | ⟨P', z, fr⟩
      · cases z
      · have z' : P = P' := by injection z
        subst z'
        exact ⟨w, w1, fr _ _ _ _ w2⟩
end
section
variable {X : Cx} {ρ : Rho} {pos p : Pos} {e : Expr} {es : List Expr} {β : Type} {c : β → Prop} {x : Str} {k : Nat} {ps : List Str}
/-- the same comes of all that is drawn -/
theorem d_clxC {α : Type} {ok : α → Prop} {args : α → List As} {P : As} {j : Nat} (F : Fok X.prog X.w X.K X.mg X.base j x ps (spF ok args fun _ => P)) (hr : Room k X.A) (f : β → α) (hy : ∀ z, c z → ok (f z)) (ha : DeAx X (e :: es) ρ c fun z => args (f z)) (hjk : j ≤ k := by decide) (hg : Gl X x := by rfl)
    (hdb : (x == ("__debug__" : Str)) = false := by decide) (he : starEach (e :: es) X.env = (false, eval e X.env) :: starEach es X.env := by rfl) (hpl : (backTo pos (starEach es X.env)).any (·.1) = false := by rfl) : De X (.Call (.Name x p) (e :: es) [] pos) ρ P :=
  (d_clx F hr f hy ha hjk hg hdb he hpl).imp fun ⟨_, _, h⟩ => h
end
section
variable {X : Cx} {ρ : Rho} {pos p : Pos} {a b : Expr} {j : Nat} {R : As} {β : Type} {c : β → Prop} {F : β → List As}
/-- a drawn list or another one -/
theorem d_orX (ha : De X a ρ (aEx c fun z => aLst (F z))) (hb : De X b ρ R) (hi : ∀ z, c z → F z ≠ [] → Imp (aLst (F z)) R) : De X (.BoolOp .Or [a, b] pos) ρ R := fun pl σ H Hc g ev Q q =>
  tE_of (pe_orT pe_can pe_can) (ha pl σ H Hc g ev _ fun v H1 Hc1 s1 ⟨z, hz, hv⟩ => by
    obtain ⟨d, vs, e1, e2, f⟩ := id hv
    have hl := f.len
    refine ⟨!vs.isEmpty, by subst e1; exact .inl ⟨vs, SqL.of (s1.gd.sub _ _ e2), rfl⟩, ?_⟩
    cases vs with
    | nil => exact iteF (d_one hb pl σ H1 Hc1 s1.gd (ev.mono s1.cl) _ (q.step s1))
    | cons v0 vr => exact iteT (q _ _ _ s1 (hi z hz (fun e => by rw [e] at hl; cases hl) hv)))
theorem dt_notNon (ha : De X a ρ aNon) : Dt X (.Compare a [.IsNot] [.Constant .none j p] pos) ρ false :=
  dt_cmp op_notN (P' := aNon) (fun pl H Hc x y g h1 h2 Q q => ⟨h2, by
    have e : x = V.non := h1
    subst e
    exact q.here g rfl⟩) ha d_non
theorem dt_notObj {C : Addr} {fs : List (Str × As)} (ha : De X a ρ (aObj C fs)) : Dt X (.Compare a [.IsNot] [.Constant .none j p] pos) ρ true :=
  dt_cmp (P := aObj C fs) (P' := aNon) op_notN (fun pl H Hc x y g ⟨b, dx, ws, h1, _⟩ h2 Q q => ⟨h2, by
    subst h1
    exact q.here g rfl⟩) ha d_non
end
end Da
namespace Lb
open PySem PySem.Spec PyProof.Rows L2 Da PySem.W
theorem inW_cons {m : Nat} {ms : List Nat} {v : Int} {vs : List Int} (h1 : 0 ≤ v ∧ v < (m : Int)) (h2 : InW ms vs) : InW (m :: ms) (v :: vs) := ⟨by rw [List.length_cons, List.length_cons, h2.len], fun i a b ha hb => by
  cases i with
  | zero =>
    simp at ha hb
    subst ha hb
    exact h1
  | succ i => exact h2.val i a b (by simpa using ha) (by simpa using hb)⟩
theorem fits_draw {pl : Option Addr} {H : Hp} : ∀ {ws : List (Str × Nat)} {vs : List V}, Fits pl H vs (ws.map fun q => aK q.2) → ∃ ns : List Int, InW (ws.map (·.2)) ns ∧ Fits pl H vs (ns.map aInt)
  | [], _, .nil => ⟨[], ⟨rfl, fun i v m h => by simp at h⟩, .nil⟩
  | q :: ws, _, .cons ⟨k, hk, h⟩ t => by
    obtain ⟨ns, h1, h2⟩ := fits_draw t
    exact ⟨(k : Int) :: ns, inW_cons ⟨by omega, by show (k : Int) < (q.2 : Int); omega⟩ h1, .cons h h2⟩
theorem lst_draw {ws : List (Str × Nat)} : Imp (aLst (ws.map fun q => aK q.2)) (aEx (InW (ws.map (·.2))) fun ns : List Int => aLst (ns.map aInt)) := fun ⟨a, vs, h1, h2, h3⟩ => by
  obtain ⟨ns, k1, k2⟩ := fits_draw h3
  exact ⟨ns, k1, a, vs, h1, h2, k2⟩
section
variable {P : Program} {w : World} {K : PySem.W.Frag} {mg : Str → Option Value} {base : Heap}
theorem scLaw : FnScope ["_law_script", "_law_k", "_law_pool_here", "_law_wired_here", "_law_bound_here", "_law_work", "_law_some", "_law_shut_here", "_law_turn", "_law_name", "_law_many"] ["_law_script"] (defScope sLaw) := ⟨rfl, rfl, rfl, by decide +kernel, rfl, by decide +kernel, by decide +kernel⟩
theorem law_fn (T : Txt w K mg) {fd : FuncData} (F : FunD K dLaw.name dLaw.qual dLaw.params dLaw.body dLaw.scope (dLaw.dvs K) (dLaw.kws K) (He.ga K "law") fd) : FnOk P w K mg base CX0 12 (He.ga K "law") fd ["_law_script"] (spF (α := List Int) (fun xs => xs.length ≤ 63) (fun xs => [aSq K (xs.map aInt)]) fun _ => aBl true) := by
  refine def_ok F scLaw (fun _ => rfl) fun y hy cdv A outer s H E hr => ?_
  have hN := scLaw.nd
  replace hy : y.length ≤ 63 := hy
  obtain ⟨fdw, Fw, Bw⟩ := init_work (P := P) (base := base) T
  refine ds_for (α := Nat) (xs := List.range (max 2 (min y.length 6))) (Pt := fun k : Nat => aInt (k : Int)) (is := [1]) (Ts := fun k : Nat => [aInt (k : Int)]) (fun _ ρ => ∃ Z1, ρ = [.v (aSq K (y.map aInt)), Z1, .no, .no, .no, .no, .no, .no, .no, .no, .no]) (fun _ _ h => False.elim h) rfl
    (di_range T.b_range (De.as (d_max2 (i := 2) (j := min (y.length : Int) 6) rfl T.b_max d_int (d_min2 (i := (y.length : Int)) (j := 6) rfl T.b_min (De.as (d_lenQ T.b_len (d_v 0)) (by rw [List.length_map])) d_int)) (by congr 1; omega)) (by omega)) ⟨.no, rfl⟩ (fun n _ => dg_name 1 hN) (fun i k hk ρ' ⟨Z1, e⟩ => ?_) (fun ρ' ⟨Z1, e⟩ => by subst e; exact ds_ret d_bl Imp.rfl') (fun _ _ => rfl)
  subst e
  have hk9 : k < 1000 := by
    have := List.mem_range.mp (List.mem_of_getElem? hk)
    omega
  refine ds_turn (M := fun ρ' => ∃ Z2 Z3 Z4 Z5 Z6 Z7 Z8, ρ' = [.v (aSq K (y.map aInt)), .v (aInt (k : Int)), Z2, Z3, Z4, Z5, Z6, Z7, Z8, .no, .no]) 2 hN (dn_cl (_law_pool_ok T) hr (y, k) ⟨by show y.length < 1000; omega, hk9⟩ (da2 (d_v 0) (d_v 1))) (fun j S h => ?_) rfl ?_ (fun ρ' ⟨Z2, Z3, Z4, Z5, Z6, Z7, Z8, e⟩ => ?_) ⟨_, rfl⟩
  · match j, h with
    | 0, h => cases h; exact .inr ⟨_, rfl, plf_sq fun P hP => by obtain ⟨_, _, rfl⟩ := List.mem_map.mp hP; exact plf_V⟩
    | 1, h => cases h; exact .inr ⟨_, rfl, plf_V⟩
    | 2, h => cases h; exact .inl rfl
    | 3, h => cases h; exact .inl rfl
    | 4, h => cases h; exact .inl rfl
    | 5, h => cases h; exact .inl rfl
    | 6, h => cases h; exact .inl rfl
    | 7, h => cases h; exact .inl rfl
    | 8, h => cases h; exact .inl rfl
    | 9, h => cases h; exact .inl rfl
    | 10, h => cases h; exact .inl rfl
    | n + 11, h => cases h
  rotate_left
  · subst e
    refine ⟨rfl, fun j P h => ?_⟩
    match j, h with
    | 0, h => exact h
    | 1, h => exact h
    | 2, h => cases h
    | 3, h => cases h
    | 4, h => cases h
    | 5, h => cases h
    | 6, h => cases h
    | 7, h => cases h
    | 8, h => cases h
    | 9, h => cases h
    | 10, h => cases h
    | n + 11, h => cases h
  refine ds_setEx (c := Wired) (F := fun ws => aLst (ws.map (aWire K))) 3 hN (d_cl (_law_wired_ok T) hr () trivial (da_cons (d_v 2) (da2 d_int d_int))) fun ws hw => ?_
  obtain ⟨w0, wr, ew⟩ : ∃ w0 wr, ws = w0 :: wr := by
    have := hw.ok.lo
    cases ws with
    | nil => cases this
    | cons a r => exact ⟨a, r, rfl⟩
  refine ds_setEx (c := Bound (ws.map (·.1))) (F := fun ps => aLst (ps.map (aPart K))) 4 hN (d_orX (c := Bound (ws.map (·.1))) (F := fun ps : List (Str × List Tie) => ps.map (aPart K)) (d_cl (_law_bound_ok T) hr ws hw.ok (da_cons (d_v 2) (da_cons (d_v 3) (da2 d_int d_int)))) (De.imp (d_lst (da1 (d_tup (da2 d_str (d_lst (da1 (d_tup (da_cons d_str (da2 (d_ixT (P := aStr w0.1) (Ps := [aStr w0.1, aInt (w0.2 : Int)]) 0 (d_ixL (P := aWire K w0) (Ps := ws.map (aWire K)) 0 (d_v 3) d_int (by rw [ew]; rfl)) d_int) d_int))))))))) fun h => ⟨[("p", [.fixed w0.1 1])], bound_p (by rw [ew]; exact List.mem_cons_self ..), h⟩) fun ps hps _ => fun h => ⟨ps, hps, h⟩) fun ps hb => ?_
  have hk := bound_ok hw hb
  refine ds_set (P := aWk K (ws, ps)) 5 hN (d_make T.mkW Fw Bw (hr.mono (by decide)) T.g_Work (ws, ps) hk (da2 (d_v 3) (d_v 4))) ?_
  refine ds_setEx (c := Staged ps.length) (F := fun ss => aLst (ss.map (aStg K))) 6 hN (d_cl (_law_stages_ok T) hr ps (by have := hb.five; omega) (da2 (d_v 2) (d_v 4))) fun ss hs => ?_
  have st := staged_ok hb hs
  refine ds_set 7 hN (d_cl (_law_shut_ok T) hr ((ws, ps), ss) (shut_ok hw hb hs) (da2 (d_v 5) (d_v 6))) ?_
  rcases Bool.eq_false_or_eq_true (shutB (ws, ps) ss) with hsh | hsh
  · refine ds_if (M := fun ρ' => ∃ Z2 Z3 Z4 Z5 Z6 Z7 Z8, ρ' = [.v (aSq K (y.map aInt)), .v (aInt (k : Int)), Z2, Z3, Z4, Z5, Z6, Z7, Z8, .no, .no]) (dt_notNon (De.as (d_v 7) (by show (if shutB (ws, ps) ss = true then _ else _) = _; rw [if_pos hsh]))) (fun e => nomatch e) (fun _ => ds_nil ⟨_, _, _, _, _, _, _, rfl⟩) fun ρ' m => ds_nil m
  · have e7 : (if shutB (ws, ps) ss = true then aNon else aWk K (closedW (ws, ps) ss)) = aWk K (closedW (ws, ps) ss) := if_neg (by rw [hsh]; decide)
    refine ds_if (M := fun ρ' => ∃ Z2 Z3 Z4 Z5 Z6 Z7 Z8, ρ' = [.v (aSq K (y.map aInt)), .v (aInt (k : Int)), Z2, Z3, Z4, Z5, Z6, Z7, Z8, .no, .no]) (dt_notObj (De.as (d_v 7) e7)) (fun _ => ?_) (fun e => nomatch e) fun ρ' m => ds_nil m
    refine ds_for (α := Nat) (xs := List.range 2) (Pt := fun k : Nat => aInt (k : Int)) (is := [8]) (Ts := fun k : Nat => [aInt (k : Int)]) (fun _ ρ => ∃ Z8, ρ = [.v (aSq K (y.map aInt)), .v (aInt (k : Int)), .v aPool, .v (aLst (ws.map (aWire K))), .v (aLst (ps.map (aPart K))), .v (aWk K (ws, ps)), .v (aLst (ss.map (aStg K))), .v (if shutB (ws, ps) ss = true then aNon else aWk K (closedW (ws, ps) ss)), Z8, .no, .no]) (fun _ _ h => False.elim h) rfl
      (di_range T.b_range (n := 2) d_int (by omega)) ⟨.no, rfl⟩ (fun n _ => dg_name 8 hN) (fun j t ht ρ' ⟨Z8, e⟩ => ?_) (fun ρ' ⟨Z8, e⟩ => by subst e; exact ds_nil ⟨_, _, _, _, _, _, _, rfl⟩) (fun _ _ => rfl)
    subst e
    have h5 := hw.five
    refine ds_ifF (b := !true) (dt_not (dt_val ?_)) rfl (ds_nil ⟨_, rfl⟩)
    refine d_clxC (c := InW (ws.map (·.2))) (_law_right_ok T) hr (fun vs : List Int => ((ws, ps), ss, vs)) (fun vs hvs => ⟨hk, st, hsh, hvs⟩) ?_
    exact (dax_cons (P := aWk K (ws, ps)) (d_v 5) (dax_cons (P := aWk K (closedW (ws, ps) ss)) (De.as (d_v 7) e7) (dax_cons (P := aLst (ss.map (aStg K))) (d_v 6) (dax_one (F := fun vs : List Int => aLst (vs.map aInt)) (De.imp (d_map (xs := ws) (P := aWire K) (Ps := fun q => [aStr q.1, aInt (q.2 : Int)]) (F := fun q => aK q.2) [("_law_name", 9), ("_law_many", 10)] hN (blkOk_by (by kernel_rfl)) (di_list (d_v 3)) (fun _ _ _ _ _ c _ => dg_two 9 10 rfl hN) (fun _ _ _ _ _ c hc => d_cl (_law_take_ok T) hr c.2 ⟨by have := (hw.ok.each c hc).lo; omega, by have := (hw.ok.each c hc).hi; omega⟩ (da2 (d_v 2) (d_v 10))) (by omega)) lst_draw) da_nil))))
end
end Lb
set_option Elab.async false
set_option linter.all false
set_option maxRecDepth 100000
set_option maxHeartbeats 0
namespace Lb
open PySem PySem.Spec PyProof.Rows L2 Da
abbrev spLaw (K : PySem.W.Frag) : Sp := spF (α := List Int) (fun xs => xs.length ≤ 63) (fun xs => [aSq K (xs.map aInt)]) fun _ => aBl true
theorem facts {P : Program} {w : World} {K : PySem.W.Frag} {h : Heap} {mg : Str → Option Value} {f : Addr} (X : K.In h) (G : h.Ns mainGlobals mg) (hfa : mg ("law" : Str) = some (.ref f)) (c : He.SaysX faL fnL tsL [] exB w h K) :
    ∃ fd : FuncData, (∀ (s : Shared) (v : Value), BindsTo s fd ⟨[v], []⟩ [("_law_script", v)]) ∧ ∀ base : Heap, K.In base → base.Ns mainGlobals mg → FnOk P w K mg base CX0 12 f fd ["_law_script"] (spLaw K) := by
  have T : Txt w K mg := ⟨⟨h, X, G, c⟩⟩
  obtain ⟨fd, F⟩ := T.f_Law
  have e := hfa.symm.trans T.g_law
  cases e
  have b := FunD.bindsA (ps := ["_law_script"]) F fun _ _ _ _ _ _ us hl => match us, hl with | [_], _ => rfl
  exact ⟨fd, fun s v => b s [v] rfl, fun base _ _ => law_fn T F⟩
theorem law_asks {K : PySem.W.Frag} (H : Hp) (a : Addr) (ns : List Int) (hl : ns.length ≤ 63) (hS : SqL K H a (ns.map V.int)) : spLaw K [.ref a] H (fun v _ => v = .bl true) fun _ _ _ => False :=
  ⟨none, H, ns, ⟨Same.refl _, fun _ h => nomatch h⟩, hl, .cons ⟨a, ns.map V.int, rfl, hS, fits_of (f := V.int) ns⟩ .nil, fun v H' Hc' s q => q⟩
end Lb
open PySem PySem.W PySem.Calls PyProof.Rows
theorem PySem.Challenge.cw_leastblame_k94_whole_stages_opened_and_l_holds : PySem.Challenge.rw_leastblame_k94_whole_stages_opened_and_l.Holds := by
  w_on; o_law
  refine HandSHeadRun.head_any (r := OpenLaw.row PySem.Challenge.rw_leastblame_k94_whole_stages_opened_and_l) (q := view (OpenLaw.row PySem.Challenge.rw_leastblame_k94_whole_stages_opened_and_l).prog [83]) (H := Lb.hk) (ob := Lb.ob) (M := 6000) (loose := Lb.looseL) (d := HandSHeadRun.topDef (OpenLaw.row PySem.Challenge.rw_leastblame_k94_whole_stages_opened_and_l).prog 83) (kwd := []) Lb.ob_eq
    (by kernel_rfl) (fun s => by kernel_rfl) Lb.run (by kernel_rfl) (by kernel_rfl) (by kernel_rfl) (by rfl) (by first | assumption | decide +kernel) (by decide +kernel) ⟨rfl, rfl, rfl, rfl, rfl, by decide +kernel⟩ ?hw ?hc
  case hw => w_witness2
  case hc =>
    refine L2.walk_ofE (l := PySem.Challenge.rw_leastblame_k94_whole_stages_opened_and_l) (n := 63) (k := 12) (x := "_law_script") (CX := L2.CX0) rfl (by decide) (by kernel_rfl) ⟨rfl, by decide, by decide⟩ ?F (fun _ _ _ _ z => z)
    intro w mg fa h Y G hmg0
    obtain ⟨K, KX, c⟩ := Y
    have hmg : mg ("law" : PySem.Str) = some (.ref fa) := by
      have e : (HandSHeadRun.topDef (OpenLaw.row PySem.Challenge.rw_leastblame_k94_whole_stages_opened_and_l).prog 83).name = ("law" : PySem.Str) := by kernel_rfl
      rw [← e]
      exact hmg0
    obtain ⟨fd, hb, hF⟩ := Lb.facts (P := (PySem.Challenge.rw_leastblame_k94_whole_stages_opened_and_l).prog) (w := w) KX G hmg c
    exact ⟨K, fd, Lb.spLaw K, KX, hb, fun H a ns hl _ hS => Lb.law_asks H a ns hl hS, hF⟩
