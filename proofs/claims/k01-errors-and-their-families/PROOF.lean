import PyProof.Rows.All
import Wide.All
import OpenK.AllK
import Wide.FinOn
import KE.KStateDown
import HandS.Head0
import HandS.Head1
import HandS.Head2
import HandS.ForMost
import HandS.ForExc
import HandS.CallSlots
import HandS.Lambda
import HandS.ExcInitHot
import HandS.TryMany
import KE.KDictKeyed
import HandS.ExcInit
import HandS.NoneIn
import HandS.TupAny
import HandS.Wide
import HandS.Deep
import HandS.SortInts
import HandS.IsInst
import HandS.SetFor
import HandS.More
import KE.KTryMore
import HandS.ExcField
import PyProof.RulesAs
import HandS.Defaults
import PyProof.InstSpecial
import HandS.HeadHook2
import HandS.HeadHook3
import HandS.HeadHook4
import HandS.HeadWalk
import HandS.Conv
import KE.GoesMore
import KE.GoesEnum
import HandS.TupSets
import KE.KSortTupG
import HandS.Dict
import HandS.MakeKwOnly
import HandS.Style
import KE.KDflt
import PyProof.EqAt
import HandS.SortOrd
import HandS.TupMul
import KE.GoesZip
import HandS.Zip
import KE.DataMinMax
import KE.KTupSum
import HandS.OwnEq
import KE.DataFind
import PyProof.ExcBaseAll.LookupError
import KE.SortData
import KE.KDictDisplayH
import HandS.Iter
import PyProof.EqKinds
import HandS.FStr
import HandS.Small
import PyProof.Rows.Range3
import PyProof.ReprRoads
import PyProof.ReprLen
import PyProof.DictMoreH
import HandS.Text
import PyProof.ListStr
import HandS.DictComp
import HandS.ExcIs
import PySem.Challenge.RW_hueroads_k01_errors_and_their_families
set_option Elab.async false
set_option linter.all false
set_option maxRecDepth 100000
set_option maxHeartbeats 1000000
namespace Hw
open PySem PySem.Spec L2 LamX
open He (Fa DefD ga ma fAd SaysD cT codeOf tabOf eqO eqO_ok)
def oexB (K : PySem.W.Frag) (C : Addr) : Bool := (match K.lookup C with
  | some ⟨.type t, _, .cls cd, sl⟩ => (match cd.mro, sl.toList with
    | .ref C' :: bm, [_, _, _, _, some (.builtin n), _] => decide (t = "type") && (decide (C' = C) && (decide (n = "ValueError.__new__") && (!cd.hasDel && (cd.hasDict && PySem.HandSPX.refsVE bm))))
    | _, _ => false)
  | _ => false) && (eqO (PySem.W.findIn K (.ref C) "__setattr__") (some (some (.builtin "object.__setattr__"))) && (decide (PySem.W.subIn K (.ref C) (.type "BaseException") = some true) && (decide (PySem.W.typeIn K (.ref C) = some (.type "type")) && PySem.W.keepIn K (.ref C))))
def initB (K : PySem.W.Frag) (x : Str) : Bool := eqO (PySem.W.findIn K (.ref (ga K x)) "__init__") (some (some (.ref (ma K (ga K x) "__init__")))) && decide (PySem.W.typeIn K (.ref (ma K (ga K x) "__init__")) = some (.type "function"))
def errB (K : PySem.W.Frag) (x : Str) (fs : List Str) : Bool := oexB K (ga K x) && (initB K x && fs.all fun f => decide (PySem.W.findIn K (.ref (ga K x)) f = some none))
def lkTail : List Value := [.type "LookupError", .type "Exception", .type "BaseException", .type "object"]
def lkB : List Value → Bool
  | .ref _ :: r => lkB r
  | l => decide (l = lkTail)
def lkcB (K : PySem.W.Frag) (C : Addr) : Bool := (match K.lookup C with
  | some ⟨.type t, _, .cls cd, sl⟩ => (match cd.mro, sl.toList with
    | .ref C' :: bm, [_, _, _, _, some (.builtin n), _] => decide (t = "type") && (decide (C' = C) && (decide (n = "LookupError.__new__") && (!cd.hasDel && (cd.hasDict && lkB bm))))
    | _, _ => false)
  | _ => false) && (eqO (PySem.W.findIn K (.ref C) "__setattr__") (some (some (.builtin "object.__setattr__"))) && (decide (PySem.W.subIn K (.ref C) (.type "BaseException") = some true) && (decide (PySem.W.typeIn K (.ref C) = some (.type "type")) && PySem.W.keepIn K (.ref C))))
def errLB (K : PySem.W.Frag) (x : Str) (fs : List Str) : Bool := lkcB K (ga K x) && (initB K x && fs.all fun f => decide (PySem.W.findIn K (.ref (ga K x)) f = some none))
def isiB (K : PySem.W.Frag) (C : Addr) : Bool := decide (PySem.W.findIn K (.ref C) "__class__" = some (some (.builtin "object.__class__"))) && decide (PySem.W.specialIn K (.builtin "object.__class__") "__get__" = some (some (.builtin "getset_descriptor.__get__"))) &&
  (decide (PySem.W.takesIn K (.builtin "object.__class__") = some true) && decide (PySem.W.mroIn K C (.type "object") = some true))
def isEB (K : PySem.W.Frag) (l : List Str) (bs : List Bool) (cv : Value) : Bool := (l.zip bs).all fun p => PySem.W.kitOne K (.ref (ga K p.1)) cv == some p.2
def isETB (K : PySem.W.Frag) (l : List Str) (bs : List Bool) (cs : List Str) : Bool := (l.zip bs).all fun p => PySem.W.kitAny K (.ref (ga K p.1)) (cs.map fun c => .ref (ga K c)) == some p.2
def fldEB (K : PySem.W.Frag) (l : List Str) (f : Str) : Bool := l.all fun c => decide (PySem.W.findIn K (.ref (ga K c)) f = some none)
def ecB (K : PySem.W.Frag) (l : List Str) : Bool := l.all fun c => xfB K (ga K c) && isiB K (ga K c)
end Hw
set_option maxHeartbeats 0
namespace K01
open PySem PySem.Spec L2 Hw
open PyProof.Rows (envOfC)
open He (Fa DefD ga ma fAd cT)
def topS (i : Nat) : Stmt := PySem.Challenge.pw_hueroads_k01_errors_and_their_families.main.body.getD i (.Pass ⟨0, 0, 0, 0⟩)
def inS (i j : Nat) : Stmt := match topS i with
  | .ClassDef _ _ _ b _ _ _ _ _ _ _ => b.getD j (.Pass ⟨0, 0, 0, 0⟩)
  | _ => .Pass ⟨0, 0, 0, 0⟩
abbrev s_l_bag : Stmt := topS 37
def dd_l_bag : DefD := ⟨("_law_bag", none), "_law_bag", "_law_bag", defArgs s_l_bag, defBody s_l_bag, defScope s_l_bag, [], []⟩
abbrev s_l_take : Stmt := topS 38
def dd_l_take : DefD := ⟨("_law_take", none), "_law_take", "_law_take", defArgs s_l_take, defBody s_l_take, defScope s_l_take, [], []⟩
abbrev s_l_flags : Stmt := topS 41
def dd_l_flags : DefD := ⟨("_law_flags", none), "_law_flags", "_law_flags", defArgs s_l_flags, defBody s_l_flags, defScope s_l_flags, [], []⟩
abbrev s_l_values : Stmt := topS 42
def dd_l_values : DefD := ⟨("_law_values", none), "_law_values", "_law_values", defArgs s_l_values, defBody s_l_values, defScope s_l_values, [], []⟩
abbrev s_l_due : Stmt := topS 43
def dd_l_due : DefD := ⟨("_law_due", none), "_law_due", "_law_due", defArgs s_l_due, defBody s_l_due, defScope s_l_due, [], []⟩
abbrev s_l_errors : Stmt := topS 40
def dd_l_errors : DefD := ⟨("_law_errors", none), "_law_errors", "_law_errors", defArgs s_l_errors, defBody s_l_errors, defScope s_l_errors, [], []⟩
abbrev s_l_named : Stmt := topS 44
def dd_l_named : DefD := ⟨("_law_named", none), "_law_named", "_law_named", defArgs s_l_named, defBody s_l_named, defScope s_l_named, [], []⟩
abbrev s_l_alike : Stmt := topS 39
def dd_l_alike : DefD := ⟨("_law_alike", none), "_law_alike", "_law_alike", defArgs s_l_alike, defBody s_l_alike, defScope s_l_alike, [], []⟩
abbrev s_law : Stmt := topS 45
def dd_law : DefD := ⟨("law", none), "law", "law", defArgs s_law, defBody s_law, defScope s_law, [], []⟩
abbrev s_Apart_init : Stmt := inS 11 0
def dd_Apart_init : DefD := ⟨("Apart", some "__init__"), "__init__", "Apart.__init__", defArgs s_Apart_init, defBody s_Apart_init, defScope s_Apart_init, [], []⟩
abbrev s_BadColors_init : Stmt := inS 8 0
def dd_BadColors_init : DefD := ⟨("BadColors", some "__init__"), "__init__", "BadColors.__init__", defArgs s_BadColors_init, defBody s_BadColors_init, defScope s_BadColors_init, [], []⟩
abbrev s_BadDeed_init : Stmt := inS 22 0
def dd_BadDeed_init : DefD := ⟨("BadDeed", some "__init__"), "__init__", "BadDeed.__init__", defArgs s_BadDeed_init, defBody s_BadDeed_init, defScope s_BadDeed_init, [], []⟩
abbrev s_BadDegree_init : Stmt := inS 9 0
def dd_BadDegree_init : DefD := ⟨("BadDegree", some "__init__"), "__init__", "BadDegree.__init__", defArgs s_BadDegree_init, defBody s_BadDegree_init, defScope s_BadDegree_init, [], []⟩
abbrev s_BadKind_init : Stmt := inS 21 0
def dd_BadKind_init : DefD := ⟨("BadKind", some "__init__"), "__init__", "BadKind.__init__", defArgs s_BadKind_init, defBody s_BadKind_init, defScope s_BadKind_init, [], []⟩
abbrev s_BadName_init : Stmt := inS 20 0
def dd_BadName_init : DefD := ⟨("BadName", some "__init__"), "__init__", "BadName.__init__", defArgs s_BadName_init, defBody s_BadName_init, defScope s_BadName_init, [], []⟩
abbrev s_BadNet_init : Stmt := inS 5 0
def dd_BadNet_init : DefD := ⟨("BadNet", some "__init__"), "__init__", "BadNet.__init__", defArgs s_BadNet_init, defBody s_BadNet_init, defScope s_BadNet_init, [], []⟩
abbrev s_BadNumber_init : Stmt := inS 3 0
def dd_BadNumber_init : DefD := ⟨("BadNumber", some "__init__"), "__init__", "BadNumber.__init__", defArgs s_BadNumber_init, defBody s_BadNumber_init, defScope s_BadNumber_init, [], []⟩
abbrev s_BadPath_init : Stmt := inS 6 0
def dd_BadPath_init : DefD := ⟨("BadPath", some "__init__"), "__init__", "BadPath.__init__", defArgs s_BadPath_init, defBody s_BadPath_init, defScope s_BadPath_init, [], []⟩
abbrev s_BadPosition_init : Stmt := inS 10 0
def dd_BadPosition_init : DefD := ⟨("BadPosition", some "__init__"), "__init__", "BadPosition.__init__", defArgs s_BadPosition_init, defBody s_BadPosition_init, defScope s_BadPosition_init, [], []⟩
abbrev s_BadStep_init : Stmt := inS 7 0
def dd_BadStep_init : DefD := ⟨("BadStep", some "__init__"), "__init__", "BadStep.__init__", defArgs s_BadStep_init, defBody s_BadStep_init, defScope s_BadStep_init, [], []⟩
abbrev s_BadText_init : Stmt := inS 27 0
def dd_BadText_init : DefD := ⟨("BadText", some "__init__"), "__init__", "BadText.__init__", defArgs s_BadText_init, defBody s_BadText_init, defScope s_BadText_init, [], []⟩
abbrev s_BadWeight_init : Stmt := inS 17 0
def dd_BadWeight_init : DefD := ⟨("BadWeight", some "__init__"), "__init__", "BadWeight.__init__", defArgs s_BadWeight_init, defBody s_BadWeight_init, defScope s_BadWeight_init, [], []⟩
abbrev s_Bare_init : Stmt := inS 14 0
def dd_Bare_init : DefD := ⟨("Bare", some "__init__"), "__init__", "Bare.__init__", defArgs s_Bare_init, defBody s_Bare_init, defScope s_Bare_init, [], []⟩
abbrev s_Broken_init : Stmt := inS 25 0
def dd_Broken_init : DefD := ⟨("Broken", some "__init__"), "__init__", "Broken.__init__", defArgs s_Broken_init, defBody s_Broken_init, defScope s_Broken_init, [], []⟩
abbrev s_Full_init : Stmt := inS 4 0
def dd_Full_init : DefD := ⟨("Full", some "__init__"), "__init__", "Full.__init__", defArgs s_Full_init, defBody s_Full_init, defScope s_Full_init, [], []⟩
abbrev s_InUse_init : Stmt := inS 23 0
def dd_InUse_init : DefD := ⟨("InUse", some "__init__"), "__init__", "InUse.__init__", defArgs s_InUse_init, defBody s_InUse_init, defScope s_InUse_init, [], []⟩
abbrev s_NoBeginning_init : Stmt := inS 15 0
def dd_NoBeginning_init : DefD := ⟨("NoBeginning", some "__init__"), "__init__", "NoBeginning.__init__", defArgs s_NoBeginning_init, defBody s_NoBeginning_init, defScope s_NoBeginning_init, [], []⟩
abbrev s_NoEdge_init : Stmt := inS 29 0
def dd_NoEdge_init : DefD := ⟨("NoEdge", some "__init__"), "__init__", "NoEdge.__init__", defArgs s_NoEdge_init, defBody s_NoEdge_init, defScope s_NoEdge_init, [], []⟩
abbrev s_NoNet_init : Stmt := inS 30 0
def dd_NoNet_init : DefD := ⟨("NoNet", some "__init__"), "__init__", "NoNet.__init__", defArgs s_NoNet_init, defBody s_NoNet_init, defScope s_NoNet_init, [], []⟩
abbrev s_NoNode_init : Stmt := inS 28 0
def dd_NoNode_init : DefD := ⟨("NoNode", some "__init__"), "__init__", "NoNode.__init__", defArgs s_NoNode_init, defBody s_NoNode_init, defScope s_NoNode_init, [], []⟩
abbrev s_NoPath_init : Stmt := inS 31 0
def dd_NoPath_init : DefD := ⟨("NoPath", some "__init__"), "__init__", "NoPath.__init__", defArgs s_NoPath_init, defBody s_NoPath_init, defScope s_NoPath_init, [], []⟩
abbrev s_NoSwap_init : Stmt := inS 35 0
def dd_NoSwap_init : DefD := ⟨("NoSwap", some "__init__"), "__init__", "NoSwap.__init__", defArgs s_NoSwap_init, defBody s_NoSwap_init, defScope s_NoSwap_init, [], []⟩
abbrev s_NoTiling_init : Stmt := inS 32 0
def dd_NoTiling_init : DefD := ⟨("NoTiling", some "__init__"), "__init__", "NoTiling.__init__", defArgs s_NoTiling_init, defBody s_NoTiling_init, defScope s_NoTiling_init, [], []⟩
abbrev s_NoWatch_init : Stmt := inS 33 0
def dd_NoWatch_init : DefD := ⟨("NoWatch", some "__init__"), "__init__", "NoWatch.__init__", defArgs s_NoWatch_init, defBody s_NoWatch_init, defScope s_NoWatch_init, [], []⟩
abbrev s_NotClosed_init : Stmt := inS 13 0
def dd_NotClosed_init : DefD := ⟨("NotClosed", some "__init__"), "__init__", "NotClosed.__init__", defArgs s_NotClosed_init, defBody s_NotClosed_init, defScope s_NotClosed_init, [], []⟩
abbrev s_NothingLeft_init : Stmt := inS 34 0
def dd_NothingLeft_init : DefD := ⟨("NothingLeft", some "__init__"), "__init__", "NothingLeft.__init__", defArgs s_NothingLeft_init, defBody s_NothingLeft_init, defScope s_NothingLeft_init, [], []⟩
abbrev s_OtherNet_init : Stmt := inS 19 0
def dd_OtherNet_init : DefD := ⟨("OtherNet", some "__init__"), "__init__", "OtherNet.__init__", defArgs s_OtherNet_init, defBody s_OtherNet_init, defScope s_OtherNet_init, [], []⟩
abbrev s_Stopped_init : Stmt := inS 26 0
def dd_Stopped_init : DefD := ⟨("Stopped", some "__init__"), "__init__", "Stopped.__init__", defArgs s_Stopped_init, defBody s_Stopped_init, defScope s_Stopped_init, [], []⟩
abbrev s_TooLong_init : Stmt := inS 12 0
def dd_TooLong_init : DefD := ⟨("TooLong", some "__init__"), "__init__", "TooLong.__init__", defArgs s_TooLong_init, defBody s_TooLong_init, defScope s_TooLong_init, [], []⟩
abbrev s_Unbalanced_init : Stmt := inS 18 0
def dd_Unbalanced_init : DefD := ⟨("Unbalanced", some "__init__"), "__init__", "Unbalanced.__init__", defArgs s_Unbalanced_init, defBody s_Unbalanced_init, defScope s_Unbalanced_init, [], []⟩
abbrev s_Uneven_init : Stmt := inS 16 0
def dd_Uneven_init : DefD := ⟨("Uneven", some "__init__"), "__init__", "Uneven.__init__", defArgs s_Uneven_init, defBody s_Uneven_init, defScope s_Uneven_init, [], []⟩
abbrev s_Unsound_init : Stmt := inS 24 0
def dd_Unsound_init : DefD := ⟨("Unsound", some "__init__"), "__init__", "Unsound.__init__", defArgs s_Unsound_init, defBody s_Unsound_init, defScope s_Unsound_init, [], []⟩
def fn : List DefD := [dd_l_bag, dd_l_take, dd_l_flags, dd_l_values, dd_l_due, dd_l_errors, dd_l_named, dd_l_alike, dd_law, dd_Apart_init, dd_BadColors_init, dd_BadDeed_init, dd_BadDegree_init, dd_BadKind_init, dd_BadName_init, dd_BadNet_init, dd_BadNumber_init, dd_BadPath_init, dd_BadPosition_init, dd_BadStep_init, dd_BadText_init, dd_BadWeight_init, dd_Bare_init, dd_Broken_init, dd_Full_init, dd_InUse_init, dd_NoBeginning_init, dd_NoEdge_init, dd_NoNet_init, dd_NoNode_init, dd_NoPath_init, dd_NoSwap_init, dd_NoTiling_init, dd_NoWatch_init, dd_NotClosed_init, dd_NothingLeft_init, dd_OtherNet_init, dd_Stopped_init, dd_TooLong_init, dd_Unbalanced_init, dd_Uneven_init, dd_Unsound_init]
def fa : List Fa := [.free "list", .free "len", .free "isinstance", .glo "BadNumber", .glo "Full", .glo "BadNet", .glo "BadPath", .glo "BadStep", .glo "BadColors", .glo "BadDegree", .glo "BadPosition", .glo "Apart", .glo "TooLong", .glo "NotClosed", .glo "Bare", .glo "NoBeginning", .glo "Uneven", .glo "BadWeight", .glo "Unbalanced", .glo "OtherNet", .glo "BadName", .glo "BadKind", .glo "BadDeed", .glo "InUse", .glo "Unsound", .glo "Broken", .glo "Stopped", .glo "BadText", .glo "NoNode", .glo "NoEdge", .glo "NoNet", .glo "NoPath", .glo "NoTiling", .glo "NoWatch", .glo "NothingLeft", .glo "NoSwap", .free "tuple", .free "range", .free "all", .free "bool", .free "int", .free "str", .glo "RoadError", .free "ValueError", .glo "RoadMissing", .free "LookupError", .glo "_law_bag", .glo "_law_take", .glo "_law_flags", .glo "_law_values", .glo "_law_due", .glo "_law_errors", .glo "_law_named", .glo "_law_alike", .glo "law"]
def exL : List (PySem.W.Frag → Bool) := [fun K => isEB K ((["Apart", "BadColors", "BadDeed", "BadDegree", "BadKind", "BadName", "BadNet", "BadNumber", "BadPath", "BadPosition", "BadStep", "BadText", "BadWeight", "Bare", "Broken", "Full"] : List Str) ++ (["InUse", "NoBeginning", "NoEdge", "NoNet", "NoNode", "NoPath", "NoSwap", "NoTiling", "NoWatch", "NotClosed", "NothingLeft", "OtherNet", "Stopped", "TooLong", "Unbalanced", "Uneven", "Unsound"] : List Str)) [false, false, false, false, false, false, false, true, false, false, false, false, false, false, false, false, false, false, false, false, false, false, false, false, false, false, false, false, false, false, false, false, false] (.ref (ga K "BadNumber")), fun K => isEB K ((["Apart", "BadColors", "BadDeed", "BadDegree", "BadKind", "BadName", "BadNet", "BadNumber", "BadPath", "BadPosition", "BadStep", "BadText", "BadWeight", "Bare", "Broken", "Full"] : List Str) ++ (["InUse", "NoBeginning", "NoEdge", "NoNet", "NoNode", "NoPath", "NoSwap", "NoTiling", "NoWatch", "NotClosed", "NothingLeft", "OtherNet", "Stopped", "TooLong", "Unbalanced", "Uneven", "Unsound"] : List Str)) [false, false, false, false, false, false, false, false, false, false, false, false, false, false, false, true, false, false, false, false, false, false, false, false, false, false, false, false, false, false, false, false, false] (.ref (ga K "Full")), fun K => isEB K ((["Apart", "BadColors", "BadDeed", "BadDegree", "BadKind", "BadName", "BadNet", "BadNumber", "BadPath", "BadPosition", "BadStep", "BadText", "BadWeight", "Bare", "Broken", "Full"] : List Str) ++ (["InUse", "NoBeginning", "NoEdge", "NoNet", "NoNode", "NoPath", "NoSwap", "NoTiling", "NoWatch", "NotClosed", "NothingLeft", "OtherNet", "Stopped", "TooLong", "Unbalanced", "Uneven", "Unsound"] : List Str)) [false, false, false, false, false, false, true, false, false, false, false, false, false, false, false, false, false, false, false, false, false, false, false, false, false, false, false, false, false, false, false, false, false] (.ref (ga K "BadNet")), fun K => isEB K ((["Apart", "BadColors", "BadDeed", "BadDegree", "BadKind", "BadName", "BadNet", "BadNumber", "BadPath", "BadPosition", "BadStep", "BadText", "BadWeight", "Bare", "Broken", "Full"] : List Str) ++ (["InUse", "NoBeginning", "NoEdge", "NoNet", "NoNode", "NoPath", "NoSwap", "NoTiling", "NoWatch", "NotClosed", "NothingLeft", "OtherNet", "Stopped", "TooLong", "Unbalanced", "Uneven", "Unsound"] : List Str)) [false, false, false, false, false, false, false, false, true, false, false, false, false, false, false, false, false, false, false, false, false, false, false, false, false, false, false, false, false, false, false, false, false] (.ref (ga K "BadPath")), fun K => isEB K ((["Apart", "BadColors", "BadDeed", "BadDegree", "BadKind", "BadName", "BadNet", "BadNumber", "BadPath", "BadPosition", "BadStep", "BadText", "BadWeight", "Bare", "Broken", "Full"] : List Str) ++ (["InUse", "NoBeginning", "NoEdge", "NoNet", "NoNode", "NoPath", "NoSwap", "NoTiling", "NoWatch", "NotClosed", "NothingLeft", "OtherNet", "Stopped", "TooLong", "Unbalanced", "Uneven", "Unsound"] : List Str)) [false, false, false, false, false, false, false, false, false, false, true, false, false, false, false, false, false, false, false, false, false, false, false, false, false, false, false, false, false, false, false, false, false] (.ref (ga K "BadStep")), fun K => isEB K ((["Apart", "BadColors", "BadDeed", "BadDegree", "BadKind", "BadName", "BadNet", "BadNumber", "BadPath", "BadPosition", "BadStep", "BadText", "BadWeight", "Bare", "Broken", "Full"] : List Str) ++ (["InUse", "NoBeginning", "NoEdge", "NoNet", "NoNode", "NoPath", "NoSwap", "NoTiling", "NoWatch", "NotClosed", "NothingLeft", "OtherNet", "Stopped", "TooLong", "Unbalanced", "Uneven", "Unsound"] : List Str)) [false, true, false, false, false, false, false, false, false, false, false, false, false, false, false, false, false, false, false, false, false, false, false, false, false, false, false, false, false, false, false, false, false] (.ref (ga K "BadColors")), fun K => isEB K ((["Apart", "BadColors", "BadDeed", "BadDegree", "BadKind", "BadName", "BadNet", "BadNumber", "BadPath", "BadPosition", "BadStep", "BadText", "BadWeight", "Bare", "Broken", "Full"] : List Str) ++ (["InUse", "NoBeginning", "NoEdge", "NoNet", "NoNode", "NoPath", "NoSwap", "NoTiling", "NoWatch", "NotClosed", "NothingLeft", "OtherNet", "Stopped", "TooLong", "Unbalanced", "Uneven", "Unsound"] : List Str)) [false, false, false, true, false, false, false, false, false, false, false, false, false, false, false, false, false, false, false, false, false, false, false, false, false, false, false, false, false, false, false, false, false] (.ref (ga K "BadDegree")), fun K => isEB K ((["Apart", "BadColors", "BadDeed", "BadDegree", "BadKind", "BadName", "BadNet", "BadNumber", "BadPath", "BadPosition", "BadStep", "BadText", "BadWeight", "Bare", "Broken", "Full"] : List Str) ++ (["InUse", "NoBeginning", "NoEdge", "NoNet", "NoNode", "NoPath", "NoSwap", "NoTiling", "NoWatch", "NotClosed", "NothingLeft", "OtherNet", "Stopped", "TooLong", "Unbalanced", "Uneven", "Unsound"] : List Str)) [false, false, false, false, false, false, false, false, false, true, false, false, false, false, false, false, false, false, false, false, false, false, false, false, false, false, false, false, false, false, false, false, false] (.ref (ga K "BadPosition")), fun K => isEB K ((["Apart", "BadColors", "BadDeed", "BadDegree", "BadKind", "BadName", "BadNet", "BadNumber", "BadPath", "BadPosition", "BadStep", "BadText", "BadWeight", "Bare", "Broken", "Full"] : List Str) ++ (["InUse", "NoBeginning", "NoEdge", "NoNet", "NoNode", "NoPath", "NoSwap", "NoTiling", "NoWatch", "NotClosed", "NothingLeft", "OtherNet", "Stopped", "TooLong", "Unbalanced", "Uneven", "Unsound"] : List Str)) [true, false, false, false, false, false, false, false, false, false, false, false, false, false, false, false, false, false, false, false, false, false, false, false, false, false, false, false, false, false, false, false, false] (.ref (ga K "Apart")), fun K => isEB K ((["Apart", "BadColors", "BadDeed", "BadDegree", "BadKind", "BadName", "BadNet", "BadNumber", "BadPath", "BadPosition", "BadStep", "BadText", "BadWeight", "Bare", "Broken", "Full"] : List Str) ++ (["InUse", "NoBeginning", "NoEdge", "NoNet", "NoNode", "NoPath", "NoSwap", "NoTiling", "NoWatch", "NotClosed", "NothingLeft", "OtherNet", "Stopped", "TooLong", "Unbalanced", "Uneven", "Unsound"] : List Str)) [false, false, false, false, false, false, false, false, false, false, false, false, false, false, false, false, false, false, false, false, false, false, false, false, false, false, false, false, false, true, false, false, false] (.ref (ga K "TooLong")), fun K => isEB K ((["Apart", "BadColors", "BadDeed", "BadDegree", "BadKind", "BadName", "BadNet", "BadNumber", "BadPath", "BadPosition", "BadStep", "BadText", "BadWeight", "Bare", "Broken", "Full"] : List Str) ++ (["InUse", "NoBeginning", "NoEdge", "NoNet", "NoNode", "NoPath", "NoSwap", "NoTiling", "NoWatch", "NotClosed", "NothingLeft", "OtherNet", "Stopped", "TooLong", "Unbalanced", "Uneven", "Unsound"] : List Str)) [false, false, false, false, false, false, false, false, false, false, false, false, false, false, false, false, false, false, false, false, false, false, false, false, false, true, false, false, false, false, false, false, false] (.ref (ga K "NotClosed")), fun K => isEB K ((["Apart", "BadColors", "BadDeed", "BadDegree", "BadKind", "BadName", "BadNet", "BadNumber", "BadPath", "BadPosition", "BadStep", "BadText", "BadWeight", "Bare", "Broken", "Full"] : List Str) ++ (["InUse", "NoBeginning", "NoEdge", "NoNet", "NoNode", "NoPath", "NoSwap", "NoTiling", "NoWatch", "NotClosed", "NothingLeft", "OtherNet", "Stopped", "TooLong", "Unbalanced", "Uneven", "Unsound"] : List Str)) [false, false, false, false, false, false, false, false, false, false, false, false, false, true, false, false, false, false, false, false, false, false, false, false, false, false, false, false, false, false, false, false, false] (.ref (ga K "Bare")), fun K => isEB K ((["Apart", "BadColors", "BadDeed", "BadDegree", "BadKind", "BadName", "BadNet", "BadNumber", "BadPath", "BadPosition", "BadStep", "BadText", "BadWeight", "Bare", "Broken", "Full"] : List Str) ++ (["InUse", "NoBeginning", "NoEdge", "NoNet", "NoNode", "NoPath", "NoSwap", "NoTiling", "NoWatch", "NotClosed", "NothingLeft", "OtherNet", "Stopped", "TooLong", "Unbalanced", "Uneven", "Unsound"] : List Str)) [false, false, false, false, false, false, false, false, false, false, false, false, false, false, false, false, false, true, false, false, false, false, false, false, false, false, false, false, false, false, false, false, false] (.ref (ga K "NoBeginning")), fun K => isEB K ((["Apart", "BadColors", "BadDeed", "BadDegree", "BadKind", "BadName", "BadNet", "BadNumber", "BadPath", "BadPosition", "BadStep", "BadText", "BadWeight", "Bare", "Broken", "Full"] : List Str) ++ (["InUse", "NoBeginning", "NoEdge", "NoNet", "NoNode", "NoPath", "NoSwap", "NoTiling", "NoWatch", "NotClosed", "NothingLeft", "OtherNet", "Stopped", "TooLong", "Unbalanced", "Uneven", "Unsound"] : List Str)) [false, false, false, false, false, false, false, false, false, false, false, false, false, false, false, false, false, false, false, false, false, false, false, false, false, false, false, false, false, false, false, true, false] (.ref (ga K "Uneven")), fun K => isEB K ((["Apart", "BadColors", "BadDeed", "BadDegree", "BadKind", "BadName", "BadNet", "BadNumber", "BadPath", "BadPosition", "BadStep", "BadText", "BadWeight", "Bare", "Broken", "Full"] : List Str) ++ (["InUse", "NoBeginning", "NoEdge", "NoNet", "NoNode", "NoPath", "NoSwap", "NoTiling", "NoWatch", "NotClosed", "NothingLeft", "OtherNet", "Stopped", "TooLong", "Unbalanced", "Uneven", "Unsound"] : List Str)) [false, false, false, false, false, false, false, false, false, false, false, false, true, false, false, false, false, false, false, false, false, false, false, false, false, false, false, false, false, false, false, false, false] (.ref (ga K "BadWeight")), fun K => isEB K ((["Apart", "BadColors", "BadDeed", "BadDegree", "BadKind", "BadName", "BadNet", "BadNumber", "BadPath", "BadPosition", "BadStep", "BadText", "BadWeight", "Bare", "Broken", "Full"] : List Str) ++ (["InUse", "NoBeginning", "NoEdge", "NoNet", "NoNode", "NoPath", "NoSwap", "NoTiling", "NoWatch", "NotClosed", "NothingLeft", "OtherNet", "Stopped", "TooLong", "Unbalanced", "Uneven", "Unsound"] : List Str)) [false, false, false, false, false, false, false, false, false, false, false, false, false, false, false, false, false, false, false, false, false, false, false, false, false, false, false, false, false, false, true, false, false] (.ref (ga K "Unbalanced")), fun K => isEB K ((["Apart", "BadColors", "BadDeed", "BadDegree", "BadKind", "BadName", "BadNet", "BadNumber", "BadPath", "BadPosition", "BadStep", "BadText", "BadWeight", "Bare", "Broken", "Full"] : List Str) ++ (["InUse", "NoBeginning", "NoEdge", "NoNet", "NoNode", "NoPath", "NoSwap", "NoTiling", "NoWatch", "NotClosed", "NothingLeft", "OtherNet", "Stopped", "TooLong", "Unbalanced", "Uneven", "Unsound"] : List Str)) [false, false, false, false, false, false, false, false, false, false, false, false, false, false, false, false, false, false, false, false, false, false, false, false, false, false, false, true, false, false, false, false, false] (.ref (ga K "OtherNet")), fun K => isEB K ((["Apart", "BadColors", "BadDeed", "BadDegree", "BadKind", "BadName", "BadNet", "BadNumber", "BadPath", "BadPosition", "BadStep", "BadText", "BadWeight", "Bare", "Broken", "Full"] : List Str) ++ (["InUse", "NoBeginning", "NoEdge", "NoNet", "NoNode", "NoPath", "NoSwap", "NoTiling", "NoWatch", "NotClosed", "NothingLeft", "OtherNet", "Stopped", "TooLong", "Unbalanced", "Uneven", "Unsound"] : List Str)) [false, false, false, false, false, true, false, false, false, false, false, false, false, false, false, false, false, false, false, false, false, false, false, false, false, false, false, false, false, false, false, false, false] (.ref (ga K "BadName")), fun K => isEB K ((["Apart", "BadColors", "BadDeed", "BadDegree", "BadKind", "BadName", "BadNet", "BadNumber", "BadPath", "BadPosition", "BadStep", "BadText", "BadWeight", "Bare", "Broken", "Full"] : List Str) ++ (["InUse", "NoBeginning", "NoEdge", "NoNet", "NoNode", "NoPath", "NoSwap", "NoTiling", "NoWatch", "NotClosed", "NothingLeft", "OtherNet", "Stopped", "TooLong", "Unbalanced", "Uneven", "Unsound"] : List Str)) [false, false, false, false, true, false, false, false, false, false, false, false, false, false, false, false, false, false, false, false, false, false, false, false, false, false, false, false, false, false, false, false, false] (.ref (ga K "BadKind")), fun K => isEB K ((["Apart", "BadColors", "BadDeed", "BadDegree", "BadKind", "BadName", "BadNet", "BadNumber", "BadPath", "BadPosition", "BadStep", "BadText", "BadWeight", "Bare", "Broken", "Full"] : List Str) ++ (["InUse", "NoBeginning", "NoEdge", "NoNet", "NoNode", "NoPath", "NoSwap", "NoTiling", "NoWatch", "NotClosed", "NothingLeft", "OtherNet", "Stopped", "TooLong", "Unbalanced", "Uneven", "Unsound"] : List Str)) [false, false, true, false, false, false, false, false, false, false, false, false, false, false, false, false, false, false, false, false, false, false, false, false, false, false, false, false, false, false, false, false, false] (.ref (ga K "BadDeed")), fun K => isEB K ((["Apart", "BadColors", "BadDeed", "BadDegree", "BadKind", "BadName", "BadNet", "BadNumber", "BadPath", "BadPosition", "BadStep", "BadText", "BadWeight", "Bare", "Broken", "Full"] : List Str) ++ (["InUse", "NoBeginning", "NoEdge", "NoNet", "NoNode", "NoPath", "NoSwap", "NoTiling", "NoWatch", "NotClosed", "NothingLeft", "OtherNet", "Stopped", "TooLong", "Unbalanced", "Uneven", "Unsound"] : List Str)) [false, false, false, false, false, false, false, false, false, false, false, false, false, false, false, false, true, false, false, false, false, false, false, false, false, false, false, false, false, false, false, false, false] (.ref (ga K "InUse")), fun K => isEB K ((["Apart", "BadColors", "BadDeed", "BadDegree", "BadKind", "BadName", "BadNet", "BadNumber", "BadPath", "BadPosition", "BadStep", "BadText", "BadWeight", "Bare", "Broken", "Full"] : List Str) ++ (["InUse", "NoBeginning", "NoEdge", "NoNet", "NoNode", "NoPath", "NoSwap", "NoTiling", "NoWatch", "NotClosed", "NothingLeft", "OtherNet", "Stopped", "TooLong", "Unbalanced", "Uneven", "Unsound"] : List Str)) [false, false, false, false, false, false, false, false, false, false, false, false, false, false, false, false, false, false, false, false, false, false, false, false, false, false, false, false, false, false, false, false, true] (.ref (ga K "Unsound")), fun K => isEB K ((["Apart", "BadColors", "BadDeed", "BadDegree", "BadKind", "BadName", "BadNet", "BadNumber", "BadPath", "BadPosition", "BadStep", "BadText", "BadWeight", "Bare", "Broken", "Full"] : List Str) ++ (["InUse", "NoBeginning", "NoEdge", "NoNet", "NoNode", "NoPath", "NoSwap", "NoTiling", "NoWatch", "NotClosed", "NothingLeft", "OtherNet", "Stopped", "TooLong", "Unbalanced", "Uneven", "Unsound"] : List Str)) [false, false, false, false, false, false, false, false, false, false, false, false, false, false, true, false, false, false, false, false, false, false, false, false, false, false, false, false, false, false, false, false, false] (.ref (ga K "Broken")), fun K => isEB K ((["Apart", "BadColors", "BadDeed", "BadDegree", "BadKind", "BadName", "BadNet", "BadNumber", "BadPath", "BadPosition", "BadStep", "BadText", "BadWeight", "Bare", "Broken", "Full"] : List Str) ++ (["InUse", "NoBeginning", "NoEdge", "NoNet", "NoNode", "NoPath", "NoSwap", "NoTiling", "NoWatch", "NotClosed", "NothingLeft", "OtherNet", "Stopped", "TooLong", "Unbalanced", "Uneven", "Unsound"] : List Str)) [false, false, false, false, false, false, false, false, false, false, false, false, false, false, false, false, false, false, false, false, false, false, false, false, false, false, false, false, true, false, false, false, false] (.ref (ga K "Stopped")), fun K => isEB K ((["Apart", "BadColors", "BadDeed", "BadDegree", "BadKind", "BadName", "BadNet", "BadNumber", "BadPath", "BadPosition", "BadStep", "BadText", "BadWeight", "Bare", "Broken", "Full"] : List Str) ++ (["InUse", "NoBeginning", "NoEdge", "NoNet", "NoNode", "NoPath", "NoSwap", "NoTiling", "NoWatch", "NotClosed", "NothingLeft", "OtherNet", "Stopped", "TooLong", "Unbalanced", "Uneven", "Unsound"] : List Str)) [false, false, false, false, false, false, false, false, false, false, false, true, false, false, false, false, false, false, false, false, false, false, false, false, false, false, false, false, false, false, false, false, false] (.ref (ga K "BadText")), fun K => isEB K ((["Apart", "BadColors", "BadDeed", "BadDegree", "BadKind", "BadName", "BadNet", "BadNumber", "BadPath", "BadPosition", "BadStep", "BadText", "BadWeight", "Bare", "Broken", "Full"] : List Str) ++ (["InUse", "NoBeginning", "NoEdge", "NoNet", "NoNode", "NoPath", "NoSwap", "NoTiling", "NoWatch", "NotClosed", "NothingLeft", "OtherNet", "Stopped", "TooLong", "Unbalanced", "Uneven", "Unsound"] : List Str)) [false, false, false, false, false, false, false, false, false, false, false, false, false, false, false, false, false, false, false, false, true, false, false, false, false, false, false, false, false, false, false, false, false] (.ref (ga K "NoNode")), fun K => isEB K ((["Apart", "BadColors", "BadDeed", "BadDegree", "BadKind", "BadName", "BadNet", "BadNumber", "BadPath", "BadPosition", "BadStep", "BadText", "BadWeight", "Bare", "Broken", "Full"] : List Str) ++ (["InUse", "NoBeginning", "NoEdge", "NoNet", "NoNode", "NoPath", "NoSwap", "NoTiling", "NoWatch", "NotClosed", "NothingLeft", "OtherNet", "Stopped", "TooLong", "Unbalanced", "Uneven", "Unsound"] : List Str)) [false, false, false, false, false, false, false, false, false, false, false, false, false, false, false, false, false, false, true, false, false, false, false, false, false, false, false, false, false, false, false, false, false] (.ref (ga K "NoEdge")), fun K => isEB K ((["Apart", "BadColors", "BadDeed", "BadDegree", "BadKind", "BadName", "BadNet", "BadNumber", "BadPath", "BadPosition", "BadStep", "BadText", "BadWeight", "Bare", "Broken", "Full"] : List Str) ++ (["InUse", "NoBeginning", "NoEdge", "NoNet", "NoNode", "NoPath", "NoSwap", "NoTiling", "NoWatch", "NotClosed", "NothingLeft", "OtherNet", "Stopped", "TooLong", "Unbalanced", "Uneven", "Unsound"] : List Str)) [false, false, false, false, false, false, false, false, false, false, false, false, false, false, false, false, false, false, false, true, false, false, false, false, false, false, false, false, false, false, false, false, false] (.ref (ga K "NoNet")), fun K => isEB K ((["Apart", "BadColors", "BadDeed", "BadDegree", "BadKind", "BadName", "BadNet", "BadNumber", "BadPath", "BadPosition", "BadStep", "BadText", "BadWeight", "Bare", "Broken", "Full"] : List Str) ++ (["InUse", "NoBeginning", "NoEdge", "NoNet", "NoNode", "NoPath", "NoSwap", "NoTiling", "NoWatch", "NotClosed", "NothingLeft", "OtherNet", "Stopped", "TooLong", "Unbalanced", "Uneven", "Unsound"] : List Str)) [false, false, false, false, false, false, false, false, false, false, false, false, false, false, false, false, false, false, false, false, false, true, false, false, false, false, false, false, false, false, false, false, false] (.ref (ga K "NoPath")), fun K => isEB K ((["Apart", "BadColors", "BadDeed", "BadDegree", "BadKind", "BadName", "BadNet", "BadNumber", "BadPath", "BadPosition", "BadStep", "BadText", "BadWeight", "Bare", "Broken", "Full"] : List Str) ++ (["InUse", "NoBeginning", "NoEdge", "NoNet", "NoNode", "NoPath", "NoSwap", "NoTiling", "NoWatch", "NotClosed", "NothingLeft", "OtherNet", "Stopped", "TooLong", "Unbalanced", "Uneven", "Unsound"] : List Str)) [false, false, false, false, false, false, false, false, false, false, false, false, false, false, false, false, false, false, false, false, false, false, false, true, false, false, false, false, false, false, false, false, false] (.ref (ga K "NoTiling")), fun K => isEB K ((["Apart", "BadColors", "BadDeed", "BadDegree", "BadKind", "BadName", "BadNet", "BadNumber", "BadPath", "BadPosition", "BadStep", "BadText", "BadWeight", "Bare", "Broken", "Full"] : List Str) ++ (["InUse", "NoBeginning", "NoEdge", "NoNet", "NoNode", "NoPath", "NoSwap", "NoTiling", "NoWatch", "NotClosed", "NothingLeft", "OtherNet", "Stopped", "TooLong", "Unbalanced", "Uneven", "Unsound"] : List Str)) [false, false, false, false, false, false, false, false, false, false, false, false, false, false, false, false, false, false, false, false, false, false, false, false, true, false, false, false, false, false, false, false, false] (.ref (ga K "NoWatch")), fun K => isEB K ((["Apart", "BadColors", "BadDeed", "BadDegree", "BadKind", "BadName", "BadNet", "BadNumber", "BadPath", "BadPosition", "BadStep", "BadText", "BadWeight", "Bare", "Broken", "Full"] : List Str) ++ (["InUse", "NoBeginning", "NoEdge", "NoNet", "NoNode", "NoPath", "NoSwap", "NoTiling", "NoWatch", "NotClosed", "NothingLeft", "OtherNet", "Stopped", "TooLong", "Unbalanced", "Uneven", "Unsound"] : List Str)) [false, false, false, false, false, false, false, false, false, false, false, false, false, false, false, false, false, false, false, false, false, false, false, false, false, false, true, false, false, false, false, false, false] (.ref (ga K "NothingLeft")), fun K => isEB K ((["Apart", "BadColors", "BadDeed", "BadDegree", "BadKind", "BadName", "BadNet", "BadNumber", "BadPath", "BadPosition", "BadStep", "BadText", "BadWeight", "Bare", "Broken", "Full"] : List Str) ++ (["InUse", "NoBeginning", "NoEdge", "NoNet", "NoNode", "NoPath", "NoSwap", "NoTiling", "NoWatch", "NotClosed", "NothingLeft", "OtherNet", "Stopped", "TooLong", "Unbalanced", "Uneven", "Unsound"] : List Str)) [false, false, false, false, false, false, false, false, false, false, false, false, false, false, false, false, false, false, false, false, false, false, true, false, false, false, false, false, false, false, false, false, false] (.ref (ga K "NoSwap")), fun K => isETB K ((["Apart", "BadColors", "BadDeed", "BadDegree", "BadKind", "BadName", "BadNet", "BadNumber", "BadPath", "BadPosition", "BadStep", "BadText", "BadWeight", "Bare", "Broken", "Full"] : List Str) ++ (["InUse", "NoBeginning", "NoEdge", "NoNet", "NoNode", "NoPath", "NoSwap", "NoTiling", "NoWatch", "NotClosed", "NothingLeft", "OtherNet", "Stopped", "TooLong", "Unbalanced", "Uneven", "Unsound"] : List Str)) [false, false, false, false, false, false, false, true, false, false, false, false, false, false, false, false, false, false, false, false, false, false, false, false, true, false, false, false, false, false, false, false, false] ["BadNumber", "NoWatch"], fun K => fldEB K ((["Apart", "BadColors", "BadDeed", "BadDegree", "BadKind", "BadName", "BadNet", "BadNumber", "BadPath", "BadPosition", "BadStep", "BadText", "BadWeight", "Bare", "Broken", "Full"] : List Str) ++ (["InUse", "NoBeginning", "NoEdge", "NoNet", "NoNode", "NoPath", "NoSwap", "NoTiling", "NoWatch", "NotClosed", "NothingLeft", "OtherNet", "Stopped", "TooLong", "Unbalanced", "Uneven", "Unsound"] : List Str)) "number", fun K => fldEB K ((["Apart", "BadColors", "BadDeed", "BadDegree", "BadKind", "BadName", "BadNet", "BadNumber", "BadPath", "BadPosition", "BadStep", "BadText", "BadWeight", "Bare", "Broken", "Full"] : List Str) ++ (["InUse", "NoBeginning", "NoEdge", "NoNet", "NoNode", "NoPath", "NoSwap", "NoTiling", "NoWatch", "NotClosed", "NothingLeft", "OtherNet", "Stopped", "TooLong", "Unbalanced", "Uneven", "Unsound"] : List Str)) "bound", fun K => fldEB K ((["Apart", "BadColors", "BadDeed", "BadDegree", "BadKind", "BadName", "BadNet", "BadNumber", "BadPath", "BadPosition", "BadStep", "BadText", "BadWeight", "Bare", "Broken", "Full"] : List Str) ++ (["InUse", "NoBeginning", "NoEdge", "NoNet", "NoNode", "NoPath", "NoSwap", "NoTiling", "NoWatch", "NotClosed", "NothingLeft", "OtherNet", "Stopped", "TooLong", "Unbalanced", "Uneven", "Unsound"] : List Str)) "fault", fun K => isETB K ((["Apart", "BadColors", "BadDeed", "BadDegree", "BadKind", "BadName", "BadNet", "BadNumber", "BadPath", "BadPosition", "BadStep", "BadText", "BadWeight", "Bare", "Broken", "Full"] : List Str) ++ (["InUse", "NoBeginning", "NoEdge", "NoNet", "NoNode", "NoPath", "NoSwap", "NoTiling", "NoWatch", "NotClosed", "NothingLeft", "OtherNet", "Stopped", "TooLong", "Unbalanced", "Uneven", "Unsound"] : List Str)) [false, false, false, false, false, false, false, false, true, false, true, false, true, false, false, false, false, false, false, false, false, false, false, false, false, false, false, false, false, false, true, false, false] ["BadPath", "BadStep", "BadWeight", "Unbalanced"], fun K => fldEB K ((["Apart", "BadColors", "BadDeed", "BadDegree", "BadKind", "BadName", "BadNet", "BadNumber", "BadPath", "BadPosition", "BadStep", "BadText", "BadWeight", "Bare", "Broken", "Full"] : List Str) ++ (["InUse", "NoBeginning", "NoEdge", "NoNet", "NoNode", "NoPath", "NoSwap", "NoTiling", "NoWatch", "NotClosed", "NothingLeft", "OtherNet", "Stopped", "TooLong", "Unbalanced", "Uneven", "Unsound"] : List Str)) "at", fun K => fldEB K ((["Apart", "BadColors", "BadDeed", "BadDegree", "BadKind", "BadName", "BadNet", "BadNumber", "BadPath", "BadPosition", "BadStep", "BadText", "BadWeight", "Bare", "Broken", "Full"] : List Str) ++ (["InUse", "NoBeginning", "NoEdge", "NoNet", "NoNode", "NoPath", "NoSwap", "NoTiling", "NoWatch", "NotClosed", "NothingLeft", "OtherNet", "Stopped", "TooLong", "Unbalanced", "Uneven", "Unsound"] : List Str)) "color", fun K => fldEB K ((["Apart", "BadColors", "BadDeed", "BadDegree", "BadKind", "BadName", "BadNet", "BadNumber", "BadPath", "BadPosition", "BadStep", "BadText", "BadWeight", "Bare", "Broken", "Full"] : List Str) ++ (["InUse", "NoBeginning", "NoEdge", "NoNet", "NoNode", "NoPath", "NoSwap", "NoTiling", "NoWatch", "NotClosed", "NothingLeft", "OtherNet", "Stopped", "TooLong", "Unbalanced", "Uneven", "Unsound"] : List Str)) "first", fun K => fldEB K ((["Apart", "BadColors", "BadDeed", "BadDegree", "BadKind", "BadName", "BadNet", "BadNumber", "BadPath", "BadPosition", "BadStep", "BadText", "BadWeight", "Bare", "Broken", "Full"] : List Str) ++ (["InUse", "NoBeginning", "NoEdge", "NoNet", "NoNode", "NoPath", "NoSwap", "NoTiling", "NoWatch", "NotClosed", "NothingLeft", "OtherNet", "Stopped", "TooLong", "Unbalanced", "Uneven", "Unsound"] : List Str)) "last", fun K => fldEB K ((["Apart", "BadColors", "BadDeed", "BadDegree", "BadKind", "BadName", "BadNet", "BadNumber", "BadPath", "BadPosition", "BadStep", "BadText", "BadWeight", "Bare", "Broken", "Full"] : List Str) ++ (["InUse", "NoBeginning", "NoEdge", "NoNet", "NoNode", "NoPath", "NoSwap", "NoTiling", "NoWatch", "NotClosed", "NothingLeft", "OtherNet", "Stopped", "TooLong", "Unbalanced", "Uneven", "Unsound"] : List Str)) "by", fun K => fldEB K ((["Apart", "BadColors", "BadDeed", "BadDegree", "BadKind", "BadName", "BadNet", "BadNumber", "BadPath", "BadPosition", "BadStep", "BadText", "BadWeight", "Bare", "Broken", "Full"] : List Str) ++ (["InUse", "NoBeginning", "NoEdge", "NoNet", "NoNode", "NoPath", "NoSwap", "NoTiling", "NoWatch", "NotClosed", "NothingLeft", "OtherNet", "Stopped", "TooLong", "Unbalanced", "Uneven", "Unsound"] : List Str)) "name", fun K => isETB K ((["Apart", "BadColors", "BadDeed", "BadDegree", "BadKind", "BadName", "BadNet", "BadNumber", "BadPath", "BadPosition", "BadStep", "BadText", "BadWeight", "Bare", "Broken", "Full"] : List Str) ++ (["InUse", "NoBeginning", "NoEdge", "NoNet", "NoNode", "NoPath", "NoSwap", "NoTiling", "NoWatch", "NotClosed", "NothingLeft", "OtherNet", "Stopped", "TooLong", "Unbalanced", "Uneven", "Unsound"] : List Str)) [false, false, false, false, false, false, false, false, false, false, false, false, false, false, true, false, false, false, false, true, false, true, false, true, false, false, false, false, false, false, false, false, false] ["Broken", "NoNet", "NoPath", "NoTiling"], fun K => fldEB K ((["Apart", "BadColors", "BadDeed", "BadDegree", "BadKind", "BadName", "BadNet", "BadNumber", "BadPath", "BadPosition", "BadStep", "BadText", "BadWeight", "Bare", "Broken", "Full"] : List Str) ++ (["InUse", "NoBeginning", "NoEdge", "NoNet", "NoNode", "NoPath", "NoSwap", "NoTiling", "NoWatch", "NotClosed", "NothingLeft", "OtherNet", "Stopped", "TooLong", "Unbalanced", "Uneven", "Unsound"] : List Str)) "cause", fun K => fldEB K ((["Apart", "BadColors", "BadDeed", "BadDegree", "BadKind", "BadName", "BadNet", "BadNumber", "BadPath", "BadPosition", "BadStep", "BadText", "BadWeight", "Bare", "Broken", "Full"] : List Str) ++ (["InUse", "NoBeginning", "NoEdge", "NoNet", "NoNode", "NoPath", "NoSwap", "NoTiling", "NoWatch", "NotClosed", "NothingLeft", "OtherNet", "Stopped", "TooLong", "Unbalanced", "Uneven", "Unsound"] : List Str)) "row", fun K => fldEB K ((["Apart", "BadColors", "BadDeed", "BadDegree", "BadKind", "BadName", "BadNet", "BadNumber", "BadPath", "BadPosition", "BadStep", "BadText", "BadWeight", "Bare", "Broken", "Full"] : List Str) ++ (["InUse", "NoBeginning", "NoEdge", "NoNet", "NoNode", "NoPath", "NoSwap", "NoTiling", "NoWatch", "NotClosed", "NothingLeft", "OtherNet", "Stopped", "TooLong", "Unbalanced", "Uneven", "Unsound"] : List Str)) "node", fun K => fldEB K ((["Apart", "BadColors", "BadDeed", "BadDegree", "BadKind", "BadName", "BadNet", "BadNumber", "BadPath", "BadPosition", "BadStep", "BadText", "BadWeight", "Bare", "Broken", "Full"] : List Str) ++ (["InUse", "NoBeginning", "NoEdge", "NoNet", "NoNode", "NoPath", "NoSwap", "NoTiling", "NoWatch", "NotClosed", "NothingLeft", "OtherNet", "Stopped", "TooLong", "Unbalanced", "Uneven", "Unsound"] : List Str)) "edge", fun K => isEB K ((["Apart", "BadColors", "BadDeed", "BadDegree", "BadKind", "BadName", "BadNet", "BadNumber", "BadPath", "BadPosition", "BadStep", "BadText", "BadWeight", "Bare", "Broken", "Full"] : List Str) ++ (["InUse", "NoBeginning", "NoEdge", "NoNet", "NoNode", "NoPath", "NoSwap", "NoTiling", "NoWatch", "NotClosed", "NothingLeft", "OtherNet", "Stopped", "TooLong", "Unbalanced", "Uneven", "Unsound"] : List Str)) [true, true, true, true, true, true, true, true, true, true, true, true, true, true, true, true, true, true, false, false, false, false, false, false, false, true, false, true, true, true, true, true, true] (.ref (ga K "RoadError")), fun K => isEB K ((["Apart", "BadColors", "BadDeed", "BadDegree", "BadKind", "BadName", "BadNet", "BadNumber", "BadPath", "BadPosition", "BadStep", "BadText", "BadWeight", "Bare", "Broken", "Full"] : List Str) ++ (["InUse", "NoBeginning", "NoEdge", "NoNet", "NoNode", "NoPath", "NoSwap", "NoTiling", "NoWatch", "NotClosed", "NothingLeft", "OtherNet", "Stopped", "TooLong", "Unbalanced", "Uneven", "Unsound"] : List Str)) [true, true, true, true, true, true, true, true, true, true, true, true, true, true, true, true, true, true, false, false, false, false, false, false, false, true, false, true, true, true, true, true, true] (.type "ValueError"), fun K => isEB K ((["Apart", "BadColors", "BadDeed", "BadDegree", "BadKind", "BadName", "BadNet", "BadNumber", "BadPath", "BadPosition", "BadStep", "BadText", "BadWeight", "Bare", "Broken", "Full"] : List Str) ++ (["InUse", "NoBeginning", "NoEdge", "NoNet", "NoNode", "NoPath", "NoSwap", "NoTiling", "NoWatch", "NotClosed", "NothingLeft", "OtherNet", "Stopped", "TooLong", "Unbalanced", "Uneven", "Unsound"] : List Str)) [false, false, false, false, false, false, false, false, false, false, false, false, false, false, false, false, false, false, true, true, true, true, true, true, true, false, true, false, false, false, false, false, false] (.ref (ga K "RoadMissing")), fun K => isEB K ((["Apart", "BadColors", "BadDeed", "BadDegree", "BadKind", "BadName", "BadNet", "BadNumber", "BadPath", "BadPosition", "BadStep", "BadText", "BadWeight", "Bare", "Broken", "Full"] : List Str) ++ (["InUse", "NoBeginning", "NoEdge", "NoNet", "NoNode", "NoPath", "NoSwap", "NoTiling", "NoWatch", "NotClosed", "NothingLeft", "OtherNet", "Stopped", "TooLong", "Unbalanced", "Uneven", "Unsound"] : List Str)) [false, false, false, false, false, false, false, false, false, false, false, false, false, false, false, false, false, false, true, true, true, true, true, true, true, false, true, false, false, false, false, false, false] (.type "LookupError"), fun K => fldEB K ((["Apart", "BadColors", "BadDeed", "BadDegree", "BadKind", "BadName", "BadNet", "BadNumber", "BadPath", "BadPosition", "BadStep", "BadText", "BadWeight", "Bare", "Broken", "Full"] : List Str) ++ (["InUse", "NoBeginning", "NoEdge", "NoNet", "NoNode", "NoPath", "NoSwap", "NoTiling", "NoWatch", "NotClosed", "NothingLeft", "OtherNet", "Stopped", "TooLong", "Unbalanced", "Uneven", "Unsound"] : List Str)) "tag", fun K => errB K "Apart" ["tag"], fun K => errB K "BadColors" ["tag"], fun K => errB K "BadDeed" ["tag"], fun K => errB K "BadDegree" ["tag"], fun K => errB K "BadKind" ["tag"], fun K => errB K "BadName" ["tag"], fun K => errB K "BadNet" ["tag", "fault"], fun K => errB K "BadNumber" ["tag", "number"], fun K => errB K "BadPath" ["tag", "at"], fun K => errB K "BadPosition" ["tag"], fun K => errB K "BadStep" ["tag", "at"], fun K => errB K "BadText" ["tag", "row"], fun K => errB K "BadWeight" ["tag", "at"], fun K => errB K "Bare" ["tag", "color"], fun K => errB K "Broken" ["tag", "name"], fun K => errB K "Full" ["tag", "bound"], fun K => errB K "InUse" ["tag", "by"], fun K => errB K "NoBeginning" ["tag"], fun K => errLB K "NoEdge" ["tag", "edge"], fun K => errLB K "NoNet" ["tag", "name"], fun K => errLB K "NoNode" ["tag", "node"], fun K => errLB K "NoPath" ["tag", "name"], fun K => errLB K "NoSwap" ["tag"], fun K => errLB K "NoTiling" ["tag", "name"], fun K => errLB K "NoWatch" ["tag", "number"], fun K => errB K "NotClosed" ["tag"], fun K => errLB K "NothingLeft" ["tag"], fun K => errB K "OtherNet" ["tag"], fun K => errB K "Stopped" ["tag", "at", "cause"], fun K => errB K "TooLong" ["tag"], fun K => errB K "Unbalanced" ["tag", "at"], fun K => errB K "Uneven" ["tag", "first", "last"], fun K => errB K "Unsound" ["tag", "name", "fault"], fun K => ecB K ((["Apart", "BadColors", "BadDeed", "BadDegree", "BadKind", "BadName", "BadNet", "BadNumber", "BadPath", "BadPosition", "BadStep", "BadText", "BadWeight", "Bare", "Broken", "Full"] : List Str) ++ (["InUse", "NoBeginning", "NoEdge", "NoNet", "NoNode", "NoPath", "NoSwap", "NoTiling", "NoWatch", "NotClosed", "NothingLeft", "OtherNet", "Stopped", "TooLong", "Unbalanced", "Uneven", "Unsound"] : List Str))]
def tf : List He.Defn := []
end K01
set_option maxHeartbeats 0
namespace K01
open PySem PySem.Spec L2 Hw PyProof.Rows
open He (Fa DefD ga ma fAd cT)
abbrev R : PySem.W.OpenRow := PySem.W.OpenLaw.row PySem.Challenge.rw_hueroads_k01_errors_and_their_families
abbrev exT : PySem.W.Frag → Bool := fun K => exL.all fun t => t K
def obsL (as : List Addr) (fa : List He.Fa) (fn : List He.DefD) (ts : List He.Tab) (tf : List He.Defn) (ex : PySem.W.Frag → Bool) (g : Addr → Option Obj) : He.AlX := (He.obsT fa fn ts (He.frT g as), ex (He.frT g as) && He.tabsB g tf (He.frT g as))
theorem saysL_of {as : List Addr} {fa : List He.Fa} {fn : List He.DefD} {ts : List He.Tab} {tf : List He.Defn} {ex : PySem.W.Frag → Bool} {w : World} {h : Heap} (e : obsL as fa fn ts tf ex h.get? = He.valX fn ts w) : He.SaysX fa fn ts tf ex w h (He.frT h.get? as) := by
  have e1 : He.obsT fa fn ts (He.frT h.get? as) = He.valT fn ts w := congrArg (fun z : He.AlX => z.1) e
  have e2 : (ex (He.frT h.get? as) && He.tabsB h.get? tf (He.frT h.get? as)) = true := congrArg (fun z : He.AlX => z.2) e
  obtain ⟨h1, h2⟩ := Bool.and_eq_true_iff.mp e2
  have key : ∀ p ∈ tf, PySem.W.codeHdIn (He.frT h.get? as) (He.cT (He.frT h.get? as) p).1 (He.cT (He.frT h.get? as) p).2 = true ∧ ∃ o, h.get? (He.cT (He.frT h.get? as) p).2 = some o ∧ He.emptyTab o = true := fun p hp => by
    obtain ⟨h3, h4⟩ := Bool.and_eq_true_iff.mp (List.all_eq_true.mp h2 p hp)
    refine ⟨h3, ?_⟩
    cases q : h.get? (He.cT (He.frT h.get? as) p).2 with
    | none =>
      rw [q] at h4
      cases h4
    | some o =>
      rw [q] at h4
      exact ⟨o, rfl, h4⟩
  exact ⟨e1, h1, fun p hp => (key p hp).1, fun p hp => by
    obtain ⟨_, o, q, z⟩ := key p hp
    exact He.frT_none q z, fun p hp => by
    obtain ⟨_, o, q, z⟩ := key p hp
    rw [q, He.emptyTab_eq z]⟩
def hookL (as : List Addr) (fa : List He.Fa) (fn : List He.DefD) (ts : List He.Tab) (tf : List He.Defn) (ex : PySem.W.Frag → Bool) : PySem.W.Hook where
  α := He.AlX
  obs := fun s => obsL as fa fn ts tf ex s.heap.get?
  val := fun w => He.valX fn ts w
  says := fun w h => ∃ K : PySem.W.Frag, K.In h ∧ He.SaysX fa fn ts tf ex w h K
  of := fun _ _ e => ⟨_, He.frT_in, saysL_of e⟩
  keeps := fun _ _ _ ⟨K, hK, c⟩ k => ⟨K, PySem.W.Frag.In.keeps hK k, ⟨c.t, c.more, c.hd, c.out, fun p hp => k _ _ (c.empty p hp)⟩⟩
theorem obsL_eq {as : List Addr} {fa : List He.Fa} {fn : List He.DefD} {ts : List He.Tab} {tf : List He.Defn} {ex : PySem.W.Frag → Bool} {g : Addr → Option Obj} {s : Shared} (h : ∀ a, g a = s.heap.get? a) : obsL as fa fn ts tf ex g = (hookL as fa fn ts tf ex).obs s := by
  have e : g = s.heap.get? := funext h
  rw [e] <;> rfl
def asL : List Addr := List.range 1200
abbrev hk : PySem.W.Hook := hookL asL fa fn [] tf exT
def ob (s : PySem.W.SharedT) : He.AlX := obsL asL fa fn [] tf exT (HandSHeadRun.getT s)
theorem ob_eq (s : PySem.W.SharedT) : ob s = hk.obs s.abs := obsL_eq (HandSHeadRun.getT_eq s)
def names0 : List PySem.Str := ["RoadError", "RoadMissing", "BadNumber", "Full", "BadNet", "BadPath", "BadStep", "BadColors", "BadDegree", "BadPosition", "Apart", "TooLong", "NotClosed", "Bare", "NoBeginning", "Uneven", "BadWeight", "Unbalanced"]
def names1 : List PySem.Str := ["OtherNet", "BadName", "BadKind", "BadDeed", "InUse", "Unsound", "Broken", "Stopped", "BadText", "NoNode", "NoEdge", "NoNet", "NoPath", "NoTiling", "NoWatch", "NothingLeft", "NoSwap", "_law_bag"]
def names2 : List PySem.Str := ["_law_take", "_law_alike", "_law_errors", "_law_flags", "_law_values", "_law_due", "_law_named"]
def names : List PySem.Str := names0 ++ (names1 ++ (names2))
open PySem.W PySem.Calls in
noncomputable abbrev endS (w : World) (os : OsState) : Option SharedT := HandSHeadRun.endF (HandSHeadRun.stepQ (HandSHeadRun.denQ HandSHeadRun.tabQ) R.prog w) 40000 R.prog w os
open PySem.W PySem.Calls in
theorem run_a (w : World) : ∀ os : OsState, (endS w os).map (fun s => (HandSHeadRun.looksF R.prog (boot_heap w.params) s.abs, HandSHeadRun.seenQ (PySem.W.view R.prog [45]) names (importedModules R.prog.main.body) (fun s => PySem.W.xlAt (PySem.W.view R.prog [45]) [] s && PySem.W.recOk (PySem.W.OpenRow.toRowW R).records s) s.abs)) = some ((true, PySem.W.openGood (PySem.W.view R.prog [45]) names)) := by
  intro os
  kernel_rfl
open PySem.W PySem.Calls in
theorem run_c (w : World) : ∀ os : OsState, (endS w os).map (fun s => fa.all fun f => f.ok (He.frT (HandSHeadRun.getT s) asL)) = some (true) := by
  intro os
  kernel_rfl
open PySem.W PySem.Calls in
theorem run_f (w : World) : ∀ os : OsState, (endS w os).map (fun s => (fn.take 45).all fun d => d.ok (He.frT (HandSHeadRun.getT s) asL)) = some (true) := by
  intro os
  kernel_rfl
open PySem.W PySem.Calls in
theorem run_g (w : World) : ∀ os : OsState, (endS w os).map (fun s => (fn.drop 45).all fun d => d.ok (He.frT (HandSHeadRun.getT s) asL)) = some (true) := by
  intro os
  kernel_rfl
open PySem.W PySem.Calls in
theorem run_d (w : World) : ∀ os : OsState, (endS w os).map (fun s => (ob s).1.1.2) = some (fn.map He.DefD.val) := by
  intro os
  kernel_rfl
open PySem.W PySem.Calls in
theorem run_e (w : World) : ∀ os : OsState, (endS w os).map (fun s => (ob s).2) = some (true) := by
  intro os
  kernel_rfl
theorem run_all {S A : Type} {o : Option S} {l : List A} (n : Nat) {p : S → A → Bool} (h1 : o.map (fun s => (l.take n).all (p s)) = some true) (h2 : o.map (fun s => (l.drop n).all (p s)) = some true) : o.map (fun s => l.all (p s)) = some true := by
  cases o with
  | none => cases h1
  | some s =>
    have h1 : (l.take n).all (p s) = true := Option.some.inj h1
    have h2 : (l.drop n).all (p s) = true := Option.some.inj h2
    show some (l.all (p s)) = _
    rw [← List.take_append_drop n l, List.all_append, h1, h2]
    rfl
theorem run_and {S : Type} {o : Option S} {a b : S → Bool} (h1 : o.map a = some true) (h2 : o.map b = some true) : o.map (fun s => a s && b s) = some true := by
  cases o with
  | none => cases h1
  | some s =>
    have h1 := Option.some.inj h1
    have h2 := Option.some.inj h2
    show some (a s && b s) = _
    rw [h1, h2]
    rfl
theorem run_two {S A B : Type} {o : Option S} {a : S → A} {b : S → B} {x : A} {y : B} (h1 : o.map a = some x) (h2 : o.map b = some y) : o.map (fun s => (a s, b s)) = some (x, y) := by
  cases o with
  | none => cases h1
  | some s =>
    have h1 := Option.some.inj h1
    have h2 := Option.some.inj h2
    show some (a s, b s) = _
    rw [h1, h2]
theorem run_join {S : Type} {o : Option S} {A B C D E F : Type} {a : S → A} {b : S → B} {c : S → C} {d : S → D} {e : S → E} {f : F} {g : S → ((C × D) × F) × E} {x : A} {y : B} {z : C} {u : D} {v : E} (hg : ∀ s, g s = (((c s, d s), f), e s))
    (h1 : o.map (fun s => (a s, b s)) = some (x, y)) (h3 : o.map c = some z) (h4 : o.map (fun s => (d s, e s)) = some (u, v)) : o.map (fun s => (a s, b s, g s)) = some (x, y, (((z, u), f), v)) := by
  cases o with
  | none => cases h3
  | some s =>
    have h1 := Prod.mk.inj (Option.some.inj h1)
    have h3 := Option.some.inj h3
    have h4 := Prod.mk.inj (Option.some.inj h4)
    show some (a s, b s, g s) = _
    rw [hg, h1.1, h1.2, h3, h4.1, h4.2]
theorem run (w : World) : HandSHeadRun.RunEq R (PySem.W.view R.prog [45]) hk ob 40000 names w := fun os =>
  run_join (f := []) (fun s => rfl) (run_a w os) (run_and (run_c w os) (run_all 45 (run_f w os) (run_g w os))) (run_two (run_d w os) (run_e w os))
end K01
set_option maxHeartbeats 1000000
namespace Hw
open PySem PySem.Spec L2
open PyProof.Rows
def CtxL : List (Addr × Obj) → Option Value → Prop
  | [], v => v = some .none
  | p :: l, v => v = some (.ref p.1) ∧ ∃ vs : Array Value, p.2.data = .fields vs ∧ CtxL l vs[2]?
def CtxB (B : Heap) (H : Hp) (o : Obj) : Prop := ∀ vs : Array Value, o.data = .fields vs → ∃ l, CtxL l vs[2]? ∧ ∀ p ∈ l, B.get? p.1 = some p.2 ∧ H p.1 = none
theorem CtxL.fields : ∀ {l : List (Addr × Obj)} {v : Option Value}, CtxL l v → ∀ p ∈ l, ∃ vs : Array Value, p.2.data = .fields vs
  | [], _, _, p, h => (nomatch h)
  | q :: l, v, h, p, hp => by
    obtain ⟨_, vs, h1, h2⟩ := h
    rcases List.mem_cons.mp hp with e | e
    · rw [e]; exact ⟨vs, h1⟩
    · exact CtxL.fields h2 p e
theorem CtxB.none {B : Heap} {H : Hp} {o : Obj} (h : ∀ vs : Array Value, o.data = .fields vs → vs[2]? = some .none) : CtxB B H o := fun vs e => ⟨[], h vs e, fun _ z => nomatch z⟩
def Zk (B : Heap) (H : Hp) (cls : Value) (d : Option Addr) : Obj → Prop := fun o => o.cls = cls ∧ o.dict = d ∧ CtxB B H o
theorem CtxB.steady {B : Heap} {H : Hp} : PySem.PXN.Steady1 (CtxB B H) := fun o v h => by
  obtain ⟨c, d, dt, sl⟩ := o
  cases dt with
  | fields vs0 =>
    intro vs e
    cases (show Data.fields (vs0.setIfInBounds 1 v) = Data.fields vs from e)
    have e3 : (vs0.setIfInBounds 1 v)[2]? = vs0[2]? := by
      first
      | exact Array.getElem?_setIfInBounds_ne (by decide)
      | simp [Array.getElem?_setIfInBounds]
    rw [e3]
    exact h vs0 rfl
  | _ =>
    intro vs e
    cases e
theorem Zk.steady {B : Heap} {H : Hp} {cls : Value} {d : Option Addr} : PySem.PXN.Steady1 (Zk B H cls d) :=
  PySem.PXN.steady_and PySem.PXN.steady_cls (PySem.PXN.steady_and PySem.PXN.steady_dict CtxB.steady)
def XE (X : Cx) (W : WX) (u : Value) (s' : Shared) : Prop :=
  ∃ (a : Addr) (B : Heap) (sI : Shared) (pins : List (Addr × Obj)) (σ : L2.St) (H : Hp) (cls : Value) (d : Option Addr),
    u = .ref a ∧ Inv X pins σ H sI ∧ (∀ b o, sI.heap.get? b = some o → b ∉ frs X.stack → B.get? b = some o) ∧ sI.heap.UpToSlots s'.heap ∧
      Sky B X.stack a (Zk B H cls d) X.env.locals s'.heap ∧ H a = none ∧ s'.os = sI.os ∧ AllBare s'.gens ∧ W cls d σ H
def Takes (X : Cx) (W : WX) : Prop := ∀ u s', XE X W u s' → X.xe u s'
theorem takes0 {X : Cx} : Takes X (fun _ _ _ _ => False) := fun _ _ x => by
  obtain ⟨_, _, _, _, _, _, _, _, _, _, _, _, _, _, _, _, w⟩ := x
  exact w.elim
theorem Takes.imp {X : Cx} {W W' : WX} (t : Takes X W) (h : ∀ c d σ H, W' c d σ H → W c d σ H) : Takes X W' := fun u s' x => by
  obtain ⟨a, B, sI, pins, σ, H, cls, d, e, I, nb, up, sky, na, os, ag, w⟩ := x
  exact t u s' ⟨a, B, sI, pins, σ, H, cls, d, e, I, nb, up, sky, na, os, ag, h _ _ _ _ w⟩
def CX (P : Program) (w : World) (outer : List Env) (H : Hp) (s : Shared) (E : XK) (u : Value) (s' : Shared) : Prop :=
  ∃ (a : Addr) (B : Heap) (H' : Hp) (cls : Value) (d : Option Addr), u = .ref a ∧ HandSPX.FlyingZ B outer a (Zk B H' cls d) s'.heap ∧ HOk P w H' B ∧ UB (frs outer) H H' s.heap B s'.heap ∧ H' a = none ∧ s'.os = s.os ∧ AllBare s'.gens ∧ E cls d H'
section
variable {X : Cx} {pins : List (Addr × Obj)} {σ : L2.St} {H : Hp} {sI s s' : Shared} {B : Heap} {W : WX} {E : XK}
theorem XE.of_call (I : Inv X pins σ H s) (hW : ∀ cls d H', E cls d H' → W cls d σ H') {u : Value} (c : CX X.prog X.w X.stack H s E u s') : XE X W u s' := by
  obtain ⟨a, B, H', cls, d, rfl, fl, hok, ub, na, os, ag, hE⟩ := c
  obtain ⟨G, g1, g2⟩ := restrict s'.heap fun b => (B.get? b).isSome || decide (b ∈ frs X.stack)
  have gB : ∀ b o, B.get? b = some o → G.get? b = some o := fun b o e => (g1 b (by simp [e])).trans (fl.1 b o e)
  have gF : ∀ b, b ∈ frs X.stack → G.get? b = s'.heap.get? b := fun b hb => g1 b (by simp [hb])
  have og : ∀ b o, G.get? b = some o → s'.heap.get? b = some o ∧ ((B.get? b).isSome = true ∨ b ∈ frs X.stack) := fun b o e => by
    by_cases q : ((B.get? b).isSome || decide (b ∈ frs X.stack)) = true
    · exact ⟨(g1 b q).symm.trans e, by simpa [Bool.or_eq_true] using q⟩
    · rw [g2 b (Bool.eq_false_iff.mpr q)] at e
      cases e
  have un : Inv X pins σ H' { s with heap := G, gens := s'.gens, drawn := s'.drawn, toks := s'.toks } := by
    refine I.call (ch := []) ⟨fun b o e n hb _ => gB b o (ub.keep b o e n hb), fun b o e n hb _ => ?_, fun b o e n _ => ub.free b o e n, fun b o e _ => ?_, ub.tups, ub.frzs, ub.tbls⟩ (hok.kept gB) ag (fun _ z => nomatch z)
    · obtain ⟨sl, q⟩ := ub.slot b o e hb
      exact ⟨sl, (gF b hb).trans q⟩
    · by_cases hb : b ∈ frs X.stack
      · obtain ⟨sl, q⟩ := ub.slot b o e hb
        exact ⟨_, (gF b hb).trans q⟩
      · obtain ⟨o', q⟩ := ub.there b o e hb
        exact ⟨o', gB b o' q⟩
  refine ⟨a, B, _, pins, σ, H', cls, d, rfl, un, fun b o e hb => ?_, Heap.UpToSlots.of_keeps fun b o e => (og b o e).1, .inr (.inl fl), na, os, ag, hW _ _ _ hE⟩
  obtain ⟨e', h⟩ := og b o e
  rcases h with h | h
  · obtain ⟨o', q⟩ := Option.isSome_iff_exists.mp h
    cases e'.symm.trans (fl.1 b o' q)
    exact q
  · exact absurd h hb
theorem XE.new {a : Addr} {oe : Obj} {vs : Array Value} {cls : Value} {d : Option Addr} (I : Inv X pins σ H sI) (k : ∀ b o, sI.heap.get? b = some o → s'.heap.get? b = some o) (hne : sI.heap.get? a = none) (he : s'.heap.get? a = some oe)
    (hz : Zc cls d oe) {l : List (Addr × Obj)} (hl : CtxL l vs[2]?) (hp : ∀ p ∈ l, p ∈ X.pn ++ pins) (hd : oe.data = .fields vs) (h1 : vs[1]? = some .none) (na : H a = none) (os : s'.os = sI.os) (ag : AllBare s'.gens) (w : W cls d σ H) : XE X W (.ref a) s' := by
  have ground : ∀ b o, sI.heap.get? b = some o → b ∉ frs X.stack → (PySem.W.hideAll sI.heap (frs X.stack)).get? b = some o := fun b o e hb => PySem.W.hideAll_get _ e hb
  have zk : Zk (PySem.W.hideAll sI.heap (frs X.stack)) H cls d oe := ⟨hz.1, hz.2, fun vs' e => by
    cases hd.symm.trans e
    refine ⟨l, hl, fun p hm => ?_⟩
    obtain ⟨p1, p2, p3, p4, p5⟩ := I.pin p (hp p hm)
    exact ⟨ground _ _ p1 fun hm => (List.mem_cons.mp (I.stkSub p.1 hm)).elim p3 p4, p2⟩⟩
  refine ⟨a, PySem.W.hideAll sI.heap (frs X.stack), sI, pins, σ, H, cls, d, rfl, I, ground, Heap.UpToSlots.of_keeps k, .inl ⟨fun b o e => k b o (PySem.W.of_hideAll _ e), ?_, ?_, oe, vs, he, zk, hd, h1⟩, na, os, ag, w⟩
  · cases q : (PySem.W.hideAll sI.heap (frs X.stack)).get? a with
    | none => rfl
    | some o => cases hne.symm.trans (PySem.W.of_hideAll _ q)
  · exact Heap.FunFrames.of_keeps (fun b o e _ => ⟨o, k b o e, rfl⟩) (funFrames_none I.stack fun b hb => PySem.W.hideAll_none _ hb)
theorem XE.leave (hs : X.stack = X.env :: X.outer) (hf : X.env.frame = some X.env.locals) (hex : X.ex = []) {E₁ : Value → Shared → Prop} (hW : ∀ cls d σ H, W cls d σ H → E cls d H) {u : Value} (x : XE X W u s') :
    wpAny (model X.prog X.w) X.A (leaving X.env u) (fun _ s'' => CX X.prog X.w X.outer X.H_0 X.s_0 E u s'') E₁ s' := by
  obtain ⟨a, B, sI, pins, σ, H, cls, d, rfl, I, nb, up, sky, na, os, ag, w⟩ := x
  have hfr : X.A.frames = some (X.env :: X.outer) := I.ok.frames.trans (by rw [hs])
  have nst : ∀ b o, X.s_0.heap.get? b = some o → b ∉ X.fs → b ∉ frs X.stack := fun b o e hb hm => by
    rcases List.mem_cons.mp (I.stkSub b hm) with z | z
    · exact absurd (Nat.lt_of_lt_of_le (Heap.lt_size (z ▸ e)) I.ok.above) (Nat.lt_irrefl _)
    · exact hb z
  have hex' : ∀ b, b ∉ X.ex := fun b hb => by rw [hex] at hb; cases hb
  have fin : ∀ h', HandSPX.FlyingZ B X.outer a (Zk B H cls d) h' → s'.heap.UpToSlots h' → CX X.prog X.w X.outer X.H_0 X.s_0 E (.ref a) { s' with heap := h' } := fun h' fl up' => by
    refine ⟨a, B, H, cls, d, rfl, fl, I.inGround nb, ⟨fun b o e n hb => nb b o (I.base.keep b o e n hb (hex' b)) (nst b o e hb), fun b o e hb => ?_, fun b o e n => I.base.free b o e n (hex' b), fun b o e hb => ?_, I.base.tups, I.base.frzs, I.base.tbls⟩,
      na, os.trans I.os, ag, hW _ _ _ _ w⟩
    · obtain ⟨_, o₀, e₀, hnf⟩ := I.ok.funs.mem hb
      cases e.symm.trans e₀
      obtain ⟨sl, e1⟩ := I.base.slot b o e (I.ok.frf b hb) hb (hex' b)
      obtain ⟨sl2, e2⟩ := up b _ e1 hnf
      obtain ⟨sl3, e3⟩ := up' b _ e2 hnf
      exact ⟨sl3, e3⟩
    · obtain ⟨o', e1⟩ := I.base.there b o e (hex' b)
      exact ⟨o', nb b o' e1 (nst b o e hb)⟩
  rw [hs] at sky
  rcases sky with ⟨hB, hn, hl, oe, vs, he, hz, hd, h1⟩ | fl | hd
  · exact PySem.PXN.leaving_firstZ Zk.steady hfr hl hf he hB hn hd h1 hz fin
  · exact PySem.PXN.leaves_onZ Zk.steady hfr hf fl fin
  · exact HandSPX.leaves_heldZ hf hd fin
theorem takes_of (hs : X.stack = X.env :: X.outer) (hf : X.env.frame = some X.env.locals) (hex : X.ex = []) {E₁ : Value → Shared → Prop}
    (hx : X.xe = fun e s' => wpAny (model X.prog X.w) X.A (leaving X.env e) (fun _ s'' => CX X.prog X.w X.outer X.H_0 X.s_0 E e s'') E₁ s') : Takes X (fun cls d _ H => E cls d H) := fun u s' x => by
  rw [hx]
  exact XE.leave (W := fun cls d _ H => E cls d H) (E := E) hs hf hex (fun _ _ _ _ h => h) x
theorem passAt (tk : Takes X W) (σ : L2.St) : PassesAt (CX X.prog X.w) X σ (WE W σ) := fun _ _ _ e s' I c => tk e s' (XE.of_call I (fun _ _ _ h => h) c)
end
section
open LamX
variable {X : Cx} {pins : List (Addr × Obj)} {σ : L2.St} {H HZ : Hp} {s s1 : Shared}
end
end Hw
namespace Hw
open PySem PySem.Spec L2
inductive D where
  | non | bl (b : Bool) | int (i : Int) | str (x : Str)
  | lst (l : List D) | tup (l : List D)
  | dct (t : Bool) (ks : List D) (vs : List D)
  | ins (c : Str) (fs : List Str) (vs : List D)
  | scr (ns : List Int)
  | ctup (vs : List V)
  | nst (ks : List D) (vs : List D)
  | grp (c : Str) (fs : List Str) (vs : List D)
  | exn (c : Str) (fs : List Str) (vs : List D)
  | xtp (l : List D)
structure Exc where
  c : Str
  fs : List Str
  vs : List D
inductive Sv where
  | no | fz (d : D) | own (d : D) | io (j : Nat) | rows (j n : Nat)
abbrev Rho := List Sv
abbrev Tau := List D
inductive Out (α : Type) where
  | ok (a : α) (t : Tau)
  | exc (e : Exc) (t : Tau)
  | bad
def Out.bind {α β : Type} (o : Out α) (f : α → Tau → Out β) : Out β := match o with
  | .ok a t => f a t
  | .exc e t => .exc e t
  | .bad => .bad
def Out.of {α : Type} (o : Option α) (τ : Tau) : Out α := match o with
  | some z => .ok z τ
  | none => .bad
abbrev SE := Rho → Tau → Out D
structure Kx where
  K : PySem.W.Frag
  mg : Str → Option Value
def keyD : Key → D
  | .inl i => .int i
  | .inr x => .str x
def DctO (t : Bool) (o : HO) (ks : List D) (vs : List V) : Prop :=
  (t = false ∧ ∃ kvs : List (Key × V), o = .dK kvs ∧ kvs.map (·.2) = vs ∧ ks = kvs.map fun p => keyD p.1) ∨
  (t = true ∧ ∃ kvs : List (List Key × V), o = .dT kvs ∧ kvs.map (·.2) = vs ∧ ks = kvs.map fun p => .tup (p.1.map keyD))
mutual
/-- a key of ints, None and tuples of such -/
def nkey : D → Option NestedKey
  | .non => some .none
  | .int i => some (.num i)
  | .tup ds => (nkeys ds).map .tup
  | _ => none
def nkeys : List D → Option (List NestedKey)
  | [] => some []
  | d :: ds => match nkey d, nkeys ds with
    | some a, some b => some (a :: b)
    | _, _ => none
end
def nstC (a : Addr) (ob : Obj) : HO := .ext fun h => (a == sysModules) = false ∧ h.get? a = some ob
def NstR (ob : Obj) (ks : List D) (kvs vs : List V) : Prop := ∃ (xs : List (NestedKey × Addr × Value)) (es : Array DictEntry) (ep : _), ob.ExactDict ∧ ob.data = .dict es ep ∧ (∀ (P : Program) (w : World), es.toList = xs.map (entryOfKey (nestedKind P w))) ∧
  (xs.map (·.1)).Nodup ∧ ks.map nkey = xs.map (fun x => some x.1) ∧ kvs = xs.map (fun x => V.ref x.2.1) ∧ Vals vs (xs.map (·.2.2)) ∧ ∀ x ∈ xs, x.1.depth ≤ 8
mutual
/-- v stands for d, by what stands still in Z -/
def Rep (k : Kx) (Z : Hp) : D → V → Prop
  | .non, v => v = .non
  | .bl b, v => v = .bl b
  | .int i, v => v = .int i
  | .str x, v => v = .str x
  | .lst ds, v => ∃ a vs, v = .ref a ∧ Z a = some (.lst vs) ∧ Reps k Z ds vs
  | .scr ns, v => ∃ a, v = .ref a ∧ SqL k.K Z a (ns.map V.int)
  | .tup ds, v => ∃ a vs, v = .ref a ∧ Z a = some (.tup vs) ∧ Reps k Z ds vs
  | .ctup vs, v => ∃ a, v = .ref a ∧ SqT k.K Z a vs
  | .dct t ks ds, v => ∃ a o vs, v = .ref a ∧ Z a = some o ∧ DctO t o ks vs ∧ Reps k Z ds vs
  | .ins c fs ds, v => ∃ a C dx vs, v = .ref a ∧ Z a = some (.ins C dx (fs.zip vs)) ∧ k.mg c = some (.ref C) ∧ fs.length = vs.length ∧ Reps k Z ds vs
  | .nst ks ds, v => ∃ a b ob kvs vs, v = .ref a ∧ Z a = some (nstC b ob) ∧ Reps k Z ks kvs ∧ NstR ob ks kvs vs ∧ Reps k Z ds vs
  | .grp _ _ _, v => ∃ a, v = .ref a
  | .exn c fs ds, v => ∃ a C dx vs, v = .ref a ∧ Z a = some (exo a C (some dx)) ∧ Z dx = some (exd dx (fs.zip vs)) ∧ k.mg c = some (.ref C) ∧ fs.length = vs.length ∧ Reps k Z ds vs
  | .xtp ds, v => ∃ a ob vs, v = .ref a ∧ Z a = some (.frz ob (.tup vs)) ∧ ob.dict = none ∧ Reps k Z ds vs
def Reps (k : Kx) (Z : Hp) : List D → List V → Prop
  | [], vs => vs = []
  | d :: ds, vs => ∃ v r, vs = v :: r ∧ Rep k Z d v ∧ Reps k Z ds r
end
def OwnO (k : Kx) (Z : Hp) (d : D) (o : HO) : Prop := match d with
  | .lst ds => ∃ vs, o = .lst vs ∧ Reps k Z ds vs
  | .dct t ks ds => ∃ vs, DctO t o ks vs ∧ Reps k Z ds vs
  | .ins c fs ds => ∃ C dx vs, o = .ins C dx (fs.zip vs) ∧ k.mg c = some (.ref C) ∧ fs.length = vs.length ∧ Reps k Z ds vs
  | .nst ks ds => ∃ b ob kvs vs, o = nstC b ob ∧ Reps k Z ks kvs ∧ NstR ob ks kvs vs ∧ Reps k Z ds vs
  | .grp _ _ _ => ∃ C dx gs, o = .ins C dx gs
  | _ => False
theorem same_sqT {K : PySem.W.Frag} {H H' : Hp} {a : Addr} {xs : List V} (e : Same H H') (h : SqT K H a xs) : SqT K H' a xs := by
  rcases h with (h | ⟨o, h⟩) | h
  · exact .inl (.inl (e _ _ h))
  · exact .inl (.inr ⟨o, e _ _ h⟩)
  · exact .inr h
mutual
theorem Rep.mono {k : Kx} {Z Z' : Hp} (e : Same Z Z') : ∀ {d : D} {v : V}, Rep k Z d v → Rep k Z' d v
  | .non, _, h => by unfold Rep at *; exact h
  | .bl _, _, h => by unfold Rep at *; exact h
  | .int _, _, h => by unfold Rep at *; exact h
  | .str _, _, h => by unfold Rep at *; exact h
  | .lst ds, _, h => by
    unfold Rep at *
    obtain ⟨a, vs, h1, h2, h3⟩ := h
    exact ⟨a, vs, h1, e _ _ h2, Reps.mono e h3⟩
  | .scr ns, _, h => by
    unfold Rep at *
    obtain ⟨a, h1, h2⟩ := h
    exact ⟨a, h1, e.seq h2⟩
  | .tup ds, _, h => by
    unfold Rep at *
    obtain ⟨a, vs, h1, h2, h3⟩ := h
    exact ⟨a, vs, h1, e _ _ h2, Reps.mono e h3⟩
  | .ctup vs, _, h => by
    unfold Rep at *
    obtain ⟨a, h1, h2⟩ := h
    exact ⟨a, h1, same_sqT e h2⟩
  | .dct t ks ds, _, h => by
    unfold Rep at *
    obtain ⟨a, o, vs, h1, h2, h3, h4⟩ := h
    exact ⟨a, o, vs, h1, e _ _ h2, h3, Reps.mono e h4⟩
  | .ins c fs ds, _, h => by
    unfold Rep at *
    obtain ⟨a, C, dx, vs, h1, h2, h3, h4, h5⟩ := h
    exact ⟨a, C, dx, vs, h1, e _ _ h2, h3, h4, Reps.mono e h5⟩
  | .nst ks ds, _, h => by
    unfold Rep at *
    obtain ⟨a, b, ob, kvs, vs, h1, h2, h3, h4, h5⟩ := h
    exact ⟨a, b, ob, kvs, vs, h1, e _ _ h2, Reps.mono e h3, h4, Reps.mono e h5⟩
  | .grp _ _ _, _, h => by unfold Rep at *; exact h
  | .exn c fs ds, _, h => by
    unfold Rep at *
    obtain ⟨a, C, dx, vs, h1, h2, h3, h4, h5, h6⟩ := h
    exact ⟨a, C, dx, vs, h1, e _ _ h2, e _ _ h3, h4, h5, Reps.mono e h6⟩
  | .xtp ds, _, h => by
    unfold Rep at *
    obtain ⟨a, ob, vs, h1, h2, h3, h4⟩ := h
    exact ⟨a, ob, vs, h1, e _ _ h2, h3, Reps.mono e h4⟩
theorem Reps.mono {k : Kx} {Z Z' : Hp} (e : Same Z Z') : ∀ {ds : List D} {vs : List V}, Reps k Z ds vs → Reps k Z' ds vs
  | [], _, h => by unfold Reps at *; exact h
  | d :: ds, _, h => by
    unfold Reps at *
    obtain ⟨v, r, h1, h2, h3⟩ := h
    exact ⟨v, r, h1, Rep.mono e h2, Reps.mono e h3⟩
end
theorem OwnO.mono {k : Kx} {Z Z' : Hp} (e : Same Z Z') {d : D} {o : HO} (h : OwnO k Z d o) : OwnO k Z' d o := by
  cases d with
  | lst ds =>
    obtain ⟨vs, h1, h2⟩ := h
    exact ⟨vs, h1, h2.mono e⟩
  | dct t ks ds =>
    obtain ⟨vs, h1, h2⟩ := h
    exact ⟨vs, h1, h2.mono e⟩
  | ins c fs ds =>
    obtain ⟨C, dx, vs, h1, h2, h3, h4⟩ := h
    exact ⟨C, dx, vs, h1, h2, h3, h4.mono e⟩
  | nst ks ds =>
    obtain ⟨b, ob, kvs, vs, h1, h2, h3, h4⟩ := h
    exact ⟨b, ob, kvs, vs, h1, h2.mono e, h3, h4.mono e⟩
  | grp c fs ds => exact h
  | _ => exact h
section
variable {k : Kx} {Z : Hp}
theorem rep_int {i : Int} {v : V} : Rep k Z (.int i) v ↔ v = .int i := by unfold Rep; exact Iff.rfl
theorem rep_bl {i : Bool} {v : V} : Rep k Z (.bl i) v ↔ v = .bl i := by unfold Rep; exact Iff.rfl
theorem rep_str {i : Str} {v : V} : Rep k Z (.str i) v ↔ v = .str i := by unfold Rep; exact Iff.rfl
theorem rep_non {v : V} : Rep k Z .non v ↔ v = .non := by unfold Rep; exact Iff.rfl
theorem rep_lst {ds : List D} {v : V} : Rep k Z (.lst ds) v ↔ ∃ a vs, v = .ref a ∧ Z a = some (.lst vs) ∧ Reps k Z ds vs := by
  conv => lhs; unfold Rep
theorem rep_scr {ns : List Int} {v : V} : Rep k Z (.scr ns) v ↔ ∃ a, v = .ref a ∧ SqL k.K Z a (ns.map V.int) := by
  conv => lhs; unfold Rep
theorem rep_ctup {vs : List V} {v : V} : Rep k Z (.ctup vs) v ↔ ∃ a, v = .ref a ∧ SqT k.K Z a vs := by
  conv => lhs; unfold Rep
theorem rep_tup {ds : List D} {v : V} : Rep k Z (.tup ds) v ↔ ∃ a vs, v = .ref a ∧ Z a = some (.tup vs) ∧ Reps k Z ds vs := by
  conv => lhs; unfold Rep
theorem rep_dct {t : Bool} {ks ds : List D} {v : V} : Rep k Z (.dct t ks ds) v ↔ ∃ a o vs, v = .ref a ∧ Z a = some o ∧ DctO t o ks vs ∧ Reps k Z ds vs := by
  conv => lhs; unfold Rep
theorem rep_ins {c : Str} {fs : List Str} {ds : List D} {v : V} : Rep k Z (.ins c fs ds) v ↔ ∃ a C dx vs, v = .ref a ∧ Z a = some (.ins C dx (fs.zip vs)) ∧ k.mg c = some (.ref C) ∧ fs.length = vs.length ∧ Reps k Z ds vs := by
  conv => lhs; unfold Rep
theorem rep_grp {c : Str} {fs : List Str} {ds : List D} {v : V} : Rep k Z (.grp c fs ds) v ↔ ∃ a, v = .ref a := by
  conv => lhs; unfold Rep
theorem rep_exn {c : Str} {fs : List Str} {ds : List D} {v : V} : Rep k Z (.exn c fs ds) v ↔ ∃ a C dx vs, v = .ref a ∧ Z a = some (exo a C (some dx)) ∧ Z dx = some (exd dx (fs.zip vs)) ∧ k.mg c = some (.ref C) ∧ fs.length = vs.length ∧ Reps k Z ds vs := by
  conv => lhs; unfold Rep
theorem rep_xtp {ds : List D} {v : V} : Rep k Z (.xtp ds) v ↔ ∃ a ob vs, v = .ref a ∧ Z a = some (.frz ob (.tup vs)) ∧ ob.dict = none ∧ Reps k Z ds vs := by
  conv => lhs; unfold Rep
theorem rep_nst {ks ds : List D} {v : V} : Rep k Z (.nst ks ds) v ↔ ∃ a b ob kvs vs, v = .ref a ∧ Z a = some (nstC b ob) ∧ Reps k Z ks kvs ∧ NstR ob ks kvs vs ∧ Reps k Z ds vs := by
  conv => lhs; unfold Rep
theorem reps_nil {vs : List V} : Reps k Z [] vs ↔ vs = [] := by unfold Reps; exact Iff.rfl
theorem reps_cons {d : D} {ds : List D} {vs : List V} : Reps k Z (d :: ds) vs ↔ ∃ v r, vs = v :: r ∧ Rep k Z d v ∧ Reps k Z ds r := by
  conv => lhs; unfold Reps
theorem Reps.nil : Reps k Z [] [] := reps_nil.mpr rfl
theorem Reps.cons {d : D} {ds : List D} {v : V} {vs : List V} (h : Rep k Z d v) (t : Reps k Z ds vs) : Reps k Z (d :: ds) (v :: vs) := reps_cons.mpr ⟨v, vs, rfl, h, t⟩
theorem Reps.length : ∀ {ds : List D} {vs : List V}, Reps k Z ds vs → ds.length = vs.length
  | [], _, h => by rw [reps_nil] at h; subst h; rfl
  | d :: ds, _, h => by
    rw [reps_cons] at h
    obtain ⟨v, r, rfl, _, h⟩ := h
    rw [List.length_cons, List.length_cons, h.length]
theorem Reps.get : ∀ {ds : List D} {vs : List V} {i : Nat} {d : D}, Reps k Z ds vs → ds[i]? = some d → ∃ v, vs[i]? = some v ∧ Rep k Z d v
  | [], _, _, _, _, e => by simp at e
  | d :: ds, _, 0, d', h, e => by
    rw [reps_cons] at h
    obtain ⟨v, r, rfl, h1, h2⟩ := h
    have e' : d = d' := by simpa using e
    subst e'
    exact ⟨v, rfl, h1⟩
  | d :: ds, _, i + 1, d', h, e => by
    rw [reps_cons] at h
    obtain ⟨v, r, rfl, h1, h2⟩ := h
    obtain ⟨u, e1, e2⟩ := Reps.get (i := i) h2 (by simpa using e)
    exact ⟨u, by simpa using e1, e2⟩
theorem Reps.append : ∀ {ds es : List D} {vs us : List V}, Reps k Z ds vs → Reps k Z es us → Reps k Z (ds ++ es) (vs ++ us)
  | [], _, _, _, h, g => by rw [reps_nil] at h; subst h; exact g
  | d :: ds, _, _, _, h, g => by
    rw [reps_cons] at h
    obtain ⟨v, r, rfl, h1, h2⟩ := h
    exact Reps.cons h1 (Reps.append h2 g)
theorem Reps.take : ∀ (n : Nat) {ds : List D} {vs : List V}, Reps k Z ds vs → Reps k Z (ds.take n) (vs.take n)
  | 0, _, _, _ => by rw [List.take_zero, List.take_zero]; exact Reps.nil
  | n + 1, [], _, h => by rw [reps_nil] at h; subst h; exact Reps.nil
  | n + 1, d :: ds, _, h => by
    rw [reps_cons] at h
    obtain ⟨v, r, rfl, h1, h2⟩ := h
    exact Reps.cons h1 (Reps.take n h2)
theorem Reps.drop : ∀ (n : Nat) {ds : List D} {vs : List V}, Reps k Z ds vs → Reps k Z (ds.drop n) (vs.drop n)
  | 0, _, _, h => h
  | n + 1, [], _, h => by rw [reps_nil] at h; subst h; exact Reps.nil
  | n + 1, d :: ds, _, h => by
    rw [reps_cons] at h
    obtain ⟨v, r, rfl, h1, h2⟩ := h
    exact Reps.drop n h2
theorem Reps.set {d : D} {v : V} (g : Rep k Z d v) : ∀ (n : Nat) {ds : List D} {vs : List V}, Reps k Z ds vs → Reps k Z (ds.set n d) (vs.set n v)
  | _, [], _, h => by rw [reps_nil] at h; subst h; exact Reps.nil
  | 0, d' :: ds, _, h => by
    rw [reps_cons] at h
    obtain ⟨v, r, rfl, h1, h2⟩ := h
    exact Reps.cons g h2
  | n + 1, d' :: ds, _, h => by
    rw [reps_cons] at h
    obtain ⟨v, r, rfl, h1, h2⟩ := h
    exact Reps.cons h1 (Reps.set g n h2)
end
mutual
/-- no list within -/
def noL : D → Bool
  | .non => true | .bl _ => true | .int _ => true | .str _ => true | .ctup _ => true
  | .tup ds => noLs ds
  | _ => false
def noLs : List D → Bool
  | [] => true
  | d :: ds => noL d && noLs ds
end
mutual
/-- v stands for d; the lists at fp are one's own, each met once -/
inductive RepT (k : Kx) (F Z : Hp) : List Addr → D → V → Prop
  | leaf {d : D} {v : V} (h : Rep k Z d v) (n : noL d = true) : RepT k F Z [] d v
  | lst {a : Addr} {vs : List V} {ds : List D} {fp : List Addr} (h : F a = some (.lst vs)) (r : RepTs k F Z fp ds vs) : RepT k F Z (a :: fp) (.lst ds) (.ref a)
  | tup {a : Addr} {vs : List V} {ds : List D} {fp : List Addr} (h : Z a = some (.tup vs)) (r : RepTs k F Z fp ds vs) : RepT k F Z fp (.tup ds) (.ref a)
inductive RepTs (k : Kx) (F Z : Hp) : List Addr → List D → List V → Prop
  | nil : RepTs k F Z [] [] []
  | cons {fp fq : List Addr} {d : D} {ds : List D} {v : V} {vs : List V} (h : RepT k F Z fp d v) (r : RepTs k F Z fq ds vs) : RepTs k F Z (fp ++ fq) (d :: ds) (v :: vs)
end
inductive Rk where
  | v | o | d | g
@[reducible] def Rk.of : Bool → Rk
  | true => .o
  | false => .v
instance : Coe Bool Rk := ⟨Rk.of⟩
@[reducible] def Rk.own : Rk → Bool
  | .v => false
  | _ => true
class Tb where
  T : List (Addr × Str)
variable [Tb]
open Classical in
noncomputable def isPl : HO → Bool
  | .tbl _ => false
  | .ext φ => decide (∀ h : Heap, φ h → ∃ a o, h.get? a = some o ∧ ((∃ es ep, o.data = .dict es ep) ∨ ∃ C, o.cls = .ref C))
  | _ => true
theorem nstC_pl {b : Addr} {ob : Obj} (h : ∃ es ep, ob.data = .dict es ep) : isPl (nstC b ob) = true := by
  obtain ⟨es, ep, e⟩ := h
  unfold isPl nstC
  simp only [decide_eq_true_eq]
  exact fun g q => ⟨b, ob, q.2, .inl ⟨es, ep, e⟩⟩
theorem exo_pl {a C : Addr} {d : Option Addr} : isPl (exo a C d) = true := by
  unfold isPl exo
  simp only [decide_eq_true_eq]
  exact fun g ⟨t1, q⟩ => ⟨a, _, q, .inr ⟨C, rfl⟩⟩
theorem exd_pl {a : Addr} {fs : List (Str × V)} : isPl (exd a fs) = true := by
  unfold isPl exd
  simp only [decide_eq_true_eq]
  intro g ⟨mA, ⟨o, es, ep, h1, h3, h4⟩, _⟩
  exact ⟨a, o, h1, .inl ⟨_, _, h3⟩⟩
theorem get_rep {n : Nat} {oc : Obj} {m : Nat} {o : Obj} (h : Heap.get? { objs := Array.replicate n oc } m = some o) : o = oc ∧ m < n := by
  unfold Heap.get? at h
  have h2 : (Array.replicate n oc)[m]? = some o := by
    revert h
    show (match (Array.replicate n oc)[m]? with | some ⟨_, _, .freed, _⟩ => none | o => o) = some o → _
    split
    · intro e; cases e
    · intro e; exact e
  rw [Array.getElem?_replicate] at h2
  split at h2
  · rename_i q; cases h2; exact ⟨rfl, q⟩
  · cases h2
theorem get_rep2 {n : Nat} {oc : Obj} {m : Nat} (h : m < n) (hf : oc.data ≠ .freed) : Heap.get? { objs := Array.replicate n oc } m = some oc := by
  unfold Heap.get?
  show (match (Array.replicate n oc)[m]? with | some ⟨_, _, .freed, _⟩ => none | o => o) = _
  rw [Array.getElem?_replicate, if_pos h]
  split
  · rename_i e; cases e; exact absurd rfl hf
  · rfl
theorem code_npl {c : Addr} {q : Str} : isPl (LamX.CodeO c q) = false := by
  unfold isPl LamX.CodeO
  simp only [decide_eq_false_iff_not]
  intro h
  obtain ⟨a, o, h1, h2⟩ := h { objs := Array.replicate (c + 1) { cls := .none, data := .fields #[.none, .str q 0] } } ⟨_, #[.none, .str q 0], 0, get_rep2 (Nat.lt_succ_self c) (fun e => nomatch e), rfl, rfl⟩
  rw [(get_rep h1).1] at h2
  rcases h2 with ⟨_, _, h2⟩ | ⟨_, h2⟩ <;> cases h2
theorem nstC_at {P : Program} {w : World} {H : Hp} {h : Heap} {a b : Addr} {ob : Obj} (x : ObjOk P w H h a (nstC b ob)) : b = a := by
  obtain ⟨p, ⟨o, e⟩, st⟩ := x
  have hd : (b == sysModules) = false := p.1
  have p : h.get? b = some ob := p.2
  have hf : ob.data ≠ .freed := by
    intro z
    unfold Heap.get? at p
    revert p
    split
    · intro e; cases e
    · rename_i hn
      intro e
      rcases ob with ⟨c1, c2, c3, c4⟩
      cases z
      exact hn _ _ _ e
  by_cases hl : b < a
  · have q := st { objs := Array.replicate (b + 1) ob } { objs := #[] } ⟨hd, get_rep2 (Nat.lt_succ_self b) hf⟩ (fun o q => by
      exact absurd (Nat.lt_of_lt_of_le (get_rep q).2 hl) (Nat.lt_irrefl _))
    have q : Heap.get? { objs := #[] } b = some ob := q.2
    cases q
  · by_cases he : b = a
    · exact he
    · have q := st { objs := Array.replicate (b + 1) ob } { objs := Array.replicate (a + 1) ob } ⟨hd, get_rep2 (Nat.lt_succ_self b) hf⟩ (fun o q => by
        rw [(get_rep q).1]
        exact get_rep2 (Nat.lt_succ_self a) hf)
      have q : Heap.get? { objs := Array.replicate (a + 1) ob } b = some ob := q.2
      exact absurd (Nat.le_antisymm (Nat.le_of_lt_succ (get_rep q).2) (Nat.not_lt.mp hl)) he
theorem NstR.dict {ob : Obj} {ks : List D} {kvs vs : List V} (h : NstR ob ks kvs vs) : ∃ es ep, ob.data = .dict es ep := by
  obtain ⟨xs, es, ep, _, e, _⟩ := h
  exact ⟨es, ep, e⟩
noncomputable def isPm : HO → Bool
  | .tup _ => false
  | o => isPl o
theorem pm_pl {o : HO} (h : isPm o = true) : isPl o = true := by
  cases o <;> first | exact h | rfl | cases h
theorem pm_nt {o : HO} (h : isPm o = true) (vs : List V) : o ≠ .tup vs := fun e => by subst e; cases h
theorem pm_of {o : HO} (h : isPl o = true) (n : ∀ vs, o ≠ .tup vs) : isPm o = true := by
  cases o <;> first | exact h | exact absurd rfl (n _)
theorem OwnO.nt {k : Kx} {Z : Hp} {d : D} {o : HO} (h : OwnO k Z d o) (vs : List V) : o ≠ .tup vs := by
  cases d with
  | lst ds => obtain ⟨vs, rfl, _⟩ := h; exact fun e => nomatch e
  | dct t ks ds =>
    obtain ⟨vs, h1, _⟩ := h
    rcases h1 with ⟨_, kvs, rfl, _⟩ | ⟨_, kvs, rfl, _⟩ <;> exact fun e => nomatch e
  | ins c fs ds => obtain ⟨C, dx, vs, rfl, _⟩ := h; exact fun e => nomatch e
  | nst ks ds => obtain ⟨b, ob, kvs, us, rfl, _⟩ := h; exact fun e => nomatch e
  | grp c fs ds => obtain ⟨C, dx, gs, rfl⟩ := h; exact fun e => nomatch e
  | _ => exact h.elim
theorem OwnO.pl {k : Kx} {Z : Hp} {d : D} {o : HO} (h : OwnO k Z d o) : isPl o = true := by
  cases d with
  | lst ds => obtain ⟨vs, rfl, _⟩ := h; rfl
  | dct t ks ds =>
    obtain ⟨vs, h1, _⟩ := h
    rcases h1 with ⟨_, kvs, rfl, _⟩ | ⟨_, kvs, rfl, _⟩ <;> rfl
  | ins c fs ds => obtain ⟨C, dx, vs, rfl, _⟩ := h; rfl
  | nst ks ds => obtain ⟨b, ob, kvs, us, rfl, _, h2, _⟩ := h; exact nstC_pl h2.dict
  | grp c fs ds => obtain ⟨C, dx, gs, rfl⟩ := h; rfl
  | _ => exact h.elim
theorem OwnO.pm {k : Kx} {Z : Hp} {d : D} {o : HO} (h : OwnO k Z d o) : isPm o = true := pm_of h.pl h.nt
def isGrp : D → Bool
  | .grp _ _ _ => true
  | _ => false
def isCell : D → Bool
  | .lst _ => true
  | .dct _ _ _ => true
  | .nst _ _ => true
  | _ => false
def Flds (k : Kx) (H Z : Hp) : List Addr → List D → List V → Prop
  | B, [], vs => B = [] ∧ vs = []
  | B, d :: ds, vs => ∃ v r, vs = v :: r ∧ ((isCell d = true ∧ ∃ b C o, B = b :: C ∧ v = .ref b ∧ H b = some o ∧ OwnO k Z d o ∧ Flds k H Z C ds r) ∨ (isCell d = false ∧ Rep k Z d v ∧ Flds k H Z B ds r))
theorem Flds.move {k : Kx} {H Z H' Z' : Hp} (e : Same Z Z') : ∀ {ds : List D} {B : List Addr} {vs : List V}, Flds k H Z B ds vs → (∀ b ∈ B, ∀ o, H b = some o → H' b = some o) → Flds k H' Z' B ds vs
  | [], _, _, h, _ => h
  | d :: ds, _, _, ⟨v, r, h1, h2⟩, hb => ⟨v, r, h1, h2.elim (fun ⟨h3, b, C, o, h4, h5, h6, h7, h8⟩ => .inl ⟨h3, b, C, o, h4, h5, hb b (by rw [h4]; exact List.mem_cons_self) o h6, h7.mono e, h8.move e fun c hc => hb c (by rw [h4]; exact List.mem_cons_of_mem _ hc)⟩)
      (fun ⟨h3, h4, h5⟩ => .inr ⟨h3, h4.mono e, h5.move e hb⟩)⟩
def GrpAt (k : Kx) (H Z : Hp) (B : List Addr) (d : D) (a : Addr) : Prop := match d with
  | .grp c fs ds => ∃ C dx vs, H a = some (.ins C dx (fs.zip vs)) ∧ k.mg c = some (.ref C) ∧ fs.length = vs.length ∧ Flds k H Z B ds vs
  | _ => True
theorem GrpAt.no {k : Kx} {H Z : Hp} {B : List Addr} {d : D} {a : Addr} (h : isGrp d = false) : GrpAt k H Z B d a := by
  cases d <;> first | trivial | cases h
theorem GrpAt.move {k : Kx} {H Z H' Z' : Hp} {B : List Addr} {d : D} {a : Addr} (h : GrpAt k H Z B d a) (e : Same Z Z') (ha : ∀ o, H a = some o → H' a = some o) (hb : ∀ b ∈ B, ∀ o, H b = some o → H' b = some o) : GrpAt k H' Z' B d a := by
  cases d with
  | grp c fs ds =>
    obtain ⟨C, dx, vs, h1, h2, h3, h4⟩ := h
    exact ⟨C, dx, vs, ha _ h1, h2, h3, h4.move e hb⟩
  | _ => trivial
structure Subs (A : List Addr) (F H Z : Hp) (BB : Nat → List Addr) : Prop where
  nd : ∀ j, (BB j).Nodup
  dj : ∀ i j b, b ∈ BB i → b ∈ BB j → i = j
  at_ : ∀ j b, b ∈ BB j → Z b = none ∧ F b = none ∧ b ∉ A ∧ ∃ o, H b = some o ∧ isPm o = true
def Gr (k : Kx) (A : List Addr) (F : Hp) (τ : Tau) (H Z : Hp) : Prop := ∃ BB, Subs A F H Z BB ∧ ∀ (j : Nat) (a : Addr) (d : D), A[j]? = some a → τ[j]? = some d → GrpAt k H Z (BB j) d a
def GrpF (k : Kx) (F Z : Hp) (fp : List Addr) (d : D) (v : V) : Prop := ∃ a B, fp = a :: B ∧ v = .ref a ∧ isGrp d = true ∧ GrpAt k F Z B d a
theorem Gr.nil {k : Kx} {F H Z : Hp} : Gr k [] F [] H Z := ⟨fun _ => [], ⟨fun _ => List.nodup_nil, fun _ _ _ h => (nomatch h), fun _ _ h => (nomatch h)⟩, fun _ _ _ h => (nomatch h)⟩
theorem Gr.move {k : Kx} {A : List Addr} {F F' : Hp} {τ : Tau} {H Z H' Z' : Hp} (g : Gr k A F τ H Z) (e : Same Z Z') (ha : ∀ a ∈ A, ∀ o, H a = some o → H' a = some o)
    (hb : ∀ b o, Z b = none → F b = none → b ∉ A → H b = some o → isPm o = true → Z' b = none ∧ F' b = none ∧ H' b = some o) : Gr k A F' τ H' Z' := by
  obtain ⟨BB, s, h⟩ := g
  have kp : ∀ j b, b ∈ BB j → ∀ o, H b = some o → H' b = some o := fun j b hj o ho => by
    obtain ⟨z, f, na, u', hu, pu⟩ := s.at_ j b hj
    rw [hu] at ho
    cases ho
    exact (hb b _ z f na hu pu).2.2
  refine ⟨BB, ⟨s.nd, s.dj, fun j b hj => ?_⟩, fun j a d h1 h2 => (h j a d h1 h2).move e (ha a (List.mem_of_getElem? h1)) (kp j)⟩
  obtain ⟨z, f, na, u, hu, pu⟩ := s.at_ j b hj
  obtain ⟨z', f', hu'⟩ := hb b u z f na hu pu
  exact ⟨z', f', na, u, hu', pu⟩
theorem Gr.set {k : Kx} {A : List Addr} {F : Hp} {τ : Tau} {H Z : Hp} {j : Nat} {a : Addr} {d : D} {u : HO} (g : Gr k A F τ H Z) (nd : A.Nodup) (ha : A[j]? = some a) (ng : isGrp d = false) : Gr k A F (τ.set j d) (upd H a u) Z := by
  obtain ⟨BB, s, h⟩ := g
  have hm := List.mem_of_getElem? ha
  have nb : ∀ i b, b ∈ BB i → b ≠ a := fun i b hb e => (s.at_ i b hb).2.2.1 (by rw [e]; exact hm)
  refine ⟨BB, ⟨s.nd, s.dj, fun i b hb => ?_⟩, fun i b e h1 h2 => ?_⟩
  · obtain ⟨z, f, na, o, ho, po⟩ := s.at_ i b hb
    exact ⟨z, f, na, o, by rw [upd_ne (nb i b hb)]; exact ho, po⟩
  · by_cases hi : j = i
    · subst hi
      have hl : j < τ.length := by
        have := (List.getElem?_eq_some_iff.mp h2).1
        rwa [List.length_set] at this
      rw [List.getElem?_set_self hl] at h2
      cases h2
      exact GrpAt.no ng
    · rw [List.getElem?_set_ne hi] at h2
      have ne : b ≠ a := fun z => by
        subst z
        have e1 := (List.getElem?_eq_some_iff.mp h1)
        have e2 := (List.getElem?_eq_some_iff.mp ha)
        exact hi ((List.getElem_inj nd).mp (e2.2.trans e1.2.symm))
      exact (h i b e h1 h2).move (Same.refl Z) (fun o ho => by rw [upd_ne ne]; exact ho) (fun c hc o ho => by rw [upd_ne (nb i c hc)]; exact ho)
theorem Gr.take2 {k : Kx} {A ps : List Addr} {F F' : Hp} {τ : Tau} {H Z : Hp} (g : Gr k (A ++ ps) F τ H Z) (n : Nat) (hn : ∀ b, F b = none → b ∉ ps → F' b = none) : Gr k A F' (τ.take n) H Z := by
  obtain ⟨BB, s, h⟩ := g
  refine ⟨BB, ⟨s.nd, s.dj, fun i b hb => ?_⟩, fun j a d h1 h2 => h j a d (by rw [List.getElem?_append_left (List.getElem?_eq_some_iff.mp h1).1]; exact h1) ?_⟩
  · obtain ⟨z, f, na, o⟩ := s.at_ i b hb
    exact ⟨z, hn b f fun m => na (List.mem_append_right _ m), fun m => na (List.mem_append_left _ m), o⟩
  · rw [List.getElem?_take] at h2
    split at h2
    · exact h2
    · cases h2
theorem Gr.take {k : Kx} {A ps : List Addr} {F : Hp} {τ : Tau} {H Z : Hp} (g : Gr k (A ++ ps) F τ H Z) (n : Nat) : Gr k A F (τ.take n) H Z := g.take2 n fun _ f _ => f
theorem Gr.push {k : Kx} {A : List Addr} {F F' : Hp} {τ : Tau} {H Z : Hp} {a : Addr} {o : HO} {d : D} (g : Gr k A F τ H Z) (hl : A.length = τ.length) (hF : F a = some o) (hn : ∀ b, F b = none → F' b = none) (ng : isGrp d = false) : Gr k (A ++ [a]) F' (τ ++ [d]) H Z := by
  obtain ⟨BB, s, h⟩ := g
  refine ⟨BB, ⟨s.nd, s.dj, fun i b hb => ?_⟩, fun j b e h1 h2 => ?_⟩
  · obtain ⟨z, f, na, o'⟩ := s.at_ i b hb
    refine ⟨z, hn b f, fun m => ?_, o'⟩
    rcases List.mem_append.mp m with m | m
    · exact na m
    · rw [List.mem_singleton] at m
      rw [m, hF] at f
      cases f
  · by_cases hj : j < A.length
    · rw [List.getElem?_append_left hj] at h1
      rw [List.getElem?_append_left (by omega)] at h2
      exact h j b e h1 h2
    · rw [List.getElem?_append_right (by omega)] at h2
      have := (List.getElem?_eq_some_iff.mp h2).1
      rw [List.length_singleton] at this
      have e0 : j - τ.length = 0 := by omega
      rw [e0] at h2
      cases h2
      exact GrpAt.no ng
theorem Gr.plain {k : Kx} {A : List Addr} {F : Hp} {τ : Tau} {H Z : Hp} (h : ∀ (j : Nat) (d : D), τ[j]? = some d → isGrp d = false) : Gr k A F τ H Z := ⟨fun _ => [], ⟨fun _ => List.nodup_nil, fun _ _ _ h => (nomatch h), fun _ _ h => (nomatch h)⟩, fun j a d _ h2 => GrpAt.no (h j d h2)⟩
theorem tabs_no {H : Hp} {p : Addr} {o : HO} (t : LamX.Tabs Tb.T H) (h : H p = some o) (ho : isPl o = true) {u : HO} : LamX.Tabs Tb.T (upd H p u) := fun q hq => by
  obtain ⟨ps, h1, h2, h3⟩ := t q hq
  have n1 : q.1 ≠ p := fun e => by
    rw [e, h] at h1
    cases h1
    cases ho
  refine ⟨ps, by rw [upd_ne n1]; exact h1, h2, fun pos cv hc => ?_⟩
  obtain ⟨c, e1, e2⟩ := h3 pos cv hc
  have n2 : c ≠ p := fun e => by
    rw [e, h] at e2
    cases e2
    rw [code_npl] at ho
    cases ho
  exact ⟨c, e1, by rw [upd_ne n2]; exact e2⟩
structure Wd (k : Kx) (A : List Addr) (F : Hp) (τ : Tau) (H Z : Hp) : Prop where
  zh : Same Z H
  fh : Same F H
  zf : ∀ a, F a = none ∨ Z a = none
  len : A.length = τ.length
  io : ∀ (j : Nat) (a : Addr) (d : D), A[j]? = some a → τ[j]? = some d → ∃ o, H a = some o ∧ OwnO k Z d o
  out : ∀ a ∈ A, Z a = none ∧ F a = none
  nd : A.Nodup
  tabs : LamX.Tabs Tb.T H
  pl : ∀ (a : Addr) (o : HO), Z a = some o ∨ F a = some o → isPl o = true
  nt : ∀ (a : Addr) (vs : List V), F a ≠ some (.tup vs)
  gr : Gr k A F τ H Z
theorem Wd.pmF {k : Kx} {A : List Addr} {F : Hp} {τ : Tau} {H Z : Hp} (w : Wd k A F τ H Z) {a : Addr} {o : HO} (h : F a = some o) : isPm o = true :=
  pm_of (w.pl a o (.inr h)) fun vs e => w.nt a vs (by rw [h, e])
structure Sl (k : Kx) (A : List Addr) (F0 F : Hp) (ρ : Rho) (σ : L2.St) (Z : Hp) : Prop where
  len : ρ.length = σ.length
  fz : ∀ (i : Nat) (d : D), ρ[i]? = some (.fz d) → ∃ v, σ[i]? = some (some v) ∧ Rep k Z d v
  own : ∀ (i : Nat) (d : D), ρ[i]? = some (.own d) → ∃ (a : Addr) (o : HO), σ[i]? = some (some (V.ref a)) ∧ F a = some o ∧ F0 a = none ∧ OwnO k Z d o
  io : ∀ (i j : Nat), ρ[i]? = some (.io j) → ∃ a, A[j]? = some a ∧ σ[i]? = some (some (V.ref a))
  ap : ∀ (i j : Nat) (d e : D) (a : Addr), ρ[i]? = some (.own d) → ρ[j]? = some (.own e) → σ[i]? = some (some (V.ref a)) → σ[j]? = some (some (V.ref a)) → i = j
  f0 : Same F0 F
  rws : ∀ (i j n : Nat), ρ[i]? = some (.rows j n) → ∃ a, σ[i]? = some (some (V.ref a)) ∧ j + n ≤ A.length ∧ F a = some (.lst (((A.drop j).take n).map V.ref)) ∧ F0 a = none
  apr : ∀ (i j n l : Nat) (d : D) (a : Addr), ρ[i]? = some (.rows j n) → ρ[l]? = some (.own d) → σ[i]? = some (some (V.ref a)) → σ[l]? = some (some (V.ref a)) → False
theorem Sl.mono {k : Kx} {A : List Addr} {F0 F : Hp} {ρ : Rho} {σ : L2.St} {Z Z' : Hp} (h : Sl k A F0 F ρ σ Z) (e : Same Z Z') : Sl k A F0 F ρ σ Z' :=
  ⟨h.len, fun i d b => let ⟨v, p, q⟩ := h.fz i d b; ⟨v, p, q.mono e⟩, fun i d b => let ⟨x, o, p, q, r, s⟩ := h.own i d b; ⟨x, o, p, q, r, s.mono e⟩, h.io, h.ap, h.f0, h.rws, h.apr⟩
def RepX (k : Kx) (F Z H : Hp) (e : Exc) (cls : Value) (dx : Option Addr) : Prop :=
  ∃ (C d : Addr) (vs : List V), cls = .ref C ∧ k.mg e.c = some (.ref C) ∧ dx = some d ∧ H d = some (.xd (e.fs.zip vs)) ∧ e.fs.length = vs.length ∧ Reps k Z e.vs vs ∧ F d = none ∧ Z d = none
structure Jx where
  k : Kx
  W : WX
def After {α : Type} (c : Jx) (A : List Addr) (F0 F : Hp) (ρ : Rho) (σ : L2.St) (Z : Hp) (o : Out α) (Q : α → Tau → Hp → Hp → Prop) : Prop := match o with
  | .ok a τ' => ∀ H' Z', Wd c.k A F τ' H' Z' → Same Z Z' → Q a τ' H' Z'
  | .exc e τ' => ∀ cls dx H' Z', Wd c.k A F τ' H' Z' → Same Z Z' → RepX c.k F Z' H' e cls dx → Sl c.k A F0 F ρ σ Z' → c.W cls dx σ H'
  | .bad => False
def RepB (k : Kx) (F Z : Hp) (d : D) (v : V) : Prop := Rep k Z d v ∨ ∃ a o, v = .ref a ∧ F a = some o ∧ OwnO k Z d o
def RepBs (k : Kx) (F Z : Hp) : List D → List V → Prop
  | [], vs => vs = []
  | d :: ds, vs => ∃ v r, vs = v :: r ∧ RepB k F Z d v ∧ RepBs k F Z ds r
def tE (c : Jx) (m : SE) : TE := fun σ H Q => ∃ ρ τ A F0 F Z, Wd c.k A F τ H Z ∧ Sl c.k A F0 F ρ σ Z ∧ After c A F0 F ρ σ Z (m ρ τ) fun d _ H' Z' => ∀ v, Rep c.k Z' d v → Q v H'
def tB (c : Jx) (m : SE) : TE := fun σ H Q => ∃ ρ τ A F0 F Z, Wd c.k A F τ H Z ∧ Sl c.k A F0 F ρ σ Z ∧ After c A F0 F ρ σ Z (m ρ τ) fun d _ H' Z' => ∀ v, RepB c.k F Z' d v → Q v H'
def AfterF (c : Jx) (A : List Addr) (F0 F : Hp) (ρ : Rho) (σ : L2.St) (Z : Hp) (o : Out D) (Q : VK) : Prop := match o with
  | .ok d τ' => ∀ H' Z' a o, F a = none → a ∉ A → Wd c.k A (upd F a o) τ' H' Z' → Same Z Z' → OwnO c.k Z' d o → Q (.ref a) H'
  | .exc e τ' => ∀ cls dx H' Z', Wd c.k A F τ' H' Z' → Same Z Z' → RepX c.k F Z' H' e cls dx → Sl c.k A F0 F ρ σ Z' → c.W cls dx σ H'
  | .bad => False
def tF (c : Jx) (m : SE) : TE := fun σ H Q => ∃ ρ τ A F0 F Z, Wd c.k A F τ H Z ∧ Sl c.k A F0 F ρ σ Z ∧ AfterF c A F0 F ρ σ Z (m ρ τ) Q
def tT (c : Jx) (m : Rho → Tau → Out Bool) : TT := fun σ H Q => ∃ ρ τ A F0 F Z, Wd c.k A F τ H Z ∧ Sl c.k A F0 F ρ σ Z ∧ After c A F0 F ρ σ Z (m ρ τ) fun d _ H' _ => Q d H'
def tA (c : Jx) (m : Rho → Tau → Out (List D)) : TA := fun σ H Q => ∃ ρ τ A F0 F Z, Wd c.k A F τ H Z ∧ Sl c.k A F0 F ρ σ Z ∧ After c A F0 F ρ σ Z (m ρ τ) fun d _ H' Z' => ∀ v, RepBs c.k F Z' d v → Q v H'
end Hw
namespace Hw
open PySem PySem.Spec L2
variable [Tb]
theorem same_new {H : Hp} {p : Addr} {o : HO} (h : H p = none) : Same H (upd H p o) := fun b x e => by
  rw [upd_ne (ne_of_none e h)]
  exact e
theorem nt_upd {F : Hp} {p : Addr} {o : HO} (w : ∀ (a : Addr) (vs : List V), F a ≠ some (.tup vs)) (hn : ∀ vs, o ≠ .tup vs) : ∀ (a : Addr) (vs : List V), upd F p o a ≠ some (.tup vs) := fun a vs e => by
  by_cases ha : a = p
  · subst ha; rw [upd_same] at e; exact hn vs (Option.some.inj e)
  · rw [upd_ne ha] at e; exact w a vs e
theorem nt_re {F : Hp} {p : Addr} {o u : HO} (w : ∀ (a : Addr) (vs : List V), upd F p o a ≠ some (.tup vs)) (hn : ∀ vs, u ≠ .tup vs) : ∀ (a : Addr) (vs : List V), upd F p u a ≠ some (.tup vs) := fun a vs e => by
  by_cases ha : a = p
  · subst ha; rw [upd_same] at e; exact hn vs (Option.some.inj e)
  · rw [upd_ne ha] at e; exact w a vs (by rw [upd_ne ha]; exact e)
theorem nt_sub {F0 F : Hp} (e : Same F0 F) (w : ∀ (a : Addr) (vs : List V), F a ≠ some (.tup vs)) : ∀ (a : Addr) (vs : List V), F0 a ≠ some (.tup vs) := fun a vs h => w a vs (e _ _ h)
theorem none_of_same {H H' : Hp} {p : Addr} (e : Same H H') (h : H' p = none) : H p = none := e.free h
theorem Wd.alloc {k : Kx} {A : List Addr} {F : Hp} {τ : Tau} {H Z : Hp} {p : Addr} {o : HO} (w : Wd k A F τ H Z) (h : H p = none) (ho : isPl o = true) : Wd k A F τ (upd H p o) (upd Z p o) := by
  have zp := none_of_same w.zh h
  have fp := none_of_same w.fh h
  have ap : ∀ a ∈ A, a ≠ p := fun a ha e => by
    obtain ⟨j, hj, ej⟩ := List.getElem_of_mem ha
    have hj' : j < τ.length := by rw [← w.len]; exact hj
    obtain ⟨u, hu, _⟩ := w.io j a τ[j] (by rw [List.getElem?_eq_getElem hj, ej]) (List.getElem?_eq_getElem hj')
    rw [e, h] at hu
    cases hu
  refine ⟨fun a u e => ?_, fun a u e => ?_, fun a => ?_, w.len, fun j a d e1 e2 => ?_, fun a ha => ?_, w.nd, w.tabs.ext (same_new h), fun a u e => ?_, w.nt, w.gr.move (same_new zp) (fun a ha o' h' => by rw [upd_ne (ne_of_none h' h)]; exact h') (fun b o' z f na hb pb => ⟨by rw [upd_ne (ne_of_none hb h)]; exact z, f, by rw [upd_ne (ne_of_none hb h)]; exact hb⟩)⟩
  rotate_right
  · by_cases ha : a = p
    · subst ha
      rcases e with e | e
      · rw [upd_same] at e; cases e; exact ho
      · exact w.pl a u (.inr e)
    · rw [upd_ne ha] at e; exact w.pl a u e
  · by_cases ha : a = p
    · subst ha; rw [upd_same] at e ⊢; exact e
    · rw [upd_ne ha] at e ⊢; exact w.zh a u e
  · rw [upd_ne (ne_of_none e fp)]
    exact w.fh a u e
  · by_cases ha : a = p
    · subst ha; exact .inl fp
    · rw [upd_ne ha]; exact w.zf a
  · obtain ⟨u, hu, g⟩ := w.io j a d e1 e2
    refine ⟨u, ?_, g.mono (same_new zp)⟩
    rw [upd_ne (ne_of_none hu h)]
    exact hu
  · rw [upd_ne (ap a ha)]
    exact w.out a ha
theorem Wd.allocF {k : Kx} {A : List Addr} {F : Hp} {τ : Tau} {H Z : Hp} {p : Addr} {o : HO} (w : Wd k A F τ H Z) (h : H p = none) (ho : isPl o = true) (hn : ∀ vs, o ≠ .tup vs) : Wd k A (upd F p o) τ (upd H p o) Z := by
  have zp := none_of_same w.zh h
  have fp := none_of_same w.fh h
  have ap : ∀ a ∈ A, a ≠ p := fun a ha e => by
    obtain ⟨j, hj, ej⟩ := List.getElem_of_mem ha
    have hj' : j < τ.length := by rw [← w.len]; exact hj
    obtain ⟨u, hu, _⟩ := w.io j a τ[j] (by rw [List.getElem?_eq_getElem hj, ej]) (List.getElem?_eq_getElem hj')
    rw [e, h] at hu
    cases hu
  refine ⟨fun a u e => ?_, fun a u e => ?_, fun a => ?_, w.len, fun j a d e1 e2 => ?_, fun a ha => ?_, w.nd, w.tabs.ext (same_new h), fun a u e => ?_, nt_upd w.nt hn, w.gr.move (Same.refl Z) (fun a ha o' h' => by rw [upd_ne (ne_of_none h' h)]; exact h') (fun b o' z f na hb pb => ⟨z, by rw [upd_ne (ne_of_none hb h)]; exact f, by rw [upd_ne (ne_of_none hb h)]; exact hb⟩)⟩
  rotate_right
  · by_cases ha : a = p
    · subst ha
      rcases e with e | e
      · exact w.pl a u (.inl e)
      · rw [upd_same] at e; cases e; exact ho
    · rw [upd_ne ha] at e; exact w.pl a u e
  · rw [upd_ne (ne_of_none e zp)]
    exact w.zh a u e
  · by_cases ha : a = p
    · subst ha; rw [upd_same] at e ⊢; exact e
    · rw [upd_ne ha] at e ⊢; exact w.fh a u e
  · by_cases ha : a = p
    · subst ha; exact .inr zp
    · rw [upd_ne ha]; exact w.zf a
  · obtain ⟨u, hu, g⟩ := w.io j a d e1 e2
    refine ⟨u, ?_, g⟩
    rw [upd_ne (ne_of_none hu h)]
    exact hu
  · rw [upd_ne (ap a ha)]
    exact w.out a ha
theorem Wd.a_some {k : Kx} {A : List Addr} {F : Hp} {τ : Tau} {H Z : Hp} (w : Wd k A F τ H Z) {a : Addr} (ha : a ∈ A) : ∃ o, H a = some o := by
  obtain ⟨j, hj, ej⟩ := List.getElem_of_mem ha
  have hj' : j < τ.length := by rw [← w.len]; exact hj
  obtain ⟨u, hu, _⟩ := w.io j a τ[j] (by rw [List.getElem?_eq_getElem hj, ej]) (List.getElem?_eq_getElem hj')
  exact ⟨u, hu⟩
theorem Wd.a_pl {k : Kx} {A : List Addr} {F : Hp} {τ : Tau} {H Z : Hp} (w : Wd k A F τ H Z) {a : Addr} (ha : a ∈ A) : ∃ o, H a = some o ∧ isPm o = true := by
  obtain ⟨j, hj, ej⟩ := List.getElem_of_mem ha
  have hj' : j < τ.length := by rw [← w.len]; exact hj
  obtain ⟨u, hu, h⟩ := w.io j a τ[j] (by rw [List.getElem?_eq_getElem hj, ej]) (List.getElem?_eq_getElem hj')
  exact ⟨u, hu, h.pm⟩
theorem rep_of_own {k : Kx} {Z : Hp} {p : Addr} {o : HO} {d : D} (h : OwnO k Z d o) (hz : Z p = none) : Rep k (upd Z p o) d (.ref p) := by
  have e := same_new (o := o) hz
  cases d with
  | lst ds =>
    obtain ⟨vs, rfl, h2⟩ := h
    exact rep_lst.mpr ⟨p, vs, rfl, upd_same, h2.mono e⟩
  | dct t ks ds =>
    obtain ⟨vs, h1, h2⟩ := h
    exact rep_dct.mpr ⟨p, o, vs, rfl, upd_same, h1, h2.mono e⟩
  | ins c fs ds =>
    obtain ⟨C, dx, vs, rfl, h2, h3, h4⟩ := h
    exact rep_ins.mpr ⟨p, C, dx, vs, rfl, upd_same, h2, h3, h4.mono e⟩
  | nst ks ds =>
    obtain ⟨b, ob, kvs, vs, rfl, h2, h3, h4⟩ := h
    exact rep_nst.mpr ⟨p, b, ob, kvs, vs, rfl, upd_same, h2.mono e, h3, h4.mono e⟩
  | non => exact h.elim
  | bl _ => exact h.elim
  | int _ => exact h.elim
  | str _ => exact h.elim
  | tup _ => exact h.elim
  | scr _ => exact h.elim
  | ctup _ => exact h.elim
  | grp c fs ds => exact rep_grp.mpr ⟨p, rfl⟩
  | exn _ _ _ => exact h.elim
  | xtp _ => exact h.elim
theorem Wd.freeze {k : Kx} {A : List Addr} {F : Hp} {τ : Tau} {H Z : Hp} {p : Addr} {o : HO} (w : Wd k A (upd F p o) τ H Z) (h : F p = none) : Wd k A F τ H (upd Z p o) := by
  have zp : Z p = none := by
    rcases w.zf p with z | z
    · rw [upd_same] at z; cases z
    · exact z
  have ap : ∀ a ∈ A, a ≠ p := fun a ha e => by
    have := (w.out a ha).2
    rw [e, upd_same] at this
    cases this
  refine ⟨fun a u e => ?_, fun a u e => ?_, fun a => ?_, w.len, fun j a d e1 e2 => ?_, fun a ha => ?_, w.nd, w.tabs, fun a u e => ?_, nt_sub (same_new h) w.nt, w.gr.move (same_new zp) (fun _ _ _ h => h) (fun b o' z f na hb pb => by
    have nb : b ≠ p := fun e => by rw [e, upd_same] at f; cases f
    rw [upd_ne nb] at f
    exact ⟨by rw [upd_ne nb]; exact z, f, hb⟩)⟩
  rotate_right
  · by_cases ha : a = p
    · subst ha
      refine w.pl a u (.inr ?_)
      rw [upd_same]
      rcases e with e | e
      · rw [upd_same] at e; exact e
      · rw [h] at e; cases e
    · rw [upd_ne ha] at e
      exact w.pl a u (by rw [upd_ne ha]; exact e)
  · by_cases ha : a = p
    · subst ha
      rw [upd_same] at e
      exact w.fh a u (by rw [upd_same]; exact e)
    · rw [upd_ne ha] at e; exact w.zh a u e
  · exact w.fh a u (by rw [upd_ne (ne_of_none e h)]; exact e)
  · by_cases ha : a = p
    · subst ha; exact .inl h
    · have := w.zf a
      rw [upd_ne ha] at this ⊢
      exact this
  · obtain ⟨u, hu, g⟩ := w.io j a d e1 e2
    exact ⟨u, hu, g.mono (same_new zp)⟩
  · have := w.out a ha
    rw [upd_ne (ap a ha)] at this ⊢
    exact this
section
variable {α β : Type} {c : Jx} {A : List Addr} {F0 F Z Z' : Hp} {ρ : Rho} {σ : L2.St}
theorem After.mono {o : Out α} {Q Q' : α → Tau → Hp → Hp → Prop} (e : Same Z Z') (q : ∀ a τ H Z, Q a τ H Z → Q' a τ H Z) (h : After c A F0 F ρ σ Z o Q) : After c A F0 F ρ σ Z' o Q' := by
  cases o with
  | ok a τ => exact fun H1 Z1 w s => q _ _ _ _ (h H1 Z1 w (e.trans s))
  | exc x τ => exact fun cls dx H1 Z1 w s => h cls dx H1 Z1 w (e.trans s)
  | bad => exact h
theorem After.bind {o : Out α} {f : α → Tau → Out β} {Q : β → Tau → Hp → Hp → Prop} (h : After c A F0 F ρ σ Z (o.bind f) Q) :
    After c A F0 F ρ σ Z o fun a τ _ Z1 => After c A F0 F ρ σ Z1 (f a τ) Q := by
  cases o with
  | ok a τ => exact fun H1 Z1 w s => After.mono s (fun _ _ _ _ q => q) h
  | exc x τ => exact h
  | bad => exact h
theorem After.ok {a : α} {τ : Tau} {Q : α → Tau → Hp → Hp → Prop} (h : After c A F0 F ρ σ Z (.ok a τ) Q) {H' : Hp} (w : Wd c.k A F τ H' Z) : Q a τ H' Z := h H' Z w (Same.refl Z)
theorem After.next {o : Out α} {f : α → Tau → Out β} {Q : β → Tau → Hp → Hp → Prop} {K : α → Tau → Hp → Hp → Prop} (h : After c A F0 F ρ σ Z (o.bind f) Q)
    (hK : ∀ a τ H1 Z1, Wd c.k A F τ H1 Z1 → Same Z Z1 → After c A F0 F ρ σ Z1 (f a τ) Q → K a τ H1 Z1) : After c A F0 F ρ σ Z o K := by
  have q := After.bind h
  cases o with
  | ok a τ => exact fun H1 Z1 w e => hK a τ H1 Z1 w e (q H1 Z1 w e)
  | exc x τ => exact q
  | bad => exact q
theorem After.of {o : Option α} {τ : Tau} {Q : α → Tau → Hp → Hp → Prop} (h : After c A F0 F ρ σ Z (Out.of o τ) Q) : ∃ z, o = some z ∧ After c A F0 F ρ σ Z (.ok z τ) Q := by
  cases o with
  | none => exact h.elim
  | some z => exact ⟨z, rfl, h⟩
theorem AfterF.next {o : Out α} {f : α → Tau → Out D} {Q : VK} {K : α → Tau → Hp → Hp → Prop} (h : AfterF c A F0 F ρ σ Z (o.bind f) Q)
    (hK : ∀ a τ H1 Z1, Wd c.k A F τ H1 Z1 → Same Z Z1 → AfterF c A F0 F ρ σ Z1 (f a τ) Q → K a τ H1 Z1) : After c A F0 F ρ σ Z o K := by
  cases o with
  | ok a τ =>
    intro H1 Z1 w e
    refine hK a τ H1 Z1 w e ?_
    have h : AfterF c A F0 F ρ σ Z (f a τ) Q := h
    cases hf : f a τ with
    | ok d τ' => rw [hf] at h; exact fun H' Z' a' o h1 h2 h3 h4 h5 => h H' Z' a' o h1 h2 h3 (e.trans h4) h5
    | exc x τ' => rw [hf] at h; exact fun cls dx H' Z' h1 h2 h3 h4 => h cls dx H' Z' h1 (e.trans h2) h3 h4
    | bad => rw [hf] at h; exact h
  | exc x τ => exact h
  | bad => exact h
theorem AfterF.of {o : Option D} {τ : Tau} {Q : VK} (h : AfterF c A F0 F ρ σ Z (Out.of o τ) Q) : ∃ z, o = some z ∧ AfterF c A F0 F ρ σ Z (.ok z τ) Q := by
  cases o with
  | none => exact h.elim
  | some z => exact ⟨z, rfl, h⟩
theorem AfterF.ok {d : D} {τ : Tau} {Q : VK} (h : AfterF c A F0 F ρ σ Z (.ok d τ) Q) {H1 : Hp} (w : Wd c.k A F τ H1 Z) {p : Addr} {o : HO} (hp : H1 p = none) (ho : OwnO c.k Z d o) : Q (.ref p) (upd H1 p o) :=
  h _ _ p o (none_of_same w.fh hp) (fun ha => by
    obtain ⟨u, hu⟩ := w.a_some ha
    rw [hp] at hu
    cases hu) (w.allocF hp ho.pl ho.nt) (Same.refl Z) ho
theorem After.newQ {z : D} {τ : Tau} {Q : VK} (h : After c A F0 F ρ σ Z (.ok z τ) fun d _ H' Z' => ∀ v, Rep c.k Z' d v → Q v H') {H1 : Hp} (w : Wd c.k A F τ H1 Z) :
    (∀ v, Rep c.k Z z v → Q v H1) ∧ ∀ p o, isPl o = true → H1 p = none → Z p = none → Rep c.k (upd Z p o) z (.ref p) → Q (.ref p) (upd H1 p o) :=
  ⟨fun v r => h H1 Z w (Same.refl Z) v r, fun p o ho hp zp r => h _ _ (w.alloc hp ho) (same_new zp) _ r⟩
end
theorem RepB.mono {k : Kx} {F Z Z' : Hp} (e : Same Z Z') {d : D} {v : V} (h : RepB k F Z d v) : RepB k F Z' d v := by
  rcases h with h | ⟨a, o, h1, h2, h3⟩
  · exact .inl (h.mono e)
  · exact .inr ⟨a, o, h1, h2, h3.mono e⟩
theorem RepBs.mono {k : Kx} {F Z Z' : Hp} (e : Same Z Z') : ∀ {ds : List D} {vs : List V}, RepBs k F Z ds vs → RepBs k F Z' ds vs
  | [], _, h => h
  | _ :: _, _, ⟨v, r, h1, h2, h3⟩ => ⟨v, r, h1, h2.mono e, RepBs.mono e h3⟩
theorem RepB.scal {k : Kx} {F Z : Hp} {d : D} {v : V} (h : RepB k F Z d v) : (∀ i, d = .int i → v = .int i) ∧ (∀ i, d = .bl i → v = .bl i) ∧ (∀ i, d = .str i → v = .str i) ∧ (d = .non → v = .non) := by
  rcases h with h | ⟨a, o, h1, h2, h3⟩
  · refine ⟨fun i e => ?_, fun i e => ?_, fun i e => ?_, fun e => ?_⟩ <;> subst e
    · exact rep_int.mp h
    · exact rep_bl.mp h
    · exact rep_str.mp h
    · exact rep_non.mp h
  · refine ⟨fun i e => ?_, fun i e => ?_, fun i e => ?_, fun e => ?_⟩ <;> subst e <;> exact h3.elim
theorem RepB.int {k : Kx} {F Z : Hp} {i : Int} {v : V} (h : RepB k F Z (.int i) v) : v = .int i := h.scal.1 i rfl
theorem RepB.bl {k : Kx} {F Z : Hp} {i : Bool} {v : V} (h : RepB k F Z (.bl i) v) : v = .bl i := h.scal.2.1 i rfl
theorem RepB.str {k : Kx} {F Z : Hp} {i : Str} {v : V} (h : RepB k F Z (.str i) v) : v = .str i := h.scal.2.2.1 i rfl
theorem RepB.non {k : Kx} {F Z : Hp} {v : V} (h : RepB k F Z .non v) : v = .non := h.scal.2.2.2 rfl
theorem RepB.lst {k : Kx} {F Z H : Hp} (eZ : Same Z H) (eF : Same F H) {ds : List D} {v : V} (h : RepB k F Z (.lst ds) v) : ∃ a vs, v = .ref a ∧ H a = some (.lst vs) ∧ Reps k Z ds vs := by
  rcases h with h | ⟨a, o, h1, h2, h3⟩
  · obtain ⟨a, vs, h1, h2, h3⟩ := rep_lst.mp h
    exact ⟨a, vs, h1, eZ _ _ h2, h3⟩
  · obtain ⟨vs, rfl, h4⟩ := h3
    exact ⟨a, vs, h1, eF _ _ h2, h4⟩
theorem RepB.scr {k : Kx} {F Z H : Hp} (eZ : Same Z H) {ns : List Int} {v : V} (h : RepB k F Z (.scr ns) v) : ∃ a, v = .ref a ∧ SqL k.K H a (ns.map V.int) := by
  rcases h with h | ⟨a, o, h1, h2, h3⟩
  · obtain ⟨a, h1, h2⟩ := rep_scr.mp h
    exact ⟨a, h1, eZ.seq h2⟩
  · exact h3.elim
theorem RepB.tup {k : Kx} {F Z H : Hp} (eZ : Same Z H) {ds : List D} {v : V} (h : RepB k F Z (.tup ds) v) : ∃ a vs, v = .ref a ∧ H a = some (.tup vs) ∧ Reps k Z ds vs := by
  rcases h with h | ⟨a, o, h1, h2, h3⟩
  · obtain ⟨a, vs, h1, h2, h3⟩ := rep_tup.mp h
    exact ⟨a, vs, h1, eZ _ _ h2, h3⟩
  · exact h3.elim
theorem RepB.ctup {k : Kx} {F Z H : Hp} (eZ : Same Z H) {vs : List V} {v : V} (h : RepB k F Z (.ctup vs) v) : ∃ a, v = .ref a ∧ SqT k.K H a vs := by
  rcases h with h | ⟨a, o, h1, h2, h3⟩
  · obtain ⟨a, h1, h2⟩ := rep_ctup.mp h
    exact ⟨a, h1, same_sqT eZ h2⟩
  · exact h3.elim
theorem RepB.dct {k : Kx} {F Z H : Hp} (eZ : Same Z H) (eF : Same F H) {t : Bool} {ks ds : List D} {v : V} (h : RepB k F Z (.dct t ks ds) v) : ∃ a o vs, v = .ref a ∧ H a = some o ∧ DctO t o ks vs ∧ Reps k Z ds vs := by
  rcases h with h | ⟨a, o, h1, h2, h3⟩
  · obtain ⟨a, o, vs, h1, h2, h3, h4⟩ := rep_dct.mp h
    exact ⟨a, o, vs, h1, eZ _ _ h2, h3, h4⟩
  · obtain ⟨vs, h4, h5⟩ := h3
    exact ⟨a, o, vs, h1, eF _ _ h2, h4, h5⟩
def NewQ (k : Kx) (Z H : Hp) (z : D) (Q : VK) : Prop := (∀ v, Rep k Z z v → Q v H) ∧ ∀ p o, isPl o = true → H p = none → Z p = none → Rep k (upd Z p o) z (.ref p) → Q (.ref p) (upd H p o)
def FrQ (k : Kx) (Z H : Hp) (z : D) (Q : VK) : Prop := ∀ p o, H p = none → OwnO k Z z o → Q (.ref p) (upd H p o)
def OpD (k : Kx) (r : R2) (f : D → D → Option D) : Prop := ∀ {F Z H : Hp} {x y : V} {d e z : D} {Q : VK}, Same Z H → Same F H → RepB k F Z d x → RepB k F Z e y → f d e = some z → NewQ k Z H z Q → r x y H Q
def OpF (k : Kx) (r : R2) (f : D → D → Option D) : Prop := ∀ {F Z H : Hp} {x y : V} {d e z : D} {Q : VK}, Same Z H → Same F H → RepB k F Z d x → RepB k F Z e y → f d e = some z → FrQ k Z H z Q → r x y H Q
theorem FrQ.of_new {k : Kx} {Z H : Hp} {z : D} {Q : VK} (e : Same Z H) (h : NewQ k Z H z Q) : FrQ k Z H z Q := fun p o hp ho => h.2 p o ho.pl hp (none_of_same e hp) (rep_of_own ho (none_of_same e hp))
theorem OpF.d {k : Kx} {r : R2} {f : D → D → Option D} (h : OpF k r f) : OpD k r f := fun eZ eF hx hy e q => h eZ eF hx hy e (FrQ.of_new eZ q)
abbrev RC := List V → Hp → VK → Prop
def CallD (k : Kx) (r : RC) (f : List D → Option D) : Prop := ∀ {F Z H : Hp} {xs : List V} {ds : List D} {z : D} {Q : VK}, Same Z H → Same F H → RepBs k F Z ds xs → f ds = some z → NewQ k Z H z Q → r xs H Q
def CallF (k : Kx) (r : RC) (f : List D → Option D) : Prop := ∀ {F Z H : Hp} {xs : List V} {ds : List D} {z : D} {Q : VK}, Same Z H → Same F H → RepBs k F Z ds xs → f ds = some z → FrQ k Z H z Q → r xs H Q
theorem CallF.d {k : Kx} {r : RC} {f : List D → Option D} (h : CallF k r f) : CallD k r f := fun eZ eF hx e q => h eZ eF hx e (FrQ.of_new eZ q)
def eVar (i : Nat) : SE := fun ρ τ => match ρ[i]? with
  | some (.fz d) => .ok d τ
  | _ => .bad
def eVarB (i : Nat) : SE := fun ρ τ => match ρ[i]? with
  | some (.fz d) => .ok d τ
  | some (.own d) => .ok d τ
  | _ => .bad
def eC (d : D) : SE := fun _ τ => .ok d τ
def eBin (f : D → D → Option D) (a b : SE) : SE := fun ρ τ => (a ρ τ).bind fun x τ1 => (b ρ τ1).bind fun y τ2 => .of (f x y) τ2
def eUn (f : D → Option D) (a : SE) : SE := fun ρ τ => (a ρ τ).bind fun x τ1 => .of (f x) τ1
def eIf (t : Rho → Tau → Out Bool) (a b : SE) : SE := fun ρ τ => (t ρ τ).bind fun x τ1 => if x = true then a ρ τ1 else b ρ τ1
abbrev ST := Rho → Tau → Out Bool
abbrev SA := Rho → Tau → Out (List D)
def tOf (m : SE) : ST := fun ρ τ => (m ρ τ).bind fun d τ1 => match d with
  | .bl b => .ok b τ1
  | _ => .bad
def tAnd (a b : ST) : ST := fun ρ τ => (a ρ τ).bind fun x τ1 => if x = true then b ρ τ1 else .ok false τ1
def tOr (a b : ST) : ST := fun ρ τ => (a ρ τ).bind fun x τ1 => if x = true then .ok true τ1 else b ρ τ1
def tNot (a : ST) : ST := fun ρ τ => (a ρ τ).bind fun x τ1 => .ok (!x) τ1
def aNil : SA := fun _ τ => .ok [] τ
def aCons (a : SE) (r : SA) : SA := fun ρ τ => (a ρ τ).bind fun x τ1 => (r ρ τ1).bind fun xs τ2 => .ok (x :: xs) τ2
def eCallB (f : List D → Option D) (a : SA) : SE := fun ρ τ => (a ρ τ).bind fun xs τ1 => .of (f xs) τ1
def eTup (a : SA) : SE := fun ρ τ => (a ρ τ).bind fun xs τ1 => if xs.length ≤ sizeLine then .ok (.tup xs) τ1 else .bad
def eLst (a : SA) : SE := fun ρ τ => (a ρ τ).bind fun xs τ1 => if xs.length ≤ sizeLine then .ok (.lst xs) τ1 else .bad
abbrev jx (X : Cx) (W : WX) : Jx := ⟨⟨X.K, X.mg⟩, W⟩
abbrev EV (X : Cx) (W : WX) (e : Expr) (m : SE) : Prop := PE X e (tE (jx X W) m)
abbrev EB (X : Cx) (W : WX) (e : Expr) (m : SE) : Prop := PE X e (tB (jx X W) m)
abbrev EF (X : Cx) (W : WX) (e : Expr) (m : SE) : Prop := PE X e (tF (jx X W) m)
abbrev ET (X : Cx) (W : WX) (e : Expr) (m : ST) : Prop := PT X e (tT (jx X W) m)
abbrev EW (X : Cx) (W : WX) (e : Expr) (m : ST) : Prop := PW X e (tT (jx X W) m)
abbrev EA (X : Cx) (W : WX) (e : List Expr) (m : SA) : Prop := PA X e (tA (jx X W) m)
def tAV (c : Jx) (m : SA) : TA := fun σ H Q => ∃ ρ τ A F0 F Z, Wd c.k A F τ H Z ∧ Sl c.k A F0 F ρ σ Z ∧ After c A F0 F ρ σ Z (m ρ τ) fun d _ H' Z' => ∀ v, Reps c.k Z' d v → Q v H'
abbrev EAV (X : Cx) (W : WX) (e : List Expr) (m : SA) : Prop := PA X e (tAV (jx X W) m)
section
variable {X : Cx} {W : WX} {e a b : Expr} {m ma mb : SE} {t : TE} {pos : Pos}
theorem pe_weak {t t' : TE} (h : PE X e t) (hi : ∀ σ H Q, t' σ H Q → t σ H Q) : PE X e t' := ⟨fun pins s σ H Q I q => h.run pins s σ H Q I (hi σ H Q q)⟩
theorem pt_weak {t t' : TT} (h : PT X e t) (hi : ∀ σ H Q, t' σ H Q → t σ H Q) : PT X e t' := ⟨fun pins s σ H Q I q => h.run pins s σ H Q I (hi σ H Q q)⟩
theorem pw_weak {t t' : TT} (h : PW X e t) (hi : ∀ σ H Q, t' σ H Q → t σ H Q) : PW X e t' := ⟨fun w pins s σ H Q I q => h.run w pins s σ H Q I (hi σ H Q q)⟩
theorem pa_weak {es : List Expr} {t t' : TA} (h : PA X es t) (hi : ∀ σ H Q, t' σ H Q → t σ H Q) : PA X es t' := ⟨fun p pins s σ H Q I q => h.run p pins s σ H Q I (hi σ H Q q)⟩
theorem ev_b (h : EV X W e m) : EB X W e m := pe_weak h fun σ H Q ⟨ρ, τ, A, F0, F, Z, w, s, q⟩ => ⟨ρ, τ, A, F0, F, Z, w, s, After.mono (Same.refl Z) (fun _ _ _ _ q v r => q v (.inl r)) q⟩
theorem ef_v (h : EF X W e m) : EV X W e m := pe_weak h fun σ H Q ⟨ρ, τ, A, F0, F, Z, w, s, q⟩ => ⟨ρ, τ, A, F0, F, Z, w, s, by
  cases hm : m ρ τ with
  | ok d τ' =>
    rw [hm] at q
    refine fun H' Z' a o fa na w' e' ho => ?_
    have za : Z' a = none := by
      rcases w'.zf a with z | z
      · rw [upd_same] at z; cases z
      · exact z
    exact q H' (upd Z' a o) (w'.freeze fa) (e'.trans (same_new za)) (.ref a) (rep_of_own ho za)
  | exc x τ' =>
    rw [hm] at q
    exact q
  | bad =>
    rw [hm] at q
    exact q⟩
theorem ev_var (i : Nat) {x : Str} (hN : X.N[i]? = some x := by rfl) (hv : Vis X.env.scope x := by first | exact Or.inl rfl | exact Or.inr (Or.inl rfl) | exact Or.inr (Or.inr rfl)) (hd : (x == ("__debug__" : Str)) = false := by decide)
    (hcd : (x == ("__classdict__" : Str)) = false := by decide) : EV X W (.Name x pos) (eVar i) := pe_weak (pe_var hN hv hd hcd) fun σ H Q ⟨ρ, τ, A, F0, F, Z, w, s, q⟩ => by
  unfold eVar at q
  split at q
  · rename_i d hd
    obtain ⟨v, e, r⟩ := s.fz i d hd
    exact ⟨v, e, After.ok q w v r⟩
  · exact q.elim
theorem eb_var (i : Nat) {x : Str} (hN : X.N[i]? = some x := by rfl) (hv : Vis X.env.scope x := by first | exact Or.inl rfl | exact Or.inr (Or.inl rfl) | exact Or.inr (Or.inr rfl)) (hd : (x == ("__debug__" : Str)) = false := by decide)
    (hcd : (x == ("__classdict__" : Str)) = false := by decide) : EB X W (.Name x pos) (eVarB i) := pe_weak (pe_var hN hv hd hcd) fun σ H Q ⟨ρ, τ, A, F0, F, Z, w, s, q⟩ => by
  unfold eVarB at q
  split at q
  · rename_i d hd
    obtain ⟨v, e, r⟩ := s.fz i d hd
    exact ⟨v, e, After.ok q w v (.inl r)⟩
  · rename_i d hd
    obtain ⟨a, o, e, f, _, r⟩ := s.own i d hd
    exact ⟨.ref a, e, After.ok q w _ (.inr ⟨a, o, rfl, f, r⟩)⟩
  · exact q.elim
theorem ev_of_c {v : V} {d : D} (h : PE X e (tC v)) (r : ∀ Z, Rep ⟨X.K, X.mg⟩ Z d v) : EV X W e (eC d) := pe_weak h fun σ H Q ⟨ρ, τ, A, F0, F, Z, w, s, q⟩ => q H Z w (Same.refl Z) v (r Z)
theorem ev_int {i : Int} {j : Nat} : EV X W (.Constant (.int i) j pos) (eC (.int i)) := ev_of_c pe_int fun _ => rep_int.mpr rfl
theorem ev_bl {i : Bool} {j : Nat} : EV X W (.Constant (.bool i) j pos) (eC (.bl i)) := ev_of_c pe_bl fun _ => rep_bl.mpr rfl
theorem ev_non {j : Nat} : EV X W (.Constant .none j pos) (eC .non) := ev_of_c pe_non fun _ => rep_non.mpr rfl
theorem ev_str {x : Str} {j : Nat} : EV X W (.Constant (.str x) j pos) (eC (.str x)) := ev_of_c pe_str fun _ => rep_str.mpr rfl
theorem bin_ok {r : R2} {f : D → D → Option D} (hd : OpD ⟨X.K, X.mg⟩ r f) : ∀ σ H Q, tE (jx X W) (eBin f ma mb) σ H Q → tOp r (tB (jx X W) ma) (tB (jx X W) mb) σ H Q := fun σ H Q ⟨ρ, τ, A, F0, F, Z, w, s, q⟩ =>
  ⟨ρ, τ, A, F0, F, Z, w, s, After.next q fun d τ1 H1 Z1 w1 e1 q1 x rx => ⟨ρ, τ1, A, F0, F, Z1, w1, s.mono e1, After.next q1 fun e τ2 H2 Z2 w2 e2 q2 y ry => by
    obtain ⟨z, hz, q3⟩ := After.of q2
    exact hd w2.zh w2.fh (rx.mono e2) ry hz (After.newQ q3 w2)⟩⟩
theorem binF_ok {r : R2} {f : D → D → Option D} (hd : OpF ⟨X.K, X.mg⟩ r f) : ∀ σ H Q, tF (jx X W) (eBin f ma mb) σ H Q → tOp r (tB (jx X W) ma) (tB (jx X W) mb) σ H Q := fun σ H Q ⟨ρ, τ, A, F0, F, Z, w, s, q⟩ =>
  ⟨ρ, τ, A, F0, F, Z, w, s, AfterF.next q fun d τ1 H1 Z1 w1 e1 q1 x rx => ⟨ρ, τ1, A, F0, F, Z1, w1, s.mono e1, AfterF.next q1 fun e τ2 H2 Z2 w2 e2 q2 y ry => by
    obtain ⟨z, hz, q3⟩ := AfterF.of q2
    exact hd w2.zh w2.fh (rx.mono e2) ry hz fun p o hp ho => AfterF.ok q3 w2 hp ho⟩⟩
theorem ev_op {op : Operator} {r : R2} {f : D → D → Option D} (ho : OpR X (binaryOp op) r) (hd : OpD ⟨X.K, X.mg⟩ r f) (ha : EB X W a ma) (hb : EB X W b mb) : EV X W (.BinOp a op b pos) (eBin f ma mb) := pe_weak (pe_op ho ha hb) (bin_ok hd)
theorem ef_op {op : Operator} {r : R2} {f : D → D → Option D} (ho : OpR X (binaryOp op) r) (hd : OpF ⟨X.K, X.mg⟩ r f) (ha : EB X W a ma) (hb : EB X W b mb) : EF X W (.BinOp a op b pos) (eBin f ma mb) := pe_weak (pe_op ho ha hb) (binF_ok hd)
theorem ev_cmp {op : CmpOp} {r : R2} {f : D → D → Option D} (ho : OpR X (compareOp op) r) (hd : OpD ⟨X.K, X.mg⟩ r f) (ha : EB X W a ma) (hb : EB X W b mb) (hm : behindInMarks op b = false) : EV X W (.Compare a [op] [b] pos) (eBin f ma mb) := pe_weak (pe_cmpR ho ha hb hm) (bin_ok hd)
theorem test_ok {t : TE} (h : ∀ σ H Q, tE (jx X W) m σ H Q → t σ H Q) : ∀ σ H Q, tT (jx X W) (tOf m) σ H Q → tTest t σ H Q := fun σ H Q ⟨ρ, τ, A, F0, F, Z, w, s, q⟩ =>
  h σ H _ ⟨ρ, τ, A, F0, F, Z, w, s, After.next q fun d τ1 H1 Z1 w1 e1 q1 v rv => by
    cases d with
    | bl b => exact ⟨b, rep_bl.mp rv, After.ok q1 w1⟩
    | _ => exact False.elim q1⟩
theorem et_cmp {op : CmpOp} {r : R2} {f : D → D → Option D} (ho : OpR X (compareOp op) r) (hd : OpD ⟨X.K, X.mg⟩ r f) (ha : EB X W a ma) (hb : EB X W b mb) (hm : behindInMarks op b = false) : ET X W (.Compare a [op] [b] pos) (tOf (eBin f ma mb)) :=
  pt_weak (pt_cmpR ho ha hb hm) (test_ok (bin_ok hd))
theorem et_val (h : EV X W e m) (he : ∀ whole, isTrue e X.env whole = (do let v ← whole; standAt e.pos; holding [v] (truthy v)) := by intro _; rfl) : ET X W e (tOf m) := pt_weak (pt_val h he) (test_ok fun _ _ _ q => q)
section
variable {ta tb : ST} {rest : List Expr} {c : Expr}
theorem ew_and1 (h : ET X W a ta) : EW X W (.BoolOp .And [a] pos) ta := pw_and1 h
theorem ew_or1 (h : ET X W a ta) : EW X W (.BoolOp .Or [a] pos) ta := pw_or1 h
theorem ew_and (ha : ET X W a ta) (hb : EW X W (.BoolOp .And (b :: rest) pos) tb) : EW X W (.BoolOp .And (a :: b :: rest) pos) (tAnd ta tb) := pw_weak (pw_and ha hb) fun σ H Q ⟨ρ, τ, A, F0, F, Z, w, s, q⟩ =>
  ⟨ρ, τ, A, F0, F, Z, w, s, After.next q fun d τ1 H1 Z1 w1 e1 q1 => by
    cases d with
    | true => exact ⟨ρ, τ1, A, F0, F, Z1, w1, s.mono e1, q1⟩
    | false => exact After.ok q1 w1⟩
theorem ew_or (ha : ET X W a ta) (hb : EW X W (.BoolOp .Or (b :: rest) pos) tb) : EW X W (.BoolOp .Or (a :: b :: rest) pos) (tOr ta tb) := pw_weak (pw_or ha hb) fun σ H Q ⟨ρ, τ, A, F0, F, Z, w, s, q⟩ =>
  ⟨ρ, τ, A, F0, F, Z, w, s, After.next q fun d τ1 H1 Z1 w1 e1 q1 => by
    cases d with
    | false => exact ⟨ρ, τ1, A, F0, F, Z1, w1, s.mono e1, q1⟩
    | true => exact After.ok q1 w1⟩
theorem et_not (ha : ET X W a ta) : ET X W (.UnaryOp .Not a pos) (tNot ta) := pt_weak (pt_not ha) fun σ H Q ⟨ρ, τ, A, F0, F, Z, w, s, q⟩ =>
  ⟨ρ, τ, A, F0, F, Z, w, s, After.next q fun d τ1 H1 Z1 w1 e1 q1 => After.ok q1 w1⟩
theorem ev_if (hc : ET X W c ta) (ha : EV X W a ma) (hb : EV X W b mb) : EV X W (.IfExp c a b pos) (eIf ta ma mb) := pe_weak (pe_ifExp hc ha hb) fun σ H Q ⟨ρ, τ, A, F0, F, Z, w, s, q⟩ =>
  ⟨ρ, τ, A, F0, F, Z, w, s, After.next q fun d τ1 H1 Z1 w1 e1 q1 => by
    cases d with
    | true => exact ⟨ρ, τ1, A, F0, F, Z1, w1, s.mono e1, q1⟩
    | false => exact ⟨ρ, τ1, A, F0, F, Z1, w1, s.mono e1, q1⟩⟩
end
section
variable {es : List Expr} {mr : SA}
theorem ea_nil : EA X W [] aNil := pa_weak pa_nil fun σ H Q ⟨ρ, τ, A, F0, F, Z, w, s, q⟩ => q H Z w (Same.refl Z) [] rfl
theorem ea_cons (ha : EB X W e ma) (hr : EA X W es mr) (hs : starEach (e :: es) X.env = (false, eval e X.env) :: starEach es X.env := by rfl) : EA X W (e :: es) (aCons ma mr) := pa_weak (pa_cons ha hr hs) fun σ H Q ⟨ρ, τ, A, F0, F, Z, w, s, q⟩ =>
  ⟨ρ, τ, A, F0, F, Z, w, s, After.next q fun d τ1 H1 Z1 w1 e1 q1 x rx => ⟨ρ, τ1, A, F0, F, Z1, w1, s.mono e1, After.next q1 fun ds τ2 H2 Z2 w2 e2 q2 ys ry =>
    After.ok q2 w2 _ ⟨x, ys, rfl, rx.mono e2, ry⟩⟩⟩
theorem eav_nil : EAV X W [] aNil := pa_weak pa_nil fun σ H Q ⟨ρ, τ, A, F0, F, Z, w, s, q⟩ => q H Z w (Same.refl Z) [] Reps.nil
theorem eav_cons (ha : EV X W e ma) (hr : EAV X W es mr) (hs : starEach (e :: es) X.env = (false, eval e X.env) :: starEach es X.env := by rfl) : EAV X W (e :: es) (aCons ma mr) := pa_weak (pa_cons ha hr hs) fun σ H Q ⟨ρ, τ, A, F0, F, Z, w, s, q⟩ =>
  ⟨ρ, τ, A, F0, F, Z, w, s, After.next q fun d τ1 H1 Z1 w1 e1 q1 x rx => ⟨ρ, τ1, A, F0, F, Z1, w1, s.mono e1, After.next q1 fun ds τ2 H2 Z2 w2 e2 q2 ys ry =>
    After.ok q2 w2 _ (Reps.cons (rx.mono e2) ry)⟩⟩
theorem ev_tup {j : Nat} (h : EAV X W es mr) : EV X W (.Tuple es j pos) (eTup mr) := pe_weak (pe_tup h) fun σ H Q ⟨ρ, τ, A, F0, F, Z, w, s, q⟩ =>
  ⟨ρ, τ, A, F0, F, Z, w, s, After.next q fun ds τ1 H1 Z1 w1 e1 q1 vs rv => by
    by_cases hl : ds.length ≤ sizeLine
    · rw [if_pos hl] at q1
      refine ⟨by rw [← rv.length]; exact hl, fun p hp => ?_⟩
      have zp := none_of_same w1.zh hp
      exact q1 _ _ (w1.alloc hp rfl) (same_new zp) _ (rep_tup.mpr ⟨p, vs, rfl, upd_same, rv.mono (same_new zp)⟩)
    · rw [if_neg hl] at q1
      exact False.elim q1⟩
theorem ef_lst (h : EAV X W es mr) : EF X W (.List es pos) (eLst mr) := pe_weak (pe_lst h) fun σ H Q ⟨ρ, τ, A, F0, F, Z, w, s, q⟩ =>
  ⟨ρ, τ, A, F0, F, Z, w, s, AfterF.next q fun ds τ1 H1 Z1 w1 e1 q1 vs rv => by
    by_cases hl : ds.length ≤ sizeLine
    · rw [if_pos hl] at q1
      refine ⟨by rw [← rv.length]; exact hl, fun p hp => AfterF.ok q1 w1 hp ⟨vs, rfl, rv⟩⟩
    · rw [if_neg hl] at q1
      exact False.elim q1⟩
end
theorem callB_ok {r : RC} {f : List D → Option D} {mr : SA} (hd : CallD ⟨X.K, X.mg⟩ r f) : ∀ σ H Q, tE (jx X W) (eCallB f mr) σ H Q → tCB r (tA (jx X W) mr) σ H Q := fun σ H Q ⟨ρ, τ, A, F0, F, Z, w, s, q⟩ =>
  ⟨ρ, τ, A, F0, F, Z, w, s, After.next q fun ds τ1 H1 Z1 w1 e1 q1 x rx => by
    obtain ⟨z, hz, q3⟩ := After.of q1
    exact hd w1.zh w1.fh rx hz (After.newQ q3 w1)⟩
theorem callBF_ok {r : RC} {f : List D → Option D} {mr : SA} (hd : CallF ⟨X.K, X.mg⟩ r f) : ∀ σ H Q, tF (jx X W) (eCallB f mr) σ H Q → tCB r (tA (jx X W) mr) σ H Q := fun σ H Q ⟨ρ, τ, A, F0, F, Z, w, s, q⟩ =>
  ⟨ρ, τ, A, F0, F, Z, w, s, AfterF.next q fun ds τ1 H1 Z1 w1 e1 q1 x rx => by
    obtain ⟨z, hz, q3⟩ := AfterF.of q1
    exact hd w1.zh w1.fh rx hz fun p o hp ho => AfterF.ok q3 w1 hp ho⟩
variable {es : List Expr} {mr : SA} {x : Str} {id T : String} {p : Pos}
theorem ev_callB {r : RC} {f : List D → Option D} (hc : CallR X (.builtin id) r) (hd : CallD ⟨X.K, X.mg⟩ r f) (hg : Gl X x) (hm : X.mg x = none) (hv : bootBuiltins x = some (.builtin id)) (ha : EA X W (e :: es) mr) (hn : x ≠ "__name__" := by decide) (hdb : (x == ("__debug__" : Str)) = false := by decide)
    (he : starEach (e :: es) X.env = (false, eval e X.env) :: starEach es X.env := by rfl) (hpl : (backTo pos (starEach es X.env)).any (·.1) = false := by rfl) : EV X W (.Call (.Name x p) (e :: es) [] pos) (eCallB f mr) := pe_weak (pe_callB hc hg hm hv ha hn hdb he hpl) (callB_ok hd)
theorem ef_callT {r : RC} {f : List D → Option D} (hc : CallR X (.type T) r) (hd : CallF ⟨X.K, X.mg⟩ r f) (hg : Gl X x) (hm : X.mg x = none) (hv : bootBuiltins x = some (.type T)) (ha : EA X W (e :: es) mr) (hn : x ≠ "__name__" := by decide) (hdb : (x == ("__debug__" : Str)) = false := by decide)
    (he : starEach (e :: es) X.env = (false, eval e X.env) :: starEach es X.env := by rfl) (hpl : (backTo pos (starEach es X.env)).any (·.1) = false := by rfl) : EF X W (.Call (.Name x p) (e :: es) [] pos) (eCallB f mr) := pe_weak (pe_callTy hc hg hm hv ha hn hdb he hpl) (callBF_ok hd)
theorem ev_ix {r : R2} {f : D → D → Option D} (hr : IxR X r) (hd : OpD ⟨X.K, X.mg⟩ r f) (ha : EB X W a ma) (hb : EB X W b mb) (hs : PlainIx b := by intro _ _; rfl) : EV X W (.Subscript a b pos) (eBin f ma mb) := pe_weak (pe_ix hr ha hb hs) (bin_ok hd)
end
end Hw
namespace Hw
open PySem PySem.Spec L2
variable [Tb]
inductive Fl where
  | nx (ρ : Rho) (τ : Tau) | ret (d : D) (τ : Tau) | brk (ρ : Rho) (τ : Tau) | cnt (ρ : Rho) (τ : Tau) | exc (e : Exc) (ρ : Rho) (τ : Tau) | bad
abbrev SS := Rho → Tau → Fl
def Out.andS {α : Type} (o : Out α) (ρ : Rho) (f : α → Tau → Fl) : Fl := match o with
  | .ok a τ => f a τ
  | .exc e τ => .exc e ρ τ
  | .bad => .bad
def sNext : SS := fun ρ τ => .nx ρ τ
def sBrk : SS := fun ρ τ => .brk ρ τ
def sCnt : SS := fun ρ τ => .cnt ρ τ
def sSeq (a b : SS) : SS := fun ρ τ => match a ρ τ with
  | .nx ρ1 τ1 => b ρ1 τ1
  | .ret d τ1 => .ret d τ1
  | .brk ρ1 τ1 => .brk ρ1 τ1
  | .cnt ρ1 τ1 => .cnt ρ1 τ1
  | .exc e ρ1 τ1 => .exc e ρ1 τ1
  | .bad => .bad
def sDrop (m : SE) : SS := fun ρ τ => (m ρ τ).andS ρ fun _ τ1 => .nx ρ τ1
def sRet (m : SE) : SS := fun ρ τ => (m ρ τ).andS ρ fun d τ1 => .ret d τ1
def sIf (t : ST) (a b : SS) : SS := fun ρ τ => (t ρ τ).andS ρ fun x τ1 => if x = true then a ρ τ1 else b ρ τ1
def sSet (i : Nat) (m : SE) : SS := fun ρ τ => (m ρ τ).andS ρ fun d τ1 => .nx (ρ.set i (.fz d)) τ1
def sSetF (i : Nat) (m : SE) : SS := fun ρ τ => (m ρ τ).andS ρ fun d τ1 => .nx (ρ.set i (.own d)) τ1
def frzR (i : Nat) (ρ : Rho) : Rho := match ρ[i]? with
  | some (.own d) => ρ.set i (.fz d)
  | _ => ρ
def sFrz (i : Nat) (m : SS) : SS := fun ρ τ => m (frzR i ρ) τ
def sRetOwn (i : Nat) : SS := fun ρ τ => match ρ[i]? with
  | some (.own d) => .ret d τ
  | _ => .bad
def AfterS (c : Jx) (r : Rk) (A : List Addr) (F0 Z : Hp) (D : Ends) (o : Fl) : Prop := match o with
  | .nx ρ τ => ∀ σ H' Z' F', Wd c.k A F' τ H' Z' → Sl c.k A F0 F' ρ σ Z' → Same Z Z' → D.nx σ H'
  | .brk ρ τ => ∀ σ H' Z' F', Wd c.k A F' τ H' Z' → Sl c.k A F0 F' ρ σ Z' → Same Z Z' → D.bk σ H'
  | .cnt ρ τ => ∀ σ H' Z' F', Wd c.k A F' τ H' Z' → Sl c.k A F0 F' ρ σ Z' → Same Z Z' → D.ct σ H'
  | .ret d τ => match r with
    | .o => ∀ H' Z' F' a o, Wd c.k A F' τ H' Z' → Same F0 F' → Same Z Z' → F' a = some o → F0 a = none → OwnO c.k Z' d o → D.rt (.ref a) H'
    | .v => ∀ H' Z' F' v, Wd c.k A F' τ H' Z' → Same F0 F' → Same Z Z' → Rep c.k Z' d v → D.rt v H'
    | .d => ∀ H' Z' F' fp v, Wd c.k A F' τ H' Z' → Same F0 F' → Same Z Z' → (∀ a ∈ fp, F0 a = none) → fp.Nodup → RepT c.k F' Z' fp d v → D.rt v H'
    | .g => ∀ H' Z' F' fp v, Wd c.k A F' τ H' Z' → Same F0 F' → Same Z Z' → (∀ a ∈ fp, F0 a = none) → fp.Nodup → GrpF c.k F' Z' fp d v → D.rt v H'
  | .exc e ρ τ => ∀ cls dx σ H' Z' F', Wd c.k A F' τ H' Z' → Sl c.k A F0 F' ρ σ Z' → Same Z Z' → RepX c.k F' Z' H' e cls dx → c.W cls dx σ H'
  | .bad => False
def tS (c : Jx) (r : Rk) (m : SS) : TS := fun D σ H => ∃ ρ τ A F0 F Z, Wd c.k A F τ H Z ∧ Sl c.k A F0 F ρ σ Z ∧ AfterS c r A F0 Z D (m ρ τ)
abbrev ES (X : Cx) (W : WX) (r : Rk) (s : Stmt) (m : SS) : Prop := PS X s (tS (jx X W) r m)
abbrev EL (X : Cx) (W : WX) (r : Rk) (s : List Stmt) (m : SS) : Prop := PSs X s (tS (jx X W) r m)
section
variable {c : Jx} {r : Rk} {A : List Addr} {F0 F Z Z' : Hp} {ρ : Rho} {σ : L2.St} {D D' : Ends}
theorem AfterS.mono {o : Fl} (e : Same Z Z') (h : AfterS c r A F0 Z D o) : AfterS c r A F0 Z' D o := by
  cases o with
  | nx ρ τ => exact fun s H1 Z1 F1 w l q => h s H1 Z1 F1 w l (e.trans q)
  | brk ρ τ => exact fun s H1 Z1 F1 w l q => h s H1 Z1 F1 w l (e.trans q)
  | cnt ρ τ => exact fun s H1 Z1 F1 w l q => h s H1 Z1 F1 w l (e.trans q)
  | exc x ρ τ => exact fun cl dx s H1 Z1 F1 w l q => h cl dx s H1 Z1 F1 w l (e.trans q)
  | bad => exact h
  | ret d τ =>
    cases r with
    | g =>
      have h : ∀ H' Z' F' fp v, Wd c.k A F' τ H' Z' → Same F0 F' → Same Z Z' → (∀ a ∈ fp, F0 a = none) → fp.Nodup → GrpF c.k F' Z' fp d v → D.rt v H' := h
      exact fun H1 Z1 F1 fp v w l q => h H1 Z1 F1 fp v w l (e.trans q)
    | d =>
      have h : ∀ H' Z' F' fp v, Wd c.k A F' τ H' Z' → Same F0 F' → Same Z Z' → (∀ a ∈ fp, F0 a = none) → fp.Nodup → RepT c.k F' Z' fp d v → D.rt v H' := h
      exact fun H1 Z1 F1 fp v w l q => h H1 Z1 F1 fp v w l (e.trans q)
    | o =>
      have h : ∀ H' Z' F' a o, Wd c.k A F' τ H' Z' → Same F0 F' → Same Z Z' → F' a = some o → F0 a = none → OwnO c.k Z' d o → D.rt (.ref a) H' := h
      exact fun H1 Z1 F1 a o w l q => h H1 Z1 F1 a o w l (e.trans q)
    | v =>
      have h : ∀ H' Z' F' v, Wd c.k A F' τ H' Z' → Same F0 F' → Same Z Z' → Rep c.k Z' d v → D.rt v H' := h
      exact fun H1 Z1 F1 a w l q => h H1 Z1 F1 a w l (e.trans q)
theorem After.andS {α : Type} {o : Out α} {f : α → Tau → Fl} {K : α → Tau → Hp → Hp → Prop} (h : AfterS c r A F0 Z D (o.andS ρ f))
    (hK : ∀ a τ H1 Z1, Wd c.k A F τ H1 Z1 → Same Z Z1 → AfterS c r A F0 Z1 D (f a τ) → K a τ H1 Z1) : After c A F0 F ρ σ Z o K := by
  cases o with
  | ok a τ => exact fun H1 Z1 w e => hK a τ H1 Z1 w e (AfterS.mono e h)
  | exc x τ => exact fun cls dx H1 Z1 w e rx sl => h cls dx σ H1 Z1 F w sl e rx
  | bad => exact h
theorem AfterF.andS {o : Out Hw.D} {f : Hw.D → Tau → Fl} {Q : VK} (h : AfterS c r A F0 Z D (o.andS ρ f))
    (hK : ∀ d τ H1 Z1 a u, F a = none → a ∉ A → Wd c.k A (upd F a u) τ H1 Z1 → Same Z Z1 → OwnO c.k Z1 d u → AfterS c r A F0 Z1 D (f d τ) → Q (.ref a) H1) : AfterF c A F0 F ρ σ Z o Q := by
  cases o with
  | ok d τ => exact fun H1 Z1 a u fa na w e ho => hK d τ H1 Z1 a u fa na w e ho (AfterS.mono e h)
  | exc x τ => exact fun cls dx H1 Z1 w e rx sl => h cls dx σ H1 Z1 F w sl e rx
  | bad => exact h
theorem AfterS.next {ρ1 : Rho} {τ1 : Tau} {H1 : Hp} (h : AfterS c r A F0 Z D (.nx ρ1 τ1)) (w : Wd c.k A F τ1 H1 Z) (s : Sl c.k A F0 F ρ1 σ Z) : D.nx σ H1 := h σ H1 Z F w s (Same.refl Z)
theorem Sl.setFz {d : Hw.D} {v : V} {i : Nat} {k : Kx} (s : Sl k A F0 F ρ σ Z) (rv : Rep k Z d v) : Sl k A F0 F (ρ.set i (.fz d)) (σ.set i (some v)) Z := by
  refine ⟨by rw [List.length_set, List.length_set]; exact s.len, fun j e h => ?_, fun j e h => ?_, fun j l h => ?_, fun j l e f a h1 h2 h3 h4 => ?_, s.f0, fun j l n h => ?_, fun j l n l2 e a h1 h2 h3 h4 => ?_⟩
  · by_cases hj : i = j
    · subst hj
      by_cases hl : i < ρ.length
      · rw [List.getElem?_set_self hl] at h
        cases h
        exact ⟨v, List.getElem?_set_self (by rw [← s.len]; exact hl), rv⟩
      · rw [List.getElem?_eq_none (by rw [List.length_set]; omega)] at h
        cases h
    · rw [List.getElem?_set_ne hj] at h ⊢
      exact s.fz j e h
  · by_cases hj : i = j
    · subst hj
      by_cases hl : i < ρ.length
      · rw [List.getElem?_set_self hl] at h; cases h
      · rw [List.getElem?_eq_none (by rw [List.length_set]; omega)] at h
        cases h
    · rw [List.getElem?_set_ne hj] at h ⊢
      exact s.own j e h
  · by_cases hj : i = j
    · subst hj
      by_cases hl : i < ρ.length
      · rw [List.getElem?_set_self hl] at h; cases h
      · rw [List.getElem?_eq_none (by rw [List.length_set]; omega)] at h
        cases h
    · rw [List.getElem?_set_ne hj] at h ⊢
      exact s.io j l h
  · have n1 : i ≠ j := fun z => by
      subst z
      by_cases hl : i < ρ.length
      · rw [List.getElem?_set_self hl] at h1; cases h1
      · rw [List.getElem?_eq_none (by rw [List.length_set]; omega)] at h1
        cases h1
    have n2 : i ≠ l := fun z => by
      subst z
      by_cases hl : i < ρ.length
      · rw [List.getElem?_set_self hl] at h2; cases h2
      · rw [List.getElem?_eq_none (by rw [List.length_set]; omega)] at h2
        cases h2
    rw [List.getElem?_set_ne n1] at h1 h3
    rw [List.getElem?_set_ne n2] at h2 h4
    exact s.ap j l e f a h1 h2 h3 h4
  · by_cases hj : i = j
    · subst hj
      by_cases hl : i < ρ.length
      · rw [List.getElem?_set_self hl] at h; cases h
      · rw [List.getElem?_eq_none (by rw [List.length_set]; omega)] at h
        cases h
    · rw [List.getElem?_set_ne hj] at h ⊢
      exact s.rws j l n h
  · have n1 : i ≠ j := fun z => by
      subst z
      by_cases hl : i < ρ.length
      · rw [List.getElem?_set_self hl] at h1; cases h1
      · rw [List.getElem?_eq_none (by rw [List.length_set]; omega)] at h1
        cases h1
    have n2 : i ≠ l2 := fun z => by
      subst z
      by_cases hl : i < ρ.length
      · rw [List.getElem?_set_self hl] at h2; cases h2
      · rw [List.getElem?_eq_none (by rw [List.length_set]; omega)] at h2
        cases h2
    rw [List.getElem?_set_ne n1] at h1 h3
    rw [List.getElem?_set_ne n2] at h2 h4
    exact s.apr j l n l2 e a h1 h2 h3 h4
theorem Sl.setOwn {d : Hw.D} {a : Addr} {u : HO} {i : Nat} {k : Kx} (s : Sl k A F0 F ρ σ Z) (fa : F a = none) (ho : OwnO k Z d u) : Sl k A F0 (upd F a u) (ρ.set i (.own d)) (σ.set i (some (V.ref a))) Z := by
  have nea : ∀ {b o}, F b = some o → b ≠ a := fun {b o} h => ne_of_none h fa
  refine ⟨by rw [List.length_set, List.length_set]; exact s.len, fun j e h => ?_, fun j e h => ?_, fun j l h => ?_, fun j l e f b h1 h2 h3 h4 => ?_, fun b o h => ?_, fun j l n h => ?_, fun j l n l2 e b h1 h2 h3 h4 => ?_⟩
  · by_cases hj : i = j
    · subst hj
      by_cases hl : i < ρ.length
      · rw [List.getElem?_set_self hl] at h; cases h
      · rw [List.getElem?_eq_none (by rw [List.length_set]; omega)] at h
        cases h
    · rw [List.getElem?_set_ne hj] at h ⊢
      exact s.fz j e h
  · by_cases hj : i = j
    · subst hj
      by_cases hl : i < ρ.length
      · rw [List.getElem?_set_self hl] at h
        cases h
        refine ⟨a, u, List.getElem?_set_self (by rw [← s.len]; exact hl), upd_same, ?_, ho⟩
        exact none_of_same s.f0 fa
      · rw [List.getElem?_eq_none (by rw [List.length_set]; omega)] at h
        cases h
    · rw [List.getElem?_set_ne hj] at h ⊢
      obtain ⟨b, o, h1, h2, h3, h4⟩ := s.own j e h
      exact ⟨b, o, h1, by rw [upd_ne (nea h2)]; exact h2, h3, h4⟩
  · by_cases hj : i = j
    · subst hj
      by_cases hl : i < ρ.length
      · rw [List.getElem?_set_self hl] at h; cases h
      · rw [List.getElem?_eq_none (by rw [List.length_set]; omega)] at h
        cases h
    · rw [List.getElem?_set_ne hj] at h ⊢
      exact s.io j l h
  · have key : ∀ (j : Nat) (e : Hw.D), i ≠ j → (ρ.set i (.own d))[j]? = some (.own e) → (σ.set i (some (V.ref a)))[j]? = some (some (V.ref b)) → b ≠ a := fun j e hj h g => by
      rw [List.getElem?_set_ne hj] at h g
      obtain ⟨b', o, h1, h2, h3, h4⟩ := s.own j e h
      rw [h1] at g
      cases g
      exact nea h2
    have self : ∀ (j : Nat) (e : Hw.D), i = j → (ρ.set i (.own d))[j]? = some (.own e) → (σ.set i (some (V.ref a)))[j]? = some (some (V.ref b)) → b = a := fun j e hj h g => by
      subst hj
      have hl : i < ρ.length := by
        have := (List.getElem?_eq_some_iff.mp h).1
        rw [List.length_set] at this
        exact this
      rw [List.getElem?_set_self (by rw [← s.len]; exact hl)] at g
      cases g
      rfl
    by_cases hj : i = j
    · by_cases hl : i = l
      · exact hj.symm.trans hl
      · exact absurd (self j e hj h1 h3) (key l f hl h2 h4)
    · by_cases hl : i = l
      · exact absurd (self l f hl h2 h4) (key j e hj h1 h3)
      · rw [List.getElem?_set_ne hj] at h1 h3
        rw [List.getElem?_set_ne hl] at h2 h4
        exact s.ap j l e f b h1 h2 h3 h4
  · rw [upd_ne (nea (s.f0 b o h))]
    exact s.f0 b o h
  · by_cases hj : i = j
    · subst hj
      by_cases hl : i < ρ.length
      · rw [List.getElem?_set_self hl] at h; cases h
      · rw [List.getElem?_eq_none (by rw [List.length_set]; omega)] at h
        cases h
    · rw [List.getElem?_set_ne hj] at h ⊢
      obtain ⟨b, g1, g2, g3, g4⟩ := s.rws j l n h
      exact ⟨b, g1, g2, by rw [upd_ne (nea g3)]; exact g3, g4⟩
  · have n1 : i ≠ j := fun z => by
      subst z
      by_cases hl : i < ρ.length
      · rw [List.getElem?_set_self hl] at h1; cases h1
      · rw [List.getElem?_eq_none (by rw [List.length_set]; omega)] at h1
        cases h1
    rw [List.getElem?_set_ne n1] at h1 h3
    by_cases hl2 : i = l2
    · subst hl2
      have hl : i < ρ.length := by
        have := (List.getElem?_eq_some_iff.mp h2).1
        rw [List.length_set] at this
        exact this
      rw [List.getElem?_set_self (by rw [← s.len]; exact hl)] at h4
      cases h4
      obtain ⟨b, g1, g2, g3, g4⟩ := s.rws j l n h1
      rw [h3] at g1
      cases g1
      rw [fa] at g3
      cases g3
    · rw [List.getElem?_set_ne hl2] at h2 h4
      exact s.apr j l n l2 e b h1 h2 h3 h4
theorem Sl.forget {k : Kx} (s : Sl k A F0 F ρ σ Z) {ρ' : Rho} {σ' : L2.St} (l1 : ρ'.length = σ'.length) (h : ∀ (i : Nat) (x : Sv), ρ'[i]? = some x → x = .no ∨ (ρ[i]? = some x ∧ σ'[i]? = σ[i]?)) : Sl k A F0 F ρ' σ' Z := by
  refine ⟨l1, fun i d e => ?_, fun i d e => ?_, fun i j e => ?_, fun i j d e a h1 h2 h3 h4 => ?_, s.f0, fun i j n e => ?_, fun i j n l d a h1 h2 h3 h4 => ?_⟩
  · rcases h i _ e with z | ⟨z1, z2⟩
    · cases z
    · rw [z2]; exact s.fz i d z1
  · rcases h i _ e with z | ⟨z1, z2⟩
    · cases z
    · rw [z2]; exact s.own i d z1
  · rcases h i _ e with z | ⟨z1, z2⟩
    · cases z
    · rw [z2]; exact s.io i j z1
  · rcases h i _ h1 with z | ⟨z1, z2⟩
    · cases z
    · rcases h j _ h2 with z' | ⟨z3, z4⟩
      · cases z'
      · rw [z2] at h3
        rw [z4] at h4
        exact s.ap i j d e a z1 z3 h3 h4
  · rcases h i _ e with z | ⟨z1, z2⟩
    · cases z
    · rw [z2]; exact s.rws i j n z1
  · rcases h i _ h1 with z | ⟨z1, z2⟩
    · cases z
    · rcases h l _ h2 with z' | ⟨z3, z4⟩
      · cases z'
      · rw [z2] at h3
        rw [z4] at h4
        exact s.apr i j n l d a z1 z3 h3 h4
theorem Wd.sub {k : Kx} {τ : Tau} {H : Hp} (w : Wd k A F τ H Z) (e : Same F0 F) : Wd k A F0 τ H Z :=
  ⟨w.zh, e.trans w.fh, fun a => (w.zf a).imp (fun z => none_of_same e z) id, w.len, w.io, fun a ha => ⟨(w.out a ha).1, none_of_same e (w.out a ha).2⟩, w.nd, w.tabs, fun a o h => w.pl a o (h.imp id (e a o)), nt_sub e w.nt, w.gr.move (Same.refl Z) (fun _ _ _ h => h) (fun b o z f na hb pb => ⟨z, none_of_same e f, hb⟩)⟩
end
section
variable {X : Cx} {W : WX} {r : Rk} {st : Stmt} {rest : List Stmt} {m n : SS} {me : SE} {pos : Pos} {e : Expr}
theorem ps_weak {t t' : TS} (h : PS X st t) (hi : ∀ D σ H, t' D σ H → t D σ H) : PS X st t' := ⟨fun pins s σ H D I q => h.run pins s σ H D I (hi D σ H q)⟩
theorem pss_weak {sts : List Stmt} {t t' : TS} (h : PSs X sts t) (hi : ∀ D σ H, t' D σ H → t D σ H) : PSs X sts t' := ⟨fun pins s σ H D I q => h.run pins s σ H D I (hi D σ H q)⟩
theorem el_nil : EL X W r [] sNext := pss_weak pss_nil fun D σ H ⟨ρ, τ, A, F0, F, Z, w, s, q⟩ => AfterS.next q w s
theorem seq_ok : ∀ D σ H, tS (jx X W) r (sSeq m n) D σ H → tSeq (tS (jx X W) r m) (tS (jx X W) r n) D σ H := fun D σ H ⟨ρ, τ, A, F0, F, Z, w, s, q⟩ => by
  refine ⟨ρ, τ, A, F0, F, Z, w, s, ?_⟩
  unfold sSeq at q
  cases hm : m ρ τ with
  | nx ρ1 τ1 =>
    rw [hm] at q
    exact fun σ1 H1 Z1 F1 w1 s1 e => ⟨ρ1, τ1, A, F0, F1, Z1, w1, s1, AfterS.mono e q⟩
  | ret d τ1 => rw [hm] at q; exact q
  | brk ρ1 τ1 => rw [hm] at q; exact q
  | cnt ρ1 τ1 => rw [hm] at q; exact q
  | exc x ρ1 τ1 => rw [hm] at q; exact q
  | bad => rw [hm] at q; exact q
theorem el_cons (h1 : ES X W r st m) (h2 : EL X W r rest n) : EL X W r (st :: rest) (sSeq m n) := pss_weak (pss_cons h1 h2) seq_ok
theorem el_one (h1 : ES X W r st m) : EL X W r [st] m := pss_one h1
theorem es_ret (h : EV X W e me) : ES X W false (.Return (some e) pos) (sRet me) := ps_weak (ps_ret h) fun D σ H ⟨ρ, τ, A, F0, F, Z, w, s, q⟩ =>
  ⟨ρ, τ, A, F0, F, Z, w, s, After.andS q fun d τ1 H1 Z1 w1 e1 q1 v rv => q1 H1 Z1 F v w1 s.f0 (Same.refl Z1) rv⟩
theorem es_retF (h : EF X W e me) : ES X W true (.Return (some e) pos) (sRet me) := ps_weak (ps_ret h) fun D σ H ⟨ρ, τ, A, F0, F, Z, w, s, q⟩ =>
  ⟨ρ, τ, A, F0, F, Z, w, s, AfterF.andS q fun d τ1 H1 Z1 a u fa na w1 e1 ho q1 => by
    have f1 : Same F (upd F a u) := same_new fa
    exact q1 H1 Z1 _ a u w1 (s.f0.trans f1) (Same.refl Z1) upd_same (none_of_same s.f0 fa) ho⟩
theorem es_retOwn (i : Nat) {x : Str} {p2 : Pos} (hN : X.N[i]? = some x := by rfl) (hv : Vis X.env.scope x := by first | exact Or.inl rfl | exact Or.inr (Or.inl rfl) | exact Or.inr (Or.inr rfl)) (hd : (x == ("__debug__" : Str)) = false := by decide)
    (hcd : (x == ("__classdict__" : Str)) = false := by decide) : ES X W true (.Return (some (.Name x p2)) pos) (sRetOwn i) := ps_weak (ps_ret (pe_var hN hv hd hcd)) fun D σ H ⟨ρ, τ, A, F0, F, Z, w, s, q⟩ => by
  unfold sRetOwn at q
  split at q
  · rename_i d hd
    obtain ⟨a, o, h1, h2, h3, h4⟩ := s.own i d hd
    exact ⟨.ref a, h1, q H Z F a o w s.f0 (Same.refl Z) h2 h3 h4⟩
  · exact q.elim
theorem es_if {t : ST} {c : Expr} {a b : List Stmt} (hc : ET X W c t) (ha : EL X W r a m) (hb : EL X W r b n) : ES X W r (.If c a b pos) (sIf t m n) := ps_weak (ps_if hc ha hb) fun D σ H ⟨ρ, τ, A, F0, F, Z, w, s, q⟩ =>
  ⟨ρ, τ, A, F0, F, Z, w, s, After.andS q fun d τ1 H1 Z1 w1 e1 q1 => by
    cases d with
    | true => exact ⟨ρ, τ1, A, F0, F, Z1, w1, s.mono e1, q1⟩
    | false => exact ⟨ρ, τ1, A, F0, F, Z1, w1, s.mono e1, q1⟩⟩
theorem set_ok {i : Nat} : ∀ D σ H, tS (jx X W) r (sSet i me) D σ H → tAsg (tE (jx X W) me) (gName i) D σ H := fun D σ H ⟨ρ, τ, A, F0, F, Z, w, s, q⟩ =>
  ⟨ρ, τ, A, F0, F, Z, w, s, After.andS q fun d τ1 H1 Z1 w1 e1 q1 v rv => AfterS.next q1 w1 ((s.mono e1).setFz rv)⟩
theorem setF_ok {i : Nat} : ∀ D σ H, tS (jx X W) r (sSetF i me) D σ H → tAsg (tF (jx X W) me) (gName i) D σ H := fun D σ H ⟨ρ, τ, A, F0, F, Z, w, s, q⟩ =>
  ⟨ρ, τ, A, F0, F, Z, w, s, AfterF.andS q fun d τ1 H1 Z1 a u fa na w1 e1 ho q1 => AfterS.next q1 w1 ((s.mono e1).setOwn fa ho)⟩
theorem es_set (i : Nat) {x : Str} {p2 : Pos} (he : EV X W e me) (hN : X.N.Nodup := by assumption) (hi : X.N[i]? = some x := by rfl) (hx : Loc X.env.scope x := by first | exact Or.inl rfl | exact Or.inr rfl) (hs : swapsWith e (some (.Name x p2)) pos.line X.env = pure false := by rfl)
    (hf : X.fn x = true ∨ X.env.scope.names.lookup x = some .local := by first | exact .inl rfl | exact .inr rfl | assumption) : ES X W r (.Assign [.Name x p2] e pos) (sSet i me) := ps_weak (ps_set hN hi hx he hs hf) set_ok
theorem es_setF (i : Nat) {x : Str} {p2 : Pos} (he : EF X W e me) (hN : X.N.Nodup := by assumption) (hi : X.N[i]? = some x := by rfl) (hx : Loc X.env.scope x := by first | exact Or.inl rfl | exact Or.inr rfl) (hs : swapsWith e (some (.Name x p2)) pos.line X.env = pure false := by rfl)
    (hf : X.fn x = true ∨ X.env.scope.names.lookup x = some .local := by first | exact .inl rfl | exact .inr rfl | assumption) : ES X W r (.Assign [.Name x p2] e pos) (sSetF i me) := ps_weak (ps_set hN hi hx he hs hf) setF_ok
end
end Hw
namespace Hw
open PySem PySem.Spec L2
variable [Tb]
abbrev SG := D → Rho → Option Rho
abbrev SGs := List D → Rho → Option Rho
def gN (i : Nat) : SG := fun d ρ => some (ρ.set i (.fz d))
def gsNil : SGs := fun ds ρ => match ds with
  | [] => some ρ
  | _ => none
def gsCons (g : SG) (r : SGs) : SGs := fun ds ρ => match ds with
  | [] => none
  | d :: ds => match g d ρ with
    | some ρ1 => r ds ρ1
    | none => none
def gT (g : SGs) : SG := fun d ρ => match d with
  | .tup ds => g ds ρ
  | .lst ds => g ds ρ
  | _ => none
def tG (k : Kx) (is : List Nat) (g : SG) : TG := fun v σ H Q => ∃ ρ τ A F0 F Z d ρ', Wd k A F τ H Z ∧ Sl k A F0 F ρ σ Z ∧ Rep k Z d v ∧ g d ρ = some ρ' ∧ ∀ σ', Sl k A F0 F ρ' σ' Z → σ'.length = σ.length → (∀ i, i ∉ is → σ'[i]? = σ[i]?) → Q σ' H
abbrev EG (X : Cx) (is : List Nat) (t : Expr) (g : SG) : Prop := PG X t (tG ⟨X.K, X.mg⟩ is g)
section
variable {X : Cx} {is : List Nat} {pos : Pos} {g : SG} {gs : SGs} {e : Expr} {es : List Expr}
theorem pg_weak {t t' : TG} (h : PG X e t) (hi : ∀ v σ H Q, t' v σ H Q → t v σ H Q) : PG X e t' := ⟨fun pins s σ H v u Q I r q => h.run pins s σ H v u Q I r (hi v σ H Q q)⟩
theorem eg_n (i : Nat) {x : Str} (hN : X.N.Nodup := by assumption) (hi : X.N[i]? = some x := by rfl) (hx : Loc X.env.scope x := by first | exact Or.inl rfl | exact Or.inr rfl) (hf : X.fn x = true ∨ X.env.scope.names.lookup x = some .local := by first | exact .inl rfl | exact .inr rfl | assumption) (hm : i ∈ is := by decide) : EG X is (.Name x pos) (gN i) :=
  pg_weak (pg_name hN hi hx hf) fun v σ H Q ⟨ρ, τ, A, F0, F, Z, d, ρ', w, s, rv, hg, q⟩ => by
    cases hg
    exact q _ (s.setFz rv) (List.length_set ..) fun j hj => List.getElem?_set_ne (fun z => hj (by rw [← z]; exact hm))
end
def sTgt (g : SG) (m : SE) : SS := fun ρ τ => (m ρ τ).andS ρ fun d τ1 => match g d ρ with
  | some ρ1 => .nx ρ1 τ1
  | none => .bad
abbrev SI := Rho → Tau → Out (List D)
structure ItOk (k : Kx) (F Z : Hp) (J : It) (ds : List D) : Prop where
  go : ∀ (i : Nat) (H : Hp), Same Z H → Same F H → i < ds.length → J.go i H
  yld : ∀ (i : Nat) (H H' : Hp) (x : V) (d : D), Same Z H → Same F H → ds[i]? = some d → J.yld i H x H' → (H' = H ∧ Rep k Z d x) ∨ ∃ p o, isPl o = true ∧ H p = none ∧ H' = upd H p o ∧ Rep k (upd Z p o) d x
  stop : ∀ (i : Nat) (H : Hp), Same Z H → Same F H → ds.length ≤ i → J.stop i H
theorem ItOk.mono {k : Kx} {F Z F' Z' : Hp} {J : It} {ds : List D} (h : ItOk k F Z J ds) (eF : Same F F') (eZ : Same Z Z') : ItOk k F' Z' J ds where
  go := fun i H a b => h.go i H (eZ.trans a) (eF.trans b)
  stop := fun i H a b => h.stop i H (eZ.trans a) (eF.trans b)
  yld := fun i H H' x d a b e y => by
    rcases h.yld i H H' x d (eZ.trans a) (eF.trans b) e y with ⟨e1, r⟩ | ⟨p, o, pl, hp, e1, r⟩
    · exact .inl ⟨e1, r.mono eZ⟩
    · refine .inr ⟨p, o, pl, hp, e1, r.mono fun b u hb => ?_⟩
      by_cases h : b = p
      · subst h; rw [upd_same] at hb ⊢; exact hb
      · rw [upd_ne h] at hb ⊢; exact eZ b u hb
def nopH : Hp := fun _ => none
def tIV (c : Jx) (m : SI) : TI := fun σ H R => ∃ ρ τ A F0 F Z, Wd c.k A F τ H Z ∧ Sl c.k A F0 F ρ σ Z ∧ After c A F0 F ρ σ Z (m ρ τ) fun ds _ H' Z' => ∀ J, ItOk c.k nopH Z' J ds → R J H'
def tIB (c : Jx) (m : SI) : TI := fun σ H R => ∃ ρ τ A F0 F Z, Wd c.k A F τ H Z ∧ Sl c.k A F0 F ρ σ Z ∧ After c A F0 F ρ σ Z (m ρ τ) fun ds _ H' Z' => ∀ J, ItOk c.k F Z' J ds → R J H'
abbrev EIV (X : Cx) (W : WX) (tg it : Expr) (m : SI) : Prop := PI X tg it (tIV (jx X W) m)
abbrev EIB (X : Cx) (W : WX) (tg it : Expr) (m : SI) : Prop := PI X tg it (tIB (jx X W) m)
def iLst (m : SE) : SI := fun ρ τ => (m ρ τ).bind fun d τ1 => match d with
  | .lst ds => .ok ds τ1
  | _ => .bad
def iSeq (m : SE) : SI := fun ρ τ => (m ρ τ).bind fun d τ1 => match d with
  | .lst ds => .ok ds τ1
  | .tup ds => .ok ds τ1
  | _ => .bad
section
variable {X : Cx} {W : WX} {tg e : Expr} {m : SE} {mi : SI} {pos p : Pos}
theorem pi_weak {t t' : TI} (h : PI X tg e t) (hi : ∀ σ H R, t' σ H R → t σ H R) : PI X tg e t' := ⟨fun pins s σ H R I q => h.run pins s σ H R I (hi σ H R q)⟩
theorem eiv_b (h : EIV X W tg e mi) : EIB X W tg e mi := pi_weak h fun σ H R ⟨ρ, τ, A, F0, F, Z, w, s, q⟩ => ⟨ρ, τ, A, F0, F, Z, w, s, After.mono (Same.refl Z) (fun ds τ1 H1 Z1 q J hJ => q J (hJ.mono (fun _ _ z => nomatch z) (Same.refl Z1))) q⟩
theorem it_list {k : Kx} {F Z : Hp} {a : Addr} {vs : List V} {ds : List D} (h : ∀ H, Same Z H → Same F H → SqL k.K H a vs) (r : Reps k Z ds vs) : ItOk k F Z (Itl k.K a) ds where
  go := fun i H e f hi => ⟨vs, vs[i]'(by rw [← r.length]; exact hi), h H e f, List.getElem?_eq_getElem _⟩
  stop := fun i H e f hi => ⟨vs, h H e f, by rw [← r.length]; exact hi⟩
  yld := fun i H H' x d e f hd y => by
    obtain ⟨rfl, hx⟩ := y
    obtain ⟨v, h1, h2⟩ := r.get hd
    have := hx vs (h _ e f)
    rw [h1] at this
    cases this
    exact .inl ⟨rfl, h2⟩
theorem it_tuple {k : Kx} {F Z : Hp} {a : Addr} {vs : List V} {ds : List D} (h : SqT k.K Z a vs) (r : Reps k Z ds vs) : ItOk k F Z (Itt k.K a) ds where
  go := fun i H e f hi => ⟨vs, vs[i]'(by rw [← r.length]; exact hi), same_sqT e h, List.getElem?_eq_getElem _⟩
  stop := fun i H e f hi => ⟨vs, same_sqT e h, by rw [← r.length]; exact hi⟩
  yld := fun i H H' x d e f hd y => by
    obtain ⟨rfl, hx⟩ := y
    obtain ⟨v, h1, h2⟩ := r.get hd
    have := hx vs (same_sqT e h)
    rw [h1] at this
    cases this
    exact .inl ⟨rfl, h2⟩
theorem eiv_seq (h : EV X W e m) : EIV X W tg e (iSeq m) := by
  have p1 := pi_list (tg := tg) h
  have p2 := pi_tup (tg := tg) h
  refine ⟨fun pins s0 σ H R I q => ?_⟩
  obtain ⟨ρ, τ, A, F0, F, Z, w, s, q⟩ := q
  -- the kind of the value is known ahead
  cases hm : m ρ τ with
  | bad => unfold iSeq at q; rw [hm] at q; exact q.elim
  | exc x τ1 =>
    refine p1.run pins s0 σ H R I ⟨ρ, τ, A, F0, F, Z, w, s, ?_⟩
    unfold iSeq at q
    rw [hm] at q ⊢
    exact q
  | ok d τ1 =>
    unfold iSeq at q
    rw [hm] at q
    cases d with
    | lst ds =>
      refine p1.run pins s0 σ H R I ⟨ρ, τ, A, F0, F, Z, w, s, ?_⟩
      rw [hm]
      intro H1 Z1 w1 e1 v rv
      obtain ⟨a, vs, h1, h2, h3⟩ := rep_lst.mp rv
      exact ⟨a, h1, ⟨vs, SqL.of (w1.zh _ _ h2)⟩, q H1 Z1 w1 e1 _ (it_list (fun H e _ => SqL.of (e _ _ h2)) h3)⟩
    | tup ds =>
      refine p2.run pins s0 σ H R I ⟨ρ, τ, A, F0, F, Z, w, s, ?_⟩
      rw [hm]
      intro H1 Z1 w1 e1 v rv
      obtain ⟨a, vs, h1, h2, h3⟩ := rep_tup.mp rv
      exact ⟨a, h1, ⟨vs, SqT.of (w1.zh _ _ h2)⟩, q H1 Z1 w1 e1 _ (it_tuple (SqT.of h2) h3)⟩
    | _ => exact q.elim
end
def iRng1 (m : SA) : SI := fun ρ τ => (m ρ τ).bind fun ds τ1 => match ds with
  | [.int j] => if -(2 ^ 62) ≤ j ∧ j < 2 ^ 62 then .ok ((List.range j.toNat).map fun (n : Nat) => .int n) τ1 else .bad
  | _ => .bad
def iRng2 (m : SA) : SI := fun ρ τ => (m ρ τ).bind fun ds τ1 => match ds with
  | [.int i, .int j] => if -(2 ^ 62) ≤ i ∧ i < 2 ^ 62 ∧ -(2 ^ 62) ≤ j ∧ j < 2 ^ 62 then .ok ((List.range (j - i).toNat).map fun (n : Nat) => .int (i + n)) τ1 else .bad
  | _ => .bad
section
variable {X : Cx} {W : WX} {tg a b : Expr} {m : SA} {pos p : Pos}
theorem it_range {k : Kx} {F Z : Hp} {lo : Int} {n : Nat} {ds : List D} (hd : ds = (List.range n).map fun (j : Nat) => .int (lo + j)) : ItOk k F Z (Itr lo n) ds where
  go := fun i H _ _ hi => by
    rw [hd, List.length_map, List.length_range] at hi
    exact hi
  stop := fun i H _ _ hi => by
    rw [hd, List.length_map, List.length_range] at hi
    exact hi
  yld := fun i H H' x d _ _ hx y => by
    obtain ⟨rfl, rfl⟩ := y
    rw [hd, List.getElem?_map] at hx
    obtain ⟨j, h1, h2⟩ := Option.map_eq_some_iff.mp hx
    rw [List.getElem?_range (by
      by_cases h : i < n
      · exact h
      · rw [List.getElem?_eq_none (by rw [List.length_range]; omega)] at h1; cases h1)] at h1
    cases h1
    subst h2
    exact .inl ⟨rfl, rep_int.mpr rfl⟩
theorem repBs1 {k : Kx} {F Z : Hp} {d : D} {vs : List V} (h : RepBs k F Z [d] vs) : ∃ v, vs = [v] ∧ RepB k F Z d v := by
  obtain ⟨v, r, rfl, h1, h2⟩ := h
  cases h2
  exact ⟨v, rfl, h1⟩
theorem eiv_rng1 (hg : Gl X "range") (hm : X.mg "range" = none) (ha : EA X W [a] m) (hs : starEach [a] X.env = [(false, eval a X.env)] := by rfl) : EIV X W tg (.Call (.Name "range" p) [a] [] pos) (iRng1 m) :=
  pi_weak (pi_range1 hg hm ha hs) fun σ H R ⟨ρ, τ, A, F0, F, Z, w, s, q⟩ => ⟨ρ, τ, A, F0, F, Z, w, s, After.next q fun ds τ1 H1 Z1 w1 e1 q1 vs rv => by
    split at q1
    · rename_i j
      split at q1
      · rename_i hj
        obtain ⟨v, rfl, r1⟩ := repBs1 rv
        exact ⟨j, by rw [r1.int], hj.1, hj.2, After.ok q1 w1 _ (it_range (by simp))⟩
      · exact q1.elim
    · exact q1.elim⟩
end
def forL (g : SG) (body : SS) : List D → Rho → Tau → Fl
  | [], ρ, τ => .nx ρ τ
  | d :: ds, ρ, τ => match g d ρ with
    | none => .bad
    | some ρ1 => match body ρ1 τ with
      | .nx ρ2 τ2 => forL g body ds ρ2 τ2
      | .cnt ρ2 τ2 => forL g body ds ρ2 τ2
      | .brk ρ2 τ2 => .nx ρ2 τ2
      | .ret d τ2 => .ret d τ2
      | .exc e ρ2 τ2 => .exc e ρ2 τ2
      | .bad => .bad
def sFor (mi : SI) (g : SG) (body : SS) : SS := fun ρ τ => (mi ρ τ).andS ρ fun ds τ1 => forL g body ds ρ τ1
section
variable {X : Cx} {W : WX} {r : Rk} {tg it : Expr} {mi : SI} {g : SG} {is : List Nat} {body : List Stmt} {mb : SS} {pos : Pos}
theorem for_ok : ∀ D σ H, tS (jx X W) r (sFor mi g mb) D σ H → tFor (tIV (jx X W) mi) (tG ⟨X.K, X.mg⟩ is g) (tS (jx X W) r mb) D σ H := fun D σ H ⟨ρ, τ, A, F0, F, Z, w, s, q⟩ => by
  refine ⟨ρ, τ, A, F0, F, Z, w, s, After.andS q fun ds τ1 H1 Z1 w1 e1 q1 J hJ => ?_⟩
  refine ⟨fun i m σ' H' => i + m = ds.length ∧ ∃ ρ' τ' F' Z', Wd (jx X W).k A F' τ' H' Z' ∧ Sl (jx X W).k A F0 F' ρ' σ' Z' ∧ Same Z1 Z' ∧ AfterS (jx X W) r A F0 Z' D (forL g mb (ds.drop i) ρ' τ'),
    ⟨ds.length, by omega, ρ, τ1, F, Z1, w1, s.mono e1, Same.refl Z1, q1⟩, fun i m σ' H' ⟨hm, ρ', τ', F', Z', w', s', e', q'⟩ => ?_⟩
  have hJ' : ItOk (jx X W).k nopH Z' J ds := hJ.mono (Same.refl _) e'
  have nf : ∀ {H : Hp}, Same nopH H := fun {H} b o z => nomatch z
  by_cases hi : i < ds.length
  · refine .inr ⟨hJ'.go i H' w'.zh nf hi, fun σ2 H2 => ∃ ρ' τ' F' Z', Wd (jx X W).k A F' τ' H2 Z' ∧ Sl (jx X W).k A F0 F' ρ' σ2 Z' ∧ Same Z1 Z' ∧ AfterS (jx X W) r A F0 Z' D (forL g mb (ds.drop (i + 1)) ρ' τ'),
      fun σ2 H2 z => ⟨m - 1, by omega, by omega, z⟩, fun x H2 hy => ?_⟩
    have hd : ds.drop i = ds[i] :: ds.drop (i + 1) := List.drop_eq_getElem_cons hi
    have q2 : AfterS (jx X W) r A F0 Z' D (forL g mb (ds[i] :: ds.drop (i + 1)) ρ' τ') := by rw [← hd]; exact q'
    unfold forL at q2
    cases hg : g ds[i] ρ' with
    | none => rw [hg] at q2; exact q2.elim
    | some ρ1 =>
      rw [hg] at q2
      dsimp only at q2
      have fin : ∀ {H3 Z3 : Hp}, Wd (jx X W).k A F' τ' H3 Z3 → Same Z' Z3 → Rep (jx X W).k Z3 ds[i] x → tG ⟨X.K, X.mg⟩ is g x σ' H3 fun σ2 H2 => tS (jx X W) r mb { D with
          nx := fun σ2 H2 => ∃ ρ' τ' F' Z', Wd (jx X W).k A F' τ' H2 Z' ∧ Sl (jx X W).k A F0 F' ρ' σ2 Z' ∧ Same Z1 Z' ∧ AfterS (jx X W) r A F0 Z' D (forL g mb (ds.drop (i + 1)) ρ' τ')
          ct := fun σ2 H2 => ∃ ρ' τ' F' Z', Wd (jx X W).k A F' τ' H2 Z' ∧ Sl (jx X W).k A F0 F' ρ' σ2 Z' ∧ Same Z1 Z' ∧ AfterS (jx X W) r A F0 Z' D (forL g mb (ds.drop (i + 1)) ρ' τ')
          bk := D.nx } σ2 H2 := fun {H3 Z3} w3 e3 rx => by
        refine ⟨ρ', τ', A, F0, F', Z3, ds[i], ρ1, w3, s'.mono e3, rx, hg, fun σ2 s2 _ _ => ⟨ρ1, τ', A, F0, F', Z3, w3, s2, ?_⟩⟩
        cases hb : mb ρ1 τ' with
        | nx ρ2 τ2 =>
          rw [hb] at q2
          exact fun σ4 H4 Z4 F4 w4 s4 e4 => ⟨ρ2, τ2, F4, Z4, w4, s4, (e'.trans e3).trans e4, AfterS.mono (e3.trans e4) q2⟩
        | cnt ρ2 τ2 =>
          rw [hb] at q2
          exact fun σ4 H4 Z4 F4 w4 s4 e4 => ⟨ρ2, τ2, F4, Z4, w4, s4, (e'.trans e3).trans e4, AfterS.mono (e3.trans e4) q2⟩
        | brk ρ2 τ2 =>
          rw [hb] at q2
          exact fun σ4 H4 Z4 F4 w4 s4 e4 => q2 σ4 H4 Z4 F4 w4 s4 (e3.trans e4)
        | ret d τ2 =>
          rw [hb] at q2
          exact AfterS.mono (D := D) e3 q2
        | exc x ρ2 τ2 =>
          rw [hb] at q2
          exact AfterS.mono (D := D) e3 q2
        | bad => rw [hb] at q2; exact q2
      rcases hJ'.yld i H' H2 x ds[i] w'.zh nf (List.getElem?_eq_getElem hi) hy with ⟨rfl, rx⟩ | ⟨p, o, pl, hp, rfl, rx⟩
      · exact fin w' (Same.refl Z') rx
      · exact fin (w'.alloc hp pl) (same_new (none_of_same w'.zh hp)) rx
  · refine .inl ⟨hJ'.stop i H' w'.zh nf (by omega), ?_⟩
    rw [List.drop_of_length_le (by omega)] at q'
    exact AfterS.next q' w' s'
theorem es_for (hi : EIV X W tg it mi) (hg : EG X is tg g) (hb : EL X W r body mb) (hp : PassesOwn (model X.prog X.w) X.A X.env X.xe) (hc : X.calm = true := by rfl) (hs : ∀ x, foldedSetIterable it X.env x = pure x := by intro _; rfl) : ES X W r (.For tg it body [] pos) (sFor mi g mb) := ps_weak (ps_for hp hc hi hg hb hs) for_ok
end
section
variable {X : Cx} {W : WX} {r : Rk} {c : Expr} {t : ST} {body : List Stmt} {mb : SS} {pos : Pos}
end
end Hw
namespace Hw
open PySem PySem.Spec L2
variable [Tb]
def wipeR (ρ : Rho) : List Nat → Rho
  | [] => ρ
  | v :: vs => (wipeR ρ vs).set v .no
theorem wipeR_length (ρ : Rho) : ∀ vs : List Nat, (wipeR ρ vs).length = ρ.length
  | [] => rfl
  | v :: vs => by unfold wipeR; rw [List.length_set, wipeR_length ρ vs]
theorem wipeR_get {ρ : Rho} {i : Nat} {x : Sv} : ∀ {vs : List Nat}, (wipeR ρ vs)[i]? = some x → x = .no ∨ (ρ[i]? = some x ∧ i ∉ vs)
  | [], h => .inr ⟨h, by simp⟩
  | v :: vs, h => by
    unfold wipeR at h
    by_cases hi : v = i
    · subst hi
      by_cases hv : v < (wipeR ρ vs).length
      · rw [List.getElem?_set_self hv] at h; cases h; exact .inl rfl
      · rw [List.getElem?_eq_none (by simpa using hv)] at h; cases h
    · rw [List.getElem?_set_ne hi] at h
      rcases wipeR_get h with z | ⟨z1, z2⟩
      · exact .inl z
      · exact .inr ⟨z1, by simp only [List.mem_cons, not_or]; exact ⟨fun e => hi e.symm, z2⟩⟩
theorem wipe_get {σ : L2.St} {i : Nat} : ∀ {vs : List Nat}, i ∉ vs → (wipe σ vs)[i]? = σ[i]?
  | [], _ => rfl
  | v :: vs, h => by
    have h1 : i ≠ v := fun z => h (by rw [z]; exact List.mem_cons_self)
    have h2 : i ∉ vs := fun z => h (List.mem_cons_of_mem _ z)
    unfold wipe
    rw [List.getElem?_set_ne (Ne.symm h1)]
    exact wipe_get h2
theorem wipe_in {σ : L2.St} {i : Nat} : ∀ {vs : List Nat}, i ∈ vs → i < σ.length → (wipe σ vs)[i]? = some none
  | v :: vs, h, hl => by
    unfold wipe
    by_cases hv : v = i
    · subst hv
      exact List.getElem?_set_self (by rw [wipe_length]; exact hl)
    · rw [List.getElem?_set_ne hv]
      exact wipe_in ((List.mem_cons.mp h).resolve_left (fun z => hv z.symm)) hl
theorem wipe_eq {σ τ : L2.St} {vs : List Nat} (hl : τ.length = (wipe σ vs).length) (h : ∀ i, i ∉ vs → τ[i]? = (wipe σ vs)[i]?) : wipe τ vs = wipe σ vs := by
  apply List.ext_getElem?
  intro i
  by_cases hi : i ∈ vs
  · by_cases hb : i < σ.length
    · rw [wipe_in hi hb, wipe_in hi (by rw [hl, wipe_length]; exact hb)]
    · rw [List.getElem?_eq_none (by rw [wipe_length, hl, wipe_length]; omega), List.getElem?_eq_none (by rw [wipe_length]; omega)]
  · rw [wipe_get hi, h i hi]
def noX {α : Type} (o : Out α) : Out α := match o with
  | .ok a τ => .ok a τ
  | _ => .bad
def lcL (g : SG) (t : ST) (m : SE) (ρ : Rho) : List D → Tau → Out (List D)
  | [], τ => .ok [] τ
  | d :: ds, τ => match g d ρ with
    | none => .bad
    | some ρ1 => (noX (t ρ1 τ)).bind fun b τ1 => if b = true then (noX (m ρ1 τ1)).bind fun y τ2 => (lcL g t m ρ ds τ2).bind fun ys τ3 => .ok (y :: ys) τ3 else lcL g t m ρ ds τ1
def eLc (mi : SI) (g : SG) (vs : List Nat) (t : ST) (m : SE) : SE := fun ρ τ => (mi ρ τ).bind fun ds τ1 => (lcL g t m (wipeR ρ vs) ds τ1).bind fun ys τ2 => if ys.length ≤ sizeLine then .ok (.lst ys) τ2 else .bad
def tYes : ST := fun _ τ => .ok true τ
abbrev WF : WX := fun _ _ _ _ => False
abbrev ETs (X : Cx) (W : WX) (e : List Expr) (m : ST) : Prop := PTs X e (tT (jx X W) m)
section
variable {X : Cx} {W : WX} {c : Jx}
theorem ets_nil : ETs X W [] tYes := ⟨fun pins s σ H Q I ⟨ρ, τ, A, F0, F, Z, w, sl, q⟩ => pts_nil.run pins s σ H Q I (After.ok q w)⟩
theorem noX_bind {α β : Type} {o : Out α} {f : α → Tau → Out β} {a : β} {τ : Tau} (h : (noX o).bind f = .ok a τ) : ∃ b τ1, o = .ok b τ1 ∧ f b τ1 = .ok a τ := by
  cases o with
  | ok b τ1 => exact ⟨b, τ1, rfl, h⟩
  | exc e τ1 => cases h
  | bad => cases h
theorem bind_ok {α β : Type} {o : Out α} {f : α → Tau → Out β} {a : β} {τ : Tau} (h : o.bind f = .ok a τ) : ∃ b τ1, o = .ok b τ1 ∧ f b τ1 = .ok a τ := by
  cases o with
  | ok b τ1 => exact ⟨b, τ1, rfl, h⟩
  | exc e τ1 => cases h
  | bad => cases h
theorem lcL_noexc {g : SG} {t : ST} {m : SE} {ρ : Rho} : ∀ {ds : List D} {τ : Tau} {e : Exc} {τ' : Tau}, lcL g t m ρ ds τ ≠ .exc e τ'
  | [], _, _, _, h => by cases h
  | d :: ds, τ, e, τ', h => by
    unfold lcL at h
    cases hg : g d ρ with
    | none => rw [hg] at h; cases h
    | some ρ1 =>
      rw [hg] at h
      dsimp only at h
      cases ht : t ρ1 τ with
      | ok b τ1 =>
        rw [ht] at h
        cases b with
        | false => exact lcL_noexc (show lcL g t m ρ ds τ1 = .exc e τ' from h)
        | true =>
          cases hm : m ρ1 τ1 with
          | ok y τ2 =>
            have h : ((noX (m ρ1 τ1)).bind fun y τ2 => (lcL g t m ρ ds τ2).bind fun ys τ3 => .ok (y :: ys) τ3) = .exc e τ' := h
            rw [hm] at h
            cases hr : lcL g t m ρ ds τ2 with
            | ok ys τ3 =>
              have h : ((lcL g t m ρ ds τ2).bind fun ys τ3 => .ok (y :: ys) τ3) = .exc e τ' := h
              rw [hr] at h
              cases h
            | exc e1 τ3 => exact lcL_noexc hr
            | bad =>
              have h : ((lcL g t m ρ ds τ2).bind fun ys τ3 => .ok (y :: ys) τ3) = .exc e τ' := h
              rw [hr] at h
              cases h
          | exc e1 τ2 =>
            have h : ((noX (m ρ1 τ1)).bind fun y τ2 => (lcL g t m ρ ds τ2).bind fun ys τ3 => .ok (y :: ys) τ3) = .exc e τ' := h
            rw [hm] at h
            cases h
          | bad =>
            have h : ((noX (m ρ1 τ1)).bind fun y τ2 => (lcL g t m ρ ds τ2).bind fun ys τ3 => .ok (y :: ys) τ3) = .exc e τ' := h
            rw [hm] at h
            cases h
      | exc e1 τ1 => rw [ht] at h; cases h
      | bad => rw [ht] at h; cases h
theorem Wd.acc {k : Kx} {A : List Addr} {F : Hp} {τ : Tau} {H Z : Hp} {p : Addr} {o u : HO} (w : Wd k A (upd F p o) τ H Z) (hu : isPl u = true) (hn : ∀ vs, u ≠ .tup vs) : Wd k A (upd F p u) τ (upd H p u) Z := by
  have zp : Z p = none := by
    rcases w.zf p with z | z
    · rw [upd_same] at z; cases z
    · exact z
  have ap : ∀ a ∈ A, a ≠ p := fun a ha e => by
    have := (w.out a ha).2
    rw [e, upd_same] at this
    cases this
  refine ⟨fun a x e => ?_, fun a x e => ?_, fun a => ?_, w.len, fun j a d e1 e2 => ?_, fun a ha => ?_, w.nd, tabs_no w.tabs (w.fh p o upd_same) (w.pl p o (.inr upd_same)), fun a x e => ?_, nt_re w.nt hn, w.gr.move (Same.refl Z) (fun a ha o' h' => by rw [upd_ne (ap a ha)]; exact h') (fun b o' z f na hb pb => by
    have nb : b ≠ p := fun e => by rw [e, upd_same] at f; cases f
    rw [upd_ne nb] at f
    exact ⟨z, by rw [upd_ne nb]; exact f, by rw [upd_ne nb]; exact hb⟩)⟩
  rotate_right
  · by_cases h : a = p
    · subst h
      rcases e with e | e
      · exact w.pl a x (.inl e)
      · rw [upd_same] at e; cases e; exact hu
    · rw [upd_ne h] at e
      exact w.pl a x (by rw [upd_ne h]; exact e)
  · rw [upd_ne (ne_of_none e zp)]; exact w.zh a x e
  · by_cases h : a = p
    · subst h; rw [upd_same] at e ⊢; exact e
    · rw [upd_ne h] at e ⊢; exact w.fh a x (by rw [upd_ne h]; exact e)
  · by_cases h : a = p
    · subst h; exact .inr zp
    · have := w.zf a
      rw [upd_ne h] at this ⊢
      exact this
  · obtain ⟨x, h1, h2⟩ := w.io j a d e1 e2
    have : a ≠ p := ap a (List.mem_of_getElem? e1)
    exact ⟨x, by rw [upd_ne this]; exact h1, h2⟩
  · have := w.out a ha
    rw [upd_ne (ap a ha)] at this ⊢
    exact this
theorem Sl.acc {k : Kx} {A : List Addr} {F0 F : Hp} {ρ : Rho} {σ : L2.St} {Z : Hp} {p : Addr} {o : HO} (s : Sl k A F0 F ρ σ Z) (h : F p = none) : Sl k A F0 (upd F p o) ρ σ Z :=
  ⟨s.len, s.fz, fun i d e => let ⟨a, u, h1, h2, h3, h4⟩ := s.own i d e; ⟨a, u, h1, by rw [upd_ne (ne_of_none h2 h)]; exact h2, h3, h4⟩, s.io, s.ap, s.f0.trans (same_new h), fun i j n e => let ⟨a, h1, h2, h3, h4⟩ := s.rws i j n e; ⟨a, h1, h2, by rw [upd_ne (ne_of_none h3 h)]; exact h3, h4⟩, s.apr⟩
theorem Sl.wipe {k : Kx} {A : List Addr} {F0 F : Hp} {ρ : Rho} {σ : L2.St} {Z : Hp} (s : Sl k A F0 F ρ σ Z) (vs : List Nat) : Sl k A F0 F (wipeR ρ vs) (L2.wipe σ vs) Z :=
  s.forget (by rw [wipeR_length, wipe_length]; exact s.len) fun i x h => (wipeR_get h).imp id fun ⟨h1, h2⟩ => ⟨h1, wipe_get h2⟩
theorem lc_ok {mi : SI} {g : SG} {is vs : List Nat} {t : ST} {m : SE} (his : ∀ i ∈ is, i ∈ vs) : ∀ σ H Q, tF (jx X W) (eLc mi g vs t m) σ H Q → tLc (tIB (jx X W) mi) (tG ⟨X.K, X.mg⟩ is g) (tT (jx X WF) t) (tE (jx X WF) m) vs σ H Q := fun σ H Q ⟨ρ, τ, A, F0, F, Z, w, s, q⟩ => by
  refine ⟨ρ, τ, A, F0, F, Z, w, s, AfterF.next q fun ds τ1 H1 Z1 w1 e1 q1 J hJ D hD => ?_⟩
  have fD := none_of_same w1.fh hD
  have aD : D ∉ A := fun ha => by
    obtain ⟨u, hu⟩ := w1.a_some ha
    rw [hD] at hu
    cases hu
  -- the answer is a list
  obtain ⟨ys, τf, hl, q2⟩ : ∃ ys τf, lcL g t m (wipeR ρ vs) ds τ1 = .ok ys τf ∧ (ys.length ≤ sizeLine ∧ AfterF (jx X W) A F0 F ρ σ Z1 (.ok (.lst ys) τf) Q) := by
    cases hl : lcL g t m (wipeR ρ vs) ds τ1 with
    | bad => rw [hl] at q1; exact q1.elim
    | exc e τ2 => exact absurd hl lcL_noexc
    | ok ys τ2 =>
      rw [hl] at q1
      refine ⟨ys, τ2, rfl, ?_⟩
      have q1 : AfterF (jx X W) A F0 F ρ σ Z1 (if ys.length ≤ sizeLine then .ok (.lst ys) τ2 else .bad) Q := q1
      by_cases h : ys.length ≤ sizeLine
      · rw [if_pos h] at q1; exact ⟨h, q1⟩
      · rw [if_neg h] at q1; exact q1.elim
  obtain ⟨hys, q2⟩ := q2
  refine ⟨fun i n H' => i + n = ds.length ∧ ∃ τ' Z' acc as rs, Wd (jx X W).k A (upd F D (.lst acc)) τ' H' Z' ∧ Same Z1 Z' ∧ Reps (jx X W).k Z' as acc ∧ lcL g t m (wipeR ρ vs) (ds.drop i) τ' = .ok rs τf ∧ as ++ rs = ys,
    ⟨ds.length, by omega, τ1, Z1, [], [], ys, w1.allocF hD rfl (fun _ e => nomatch e), Same.refl Z1, Reps.nil, hl, rfl⟩, fun i n H' ⟨hn, τ', Z', acc, as, rs, w', e', ra, hr, hy⟩ => ?_⟩
  have sF : Same F H' := fun b o hb => w'.fh b o (by rw [upd_ne (ne_of_none hb fD)]; exact hb)
  have hJ' : ItOk (jx X W).k F Z' J ds := hJ.mono (Same.refl _) e'
  by_cases hi : i < ds.length
  · refine .inr ⟨hJ'.go i H' w'.zh sF hi, fun H2 => ∃ τ' Z' acc as rs, Wd (jx X W).k A (upd F D (.lst acc)) τ' H2 Z' ∧ Same Z1 Z' ∧ Reps (jx X W).k Z' as acc ∧ lcL g t m (wipeR ρ vs) (ds.drop (i + 1)) τ' = .ok rs τf ∧ as ++ rs = ys,
      fun H2 z => ⟨n - 1, by omega, by omega, z⟩, fun x H2 hyl => ?_⟩
    have hd : ds.drop i = ds[i] :: ds.drop (i + 1) := List.drop_eq_getElem_cons hi
    rw [hd] at hr
    unfold lcL at hr
    cases hg : g ds[i] (wipeR ρ vs) with
    | none => rw [hg] at hr; cases hr
    | some ρ1 =>
      rw [hg] at hr
      dsimp only at hr
      obtain ⟨b, τt, ht, hr⟩ := noX_bind hr
      have fin : ∀ {H3 Z3 : Hp}, Wd (jx X W).k A (upd F D (.lst acc)) τ' H3 Z3 → Same Z' Z3 → Rep (jx X W).k Z3 ds[i] x → tG ⟨X.K, X.mg⟩ is g x (L2.wipe σ vs) H3 fun σ2 H2 => L2.wipe σ2 vs = L2.wipe σ vs ∧ tT (jx X WF) t σ2 H2 fun b H3 =>
          if b = true then tE (jx X WF) m σ2 H3 fun y H4 => ∃ acc, H4 D = some (.lst acc) ∧ acc.length < sizeLine ∧ ∃ τ' Z' acc' as rs, Wd (jx X W).k A (upd F D (.lst acc')) τ' (upd H4 D (.lst (acc ++ [y]))) Z' ∧ Same Z1 Z' ∧ Reps (jx X W).k Z' as acc' ∧ lcL g t m (wipeR ρ vs) (ds.drop (i + 1)) τ' = .ok rs τf ∧ as ++ rs = ys
          else ∃ τ' Z' acc as rs, Wd (jx X W).k A (upd F D (.lst acc)) τ' H3 Z' ∧ Same Z1 Z' ∧ Reps (jx X W).k Z' as acc ∧ lcL g t m (wipeR ρ vs) (ds.drop (i + 1)) τ' = .ok rs τf ∧ as ++ rs = ys := fun {H3 Z3} w3 e3 rx => by
        have s3 : Sl (jx X W).k A F0 (upd F D (.lst acc)) (wipeR ρ vs) (L2.wipe σ vs) Z3 := ((s.mono ((e1.trans e').trans e3)).wipe vs).acc fD
        refine ⟨wipeR ρ vs, τ', A, F0, upd F D (.lst acc), Z3, ds[i], ρ1, w3, s3, rx, hg, fun σ2 s2 l2 u2 => ⟨wipe_eq l2 fun j hj => u2 j fun z => hj (his j z), ?_⟩⟩
        refine ⟨ρ1, τ', A, F0, upd F D (.lst acc), Z3, w3, s2, ?_⟩
        rw [ht]
        intro H4 Z4 w4 e4
        cases b with
        | false =>
          exact ⟨τt, Z4, acc, as, rs, w4, (e'.trans e3).trans e4, ra.mono (e3.trans e4), hr, hy⟩
        | true =>
          have hr : ((noX (m ρ1 τt)).bind fun y τ2 => (lcL g t m (wipeR ρ vs) (ds.drop (i + 1)) τ2).bind fun ys τ3 => .ok (y :: ys) τ3) = .ok rs τf := hr
          obtain ⟨y, τm, hm, hr⟩ := noX_bind hr
          obtain ⟨rs', τr, hrr, hr⟩ := bind_ok hr
          cases hr
          refine ⟨ρ1, τt, A, F0, upd F D (.lst acc), Z4, w4, s2.mono e4, ?_⟩
          rw [hm]
          intro H5 Z5 w5 e5 v rv
          refine ⟨acc, w5.fh D _ upd_same, ?_, τm, Z5, acc ++ [v], as ++ [y], rs', w5.acc rfl (fun _ e => nomatch e), ((e'.trans e3).trans e4).trans e5, (ra.mono ((e3.trans e4).trans e5)).append (Reps.cons rv Reps.nil), hrr, by rw [List.append_assoc]; exact hy⟩
          have : ys.length = as.length + (rs'.length + 1) := by rw [← hy, List.length_append, List.length_cons]
          rw [← ra.length]
          omega
      rcases hJ'.yld i H' H2 x ds[i] w'.zh sF (List.getElem?_eq_getElem hi) hyl with ⟨rfl, rx⟩ | ⟨p, o, pl, hp, rfl, rx⟩
      · exact fin w' (Same.refl Z') rx
      · exact fin (w'.alloc hp pl) (same_new (none_of_same w'.zh hp)) rx
  · refine .inl ⟨hJ'.stop i H' w'.zh sF (by omega), ?_⟩
    rw [List.drop_of_length_le (by omega)] at hr
    cases hr
    rw [List.append_nil] at hy
    subst hy
    exact q2 H' Z' D (.lst acc) fD aD w' e' ⟨acc, rfl, ra⟩
variable {elt tg iter : Expr} {ifs : List Expr} {scope : Scope} {pos : Pos} {mi : SI} {g : SG} {is : List Nat} {t : ST} {m : SE}
theorem ef_lc (own : List (Str × Nat)) (hi : EIB X W tg iter mi) (ok : BlkOk X.N X.env.scope scope own)
    (hg : ∀ (s : Shared) (H : Hp) (C : Addr) (cl : List (Str × Addr)) (fp : List Addr), EG (X.blk s H scope (compEnvC scope cl C X.env) fp) is tg g) (ht : ∀ (s : Shared) (H : Hp) (C : Addr) (cl : List (Str × Addr)) (fp : List Addr), ETs (X.blk s H scope (compEnvC scope cl C X.env) fp) WF ifs t)
    (he : ∀ (s : Shared) (H : Hp) (C : Addr) (cl : List (Str × Addr)) (fp : List Addr), EV (X.blk s H scope (compEnvC scope cl C X.env) fp) WF elt m) (his : ∀ i ∈ is, i ∈ own.map (·.2) := by decide) (hN : X.N.Nodup := by assumption) (hc : X.calm = true := by rfl) (hs : ∀ x, foldedSetIterable iter X.env x = pure x := by intro _; rfl) :
    EF X W (.ListComp elt [⟨tg, iter, ifs, 0⟩] scope pos) (eLc mi g (own.map (·.2)) t m) := pe_weak (pe_lc hc hN hi ok hg ht he hs) (lc_ok his)
end
end Hw
namespace Hw
open PySem PySem.Spec L2
variable [Tb]
open PyProof.Rows (envOfC)
abbrev MF := Rho → Tau → Out D
def SpOf (k : Kx) (r : Rk) (n : Nat) (mf : MF) : Sp := fun vs H Q E => vs.length = n ∧ ∃ ρ τ A F Z, Wd k A F τ H Z ∧ Sl k A F F ρ (vs.map some) Z ∧ match mf ρ τ with
  | .ok d τ' => match r with
    | .o => ∀ H' Z' a o, F a = none → a ∉ A → Wd k A (upd F a o) τ' H' Z' → Same Z Z' → OwnO k Z' d o → Q (.ref a) H'
    | .v => ∀ H' Z' v, Wd k A F τ' H' Z' → Same Z Z' → Rep k Z' d v → Q v H'
    | .d => ∀ H' Z' F' fp v, Wd k A F' τ' H' Z' → Same Z Z' → Same F F' → (∀ a ∈ fp, F a = none) → fp.Nodup → RepT k F' Z' fp d v → Q v H'
    | .g => ∀ H' Z' F' fp v, Wd k A F' τ' H' Z' → Same Z Z' → Same F F' → (∀ a ∈ fp, F a = none) → fp.Nodup → GrpF k F' Z' fp d v → Q v H'
  | .exc e τ' => ∀ cls dx H' Z', Wd k A F τ' H' Z' → Same Z Z' → RepX k F Z' H' e cls dx → E cls dx H'
  | .bad => False
def runB (r : Bool) (N : Nat) (mb : SS) : MF := fun ρ τ => match mb (ρ ++ List.replicate (N - ρ.length) .no) τ with
  | .ret d τ' => .ok d τ'
  | .nx _ τ' => if r = true then .bad else .ok .non τ'
  | .exc e _ τ' => .exc e τ'
  | _ => .bad
abbrev WX0 (E : XK) : WX := fun cls d _ H => E cls d H
theorem Sl.start {k : Kx} {A : List Addr} {F : Hp} {ρ : Rho} {vs : List V} {Z : Hp} {N : List Str} (s : Sl k A F F ρ (vs.map some) Z) : Sl k A F F (ρ ++ List.replicate (N.length - ρ.length) .no) (L2.start N vs) Z := by
  have hl : ρ.length = vs.length := by rw [s.len, List.length_map]
  have lo : ∀ (i : Nat) (x : Sv), (ρ ++ List.replicate (N.length - ρ.length) Sv.no)[i]? = some x → x = .no ∨ (ρ[i]? = some x ∧ (L2.start N vs)[i]? = (vs.map some)[i]?) := fun i x h => by
    by_cases hi : i < ρ.length
    · rw [List.getElem?_append_left hi] at h
      refine .inr ⟨h, ?_⟩
      unfold L2.start
      rw [List.getElem?_append_left (by rw [List.length_map]; omega)]
    · rw [List.getElem?_append_right (by omega), List.getElem?_replicate] at h
      split at h
      · cases h; exact .inl rfl
      · cases h
  exact s.forget (by unfold L2.start; rw [List.length_append, List.length_append, List.length_map, List.length_replicate, List.length_replicate, hl]) lo
section
variable {P : Program} {w : World} {K : PySem.W.Frag} {mg : Str → Option Value} {base : Heap}
theorem body_ok {k : Kx} {r : Rk} {n : Nat} {N : List Str} {mb : SS} {vs : List V} {H : Hp} {Q : VK} {E : XK} (h : SpOf k r n (runB r.own N.length mb) vs H Q E) :
    tS ⟨k, WX0 E⟩ r mb { nx := fun _ H' => Q .non H', rt := Q } (L2.start N vs) H := by
  obtain ⟨_, ρ, τ, A, F, Z, w, s, q⟩ := h
  refine ⟨_, τ, A, F, F, Z, w, s.start, ?_⟩
  unfold runB at q
  cases hm : mb (ρ ++ List.replicate (N.length - ρ.length) .no) τ with
  | nx ρ1 τ1 =>
    rw [hm] at q
    cases r with
    | o => exact q.elim
    | d => exact q.elim
    | g => exact q.elim
    | v =>
      have q : ∀ H' Z' v, Wd k A F τ1 H' Z' → Same Z Z' → Rep k Z' .non v → Q v H' := q
      exact fun σ H1 Z1 F1 w1 s1 e => q H1 Z1 _ (w1.sub s1.f0) e (rep_non.mpr rfl)
  | ret d τ1 =>
    rw [hm] at q
    cases r with
    | g =>
      have q : ∀ H' Z' F' fp v, Wd k A F' τ1 H' Z' → Same Z Z' → Same F F' → (∀ a ∈ fp, F a = none) → fp.Nodup → GrpF k F' Z' fp d v → Q v H' := q
      exact fun H1 Z1 F1 fp v w1 f1 e n1 nd r1 => q H1 Z1 F1 fp v w1 e f1 n1 nd r1
    | d =>
      have q : ∀ H' Z' F' fp v, Wd k A F' τ1 H' Z' → Same Z Z' → Same F F' → (∀ a ∈ fp, F a = none) → fp.Nodup → RepT k F' Z' fp d v → Q v H' := q
      exact fun H1 Z1 F1 fp v w1 f1 e n1 nd r1 => q H1 Z1 F1 fp v w1 e f1 n1 nd r1
    | o =>
      have q : ∀ H' Z' a o, F a = none → a ∉ A → Wd k A (upd F a o) τ1 H' Z' → Same Z Z' → OwnO k Z' d o → Q (.ref a) H' := q
      intro H1 Z1 F1 a o w1 f1 e fa f0 ho
      refine q H1 Z1 a o f0 (fun ha => ?_) (w1.sub fun b u hb => ?_) e ho
      · have := (w1.out a ha).2
        rw [fa] at this
        cases this
      · by_cases hb' : b = a
        · subst hb'; rw [upd_same] at hb; rw [fa]; exact hb
        · rw [upd_ne hb'] at hb; exact f1 b u hb
    | v =>
      have q : ∀ H' Z' v, Wd k A F τ1 H' Z' → Same Z Z' → Rep k Z' d v → Q v H' := q
      exact fun H1 Z1 F1 v w1 f1 e rv => q H1 Z1 v (w1.sub f1) e rv
  | brk ρ1 τ1 => rw [hm] at q; exact q.elim
  | cnt ρ1 τ1 => rw [hm] at q; exact q.elim
  | bad => rw [hm] at q; exact q.elim
  | exc x ρ1 τ1 =>
    rw [hm] at q
    intro cls dx σ H1 Z1 F1 w1 s1 e rx
    obtain ⟨C, d, us, h1, h2, h3, h4, h5, h6, h7, h8⟩ := rx
    exact q cls dx H1 Z1 (w1.sub s1.f0) e ⟨C, d, us, h1, h2, h3, h4, h5, h6, none_of_same s1.f0 h7, h8⟩
end
abbrev SR := Rho → Tau → Out (List Sv)
def ArgRel (k : Kx) (A : List Addr) (Z : Hp) : List Sv → List V → Prop
  | [], vs => vs = []
  | .fz d :: ss, vs => ∃ v r, vs = v :: r ∧ Rep k Z d v ∧ ArgRel k A Z ss r
  | .io j :: ss, vs => ∃ a r, vs = V.ref a :: r ∧ A[j]? = some a ∧ ArgRel k A Z ss r
  | _ :: _, _ => False
theorem ArgRel.mono {k : Kx} {A : List Addr} {Z Z' : Hp} (e : Same Z Z') : ∀ {ss : List Sv} {vs : List V}, ArgRel k A Z ss vs → ArgRel k A Z' ss vs
  | [], _, h => h
  | .fz d :: ss, _, ⟨v, r, h1, h2, h3⟩ => ⟨v, r, h1, h2.mono e, ArgRel.mono e h3⟩
  | .io j :: ss, _, ⟨a, r, h1, h2, h3⟩ => ⟨a, r, h1, h2, ArgRel.mono e h3⟩
  | .no :: _, _, h => h.elim
  | .own _ :: _, _, h => h.elim
theorem ArgRel.len {k : Kx} {A : List Addr} {Z : Hp} : ∀ {ss : List Sv} {vs : List V}, ArgRel k A Z ss vs → ss.length = vs.length
  | [], _, h => by have h : _ = [] := h; subst h; rfl
  | .fz d :: ss, _, ⟨v, r, h1, _, h3⟩ => by subst h1; rw [List.length_cons, List.length_cons, h3.len]
  | .io j :: ss, _, ⟨a, r, h1, _, h3⟩ => by subst h1; rw [List.length_cons, List.length_cons, h3.len]
  | .no :: _, _, h => h.elim
  | .own _ :: _, _, h => h.elim
theorem ArgRel.at {k : Kx} {A : List Addr} {Z : Hp} : ∀ {ss : List Sv} {vs : List V} {i : Nat} {x : Sv}, ArgRel k A Z ss vs → ss[i]? = some x → (∃ d v, x = .fz d ∧ vs[i]? = some v ∧ Rep k Z d v) ∨ ∃ j a, x = .io j ∧ A[j]? = some a ∧ vs[i]? = some (V.ref a)
  | [], _, _, _, _, e => by simp at e
  | .fz d :: ss, _, 0, x, ⟨v, r, h1, h2, h3⟩, e => by
    have e : Sv.fz d = x := by simpa using e
    subst h1
    exact .inl ⟨d, v, e.symm, rfl, h2⟩
  | .io j :: ss, _, 0, x, ⟨a, r, h1, h2, h3⟩, e => by
    have e : Sv.io j = x := by simpa using e
    subst h1
    exact .inr ⟨j, a, e.symm, h2, rfl⟩
  | .fz d :: ss, _, i + 1, x, ⟨v, r, h1, h2, h3⟩, e => by
    subst h1
    simpa using ArgRel.at (i := i) h3 (by simpa using e)
  | .io j :: ss, _, i + 1, x, ⟨a, r, h1, h2, h3⟩, e => by
    subst h1
    simpa using ArgRel.at (i := i) h3 (by simpa using e)
  | .no :: _, _, _, _, h, _ => h.elim
  | .own _ :: _, _, _, _, h, _ => h.elim
  | .rows _ _ :: _, _, _, _, h, _ => h.elim
theorem ArgRel.sl {k : Kx} {A : List Addr} {Z F : Hp} {ss : List Sv} {vs : List V} (h : ArgRel k A Z ss vs) : Sl k A F F ss (vs.map some) Z := by
  have at' : ∀ {i : Nat} {v : V}, vs[i]? = some v → (vs.map some)[i]? = some (some v) := fun {i v} e => by rw [List.getElem?_map, e]; rfl
  refine ⟨by rw [List.length_map]; exact h.len, fun i d e => ?_, fun i d e => ?_, fun i j e => ?_, fun i j d e a h1 => ?_, Same.refl F, fun i j n e => ?_, fun i j n l d a h1 => ?_⟩
  · rcases h.at e with ⟨d', v, h1, h2, h3⟩ | ⟨j, a, h1, _⟩
    · cases h1; exact ⟨v, at' h2, h3⟩
    · cases h1
  · rcases h.at e with ⟨d', v, h1, h2, h3⟩ | ⟨j, a, h1, _⟩ <;> cases h1
  · rcases h.at e with ⟨d', v, h1, h2, h3⟩ | ⟨j, a, h1, h2, h3⟩
    · cases h1
    · cases h1; exact ⟨a, h2, at' h3⟩
  · rcases h.at h1 with ⟨d', v, h2, _⟩ | ⟨j, a, h2, _⟩ <;> cases h2
  · rcases h.at e with ⟨d', v, h1, h2, h3⟩ | ⟨j, a, h1, _⟩ <;> cases h1
  · rcases h.at h1 with ⟨d', v, h2, _⟩ | ⟨j, a, h2, _⟩ <;> cases h2
def tR (c : Jx) (m : SR) : TA := fun σ H Q => ∃ ρ τ A F0 F Z, Wd c.k A F τ H Z ∧ Sl c.k A F0 F ρ σ Z ∧ After c A F0 F ρ σ Z (m ρ τ) fun ss _ H' Z' => ∀ vs, ArgRel c.k A Z' ss vs →
  -- the call needs to know where it stands
  Q vs H'
def rNil : SR := fun _ τ => .ok [] τ
def rCons (a : SE) (r : SR) : SR := fun ρ τ => (a ρ τ).bind fun x τ1 => (r ρ τ1).bind fun xs τ2 => .ok (.fz x :: xs) τ2
def rIo (i : Nat) (r : SR) : SR := fun ρ τ => match ρ[i]? with
  | some (.io j) => (r ρ τ).bind fun xs τ2 => .ok (.io j :: xs) τ2
  | _ => .bad
abbrev ER (X : Cx) (W : WX) (e : List Expr) (m : SR) : Prop := PA X e (tR (jx X W) m)
section
variable {X : Cx} {W : WX} {e : Expr} {es : List Expr} {ma : SE} {mr : SR} {pos : Pos}
theorem er_nil : ER X W [] rNil := pa_weak pa_nil fun σ H Q ⟨ρ, τ, A, F0, F, Z, w, s, q⟩ => After.ok q w [] rfl
theorem er_cons (ha : EV X W e ma) (hr : ER X W es mr) (hs : starEach (e :: es) X.env = (false, eval e X.env) :: starEach es X.env := by rfl) : ER X W (e :: es) (rCons ma mr) := pa_weak (pa_cons ha hr hs) fun σ H Q ⟨ρ, τ, A, F0, F, Z, w, s, q⟩ =>
  ⟨ρ, τ, A, F0, F, Z, w, s, After.next q fun d τ1 H1 Z1 w1 e1 q1 x rx => ⟨ρ, τ1, A, F0, F, Z1, w1, s.mono e1, After.next q1 fun ds τ2 H2 Z2 w2 e2 q2 ys ry =>
    After.ok q2 w2 _ ⟨x, ys, rfl, rx.mono e2, ry⟩⟩⟩
theorem er_io (i : Nat) {x : Str} (hr : ER X W es mr) (hN : X.N[i]? = some x := by rfl) (hv : Vis X.env.scope x := by first | exact Or.inl rfl | exact Or.inr (Or.inl rfl) | exact Or.inr (Or.inr rfl)) (hd : (x == ("__debug__" : Str)) = false := by decide)
    (hcd : (x == ("__classdict__" : Str)) = false := by decide) (hs : starEach (.Name x pos :: es) X.env = (false, eval (.Name x pos) X.env) :: starEach es X.env := by rfl) : ER X W (.Name x pos :: es) (rIo i mr) := pa_weak (pa_cons (pe_var hN hv hd hcd) hr hs) fun σ H Q ⟨ρ, τ, A, F0, F, Z, w, s, q⟩ => by
  unfold rIo at q
  split at q
  · rename_i j hj
    obtain ⟨a, h1, h2⟩ := s.io i j hj
    refine ⟨.ref a, h2, ρ, τ, A, F0, F, Z, w, s, After.next q fun ds τ2 H2 Z2 w2 e2 q2 ys ry => ?_⟩
    exact After.ok q2 w2 _ ⟨a, ys, rfl, h1, ry⟩
  · exact q.elim
end
noncomputable def hidF (H Z : Hp) : Hp := fun b => if Z b = none then (match H b with
  | some o => if isPm o = true then some o else none
  | none => none) else none
theorem hidF_iff {H Z : Hp} {b : Addr} {o : HO} : hidF H Z b = some o ↔ Z b = none ∧ H b = some o ∧ isPm o = true := by
  unfold hidF
  by_cases h : Z b = none
  · rw [if_pos h]
    cases hb : H b with
    | none => simp
    | some u =>
      dsimp only
      by_cases hu : isPm u = true
      · rw [if_pos hu]
        constructor
        · intro e; cases e; exact ⟨h, rfl, hu⟩
        · intro e; exact e.2.1
      · rw [if_neg hu]
        constructor
        · intro e; cases e
        · intro e; cases e.2.1; exact absurd e.2.2 hu
  · rw [if_neg h]
    constructor
    · intro e; cases e
    · intro e; exact absurd e.1 h
theorem Wd.pure0 {k : Kx} {A : List Addr} {F : Hp} {τ : Tau} {H Z : Hp} (w : Wd k A F τ H Z) : Wd k [] (hidF H Z) [] H Z := by
  refine ⟨w.zh, fun a o e => (hidF_iff.mp e).2.1, fun a => ?_, rfl, fun j a d e => ?_, fun a ha => ?_, List.nodup_nil, w.tabs, fun a o e => ?_, fun a vs e => pm_nt (hidF_iff.mp e).2.2 vs rfl, Gr.nil⟩
  · by_cases h : Z a = none
    · exact .inr h
    · exact .inl (if_neg h)
  · cases e
  · cases ha
  · rcases e with e | e
    · exact w.pl a o (.inl e)
    · exact pm_pl (hidF_iff.mp e).2.2
theorem Wd.after0 {k : Kx} {A : List Addr} {F : Hp} {τ : Tau} {H Z H' Z' F' : Hp} (w : Wd k A F τ H Z) (w' : Wd k [] F' [] H' Z') (hF : Same (hidF H Z) F') (e : Same Z Z') : Wd k A F τ H' Z' := by
  have fe : ∀ {b o}, Z b = none → H b = some o → isPm o = true → F' b = some o := fun {b o} hz hb ho => hF b o (hidF_iff.mpr ⟨hz, hb, ho⟩)
  refine ⟨w'.zh, fun a o h => ?_, fun a => ?_, w.len, fun j a d h1 h2 => ?_, fun a ha => ?_, w.nd, w'.tabs, fun a o h => ?_, w.nt, w.gr.move e (fun a ha o h' => by
    have za := (w.out a ha).1
    obtain ⟨u, hu, pu⟩ := w.a_pl ha
    rw [h'] at hu
    cases hu
    exact w'.fh a o (fe za h' pu)) (fun b o z f na hb pb => ⟨(w'.zf b).resolve_left (fun y => by rw [fe z hb pb] at y; cases y), f, w'.fh b o (fe z hb pb)⟩)⟩
  · have za : Z a = none := (w.zf a).resolve_left (fun z => by rw [h] at z; cases z)
    exact w'.fh a o (fe za (w.fh a o h) (w.pmF h))
  · cases hf : F a with
    | none => exact .inl rfl
    | some o =>
      have za : Z a = none := (w.zf a).resolve_left (fun z => by rw [hf] at z; cases z)
      refine .inr ((w'.zf a).resolve_left fun z => ?_)
      rw [fe za (w.fh a o hf) (w.pmF hf)] at z
      cases z
  · obtain ⟨o, h3, h4⟩ := w.io j a d h1 h2
    have za := (w.out a (List.mem_of_getElem? h1)).1
    exact ⟨o, w'.fh a o (fe za h3 h4.pm), h4.mono e⟩
  · have za := (w.out a ha).1
    obtain ⟨o, h3, ho⟩ := w.a_pl ha
    refine ⟨(w'.zf a).resolve_left fun z => ?_, (w.out a ha).2⟩
    rw [fe za h3 ho] at z
    cases z
  · rcases h with h | h
    · exact w'.pl a o (.inl h)
    · exact w.pl a o (.inr h)
theorem Wd.gr0 {k : Kx} {A : List Addr} {F F2 : Hp} {τ : Tau} {H Z H' Z' F' : Hp} (w : Wd k A F τ H Z) (w' : Wd k [] F' [] H' Z') (hF : Same (hidF H Z) F') (e : Same Z Z') (h2 : ∀ b o, F b = none → hidF H Z b = some o → F2 b = none) : Gr k A F2 τ H' Z' := by
  have fe : ∀ {b o}, Z b = none → H b = some o → isPm o = true → F' b = some o := fun {b o} hz hb ho => hF b o (hidF_iff.mpr ⟨hz, hb, ho⟩)
  exact w.gr.move e (fun a ha o h' => by
    have za := (w.out a ha).1
    obtain ⟨u, hu, pu⟩ := w.a_pl ha
    rw [h'] at hu
    cases hu
    exact w'.fh a o (fe za h' pu)) (fun b o z f na hb pb => ⟨(w'.zf b).resolve_left (fun y => by rw [fe z hb pb] at y; cases y), h2 b o f (hidF_iff.mpr ⟨z, hb, pb⟩), w'.fh b o (fe z hb pb)⟩)
theorem pure0_F {k : Kx} {A : List Addr} {F : Hp} {τ : Tau} {H Z : Hp} (w : Wd k A F τ H Z) : Same F (hidF H Z) := fun a o h => by
  have za : Z a = none := (w.zf a).resolve_left (fun z => by rw [h] at z; cases z)
  exact hidF_iff.mpr ⟨za, w.fh a o h, w.pmF h⟩
def noIo : List Sv → Bool
  | [] => true
  | .fz _ :: r => noIo r
  | _ :: _ => false
theorem ArgRel.noA {k : Kx} {A : List Addr} {Z : Hp} : ∀ {ss : List Sv} {vs : List V}, noIo ss = true → ArgRel k A Z ss vs → ArgRel k [] Z ss vs
  | [], _, _, h => h
  | .fz d :: ss, _, n, ⟨v, r, h1, h2, h3⟩ => ⟨v, r, h1, h2, ArgRel.noA n h3⟩
  | .io j :: ss, _, n, _ => by cases n
  | .no :: _, _, _, h => h.elim
  | .own _ :: _, _, _, h => h.elim
def eCall (mf : MF) (a : SR) : SE := fun ρ τ => (a ρ τ).bind fun ss τ1 => if noIo ss = true then (match mf ss [] with
  | .ok d _ => .ok d τ1
  | .exc e _ => .exc e τ1
  | .bad => .bad) else .bad
def eCallIo (mf : MF) (a : SR) : SE := fun ρ τ => (a ρ τ).bind fun ss τ1 => mf ss τ1
section
variable {X : Cx} {W : WX} {e : Expr} {es : List Expr} {mr : SR} {pos p : Pos} {x : Str} {f : Addr} {fd : FuncData} {ps : List Str} {k : Nat} {mf : MF}
theorem call_at {n : Nat} (hl : ∀ ρ τ ss τ1, mr ρ τ = .ok ss τ1 → ss.length = n) {σ : L2.St} {H : Hp} {Q : VK} {ρ : Rho} {τ : Tau} {A : List Addr} {F0 F Z : Hp} (w : Wd (jx X W).k A F τ H Z) (s : Sl (jx X W).k A F0 F ρ σ Z)
    (q : After (jx X W) A F0 F ρ σ Z (eCall mf mr ρ τ) fun d _ H' Z' => ∀ v, Rep (jx X W).k Z' d v → Q v H') : After (jx X W) A F0 F ρ σ Z (mr ρ τ) fun ss _ H' Z' => ∀ vs, ArgRel (jx X W).k A Z' ss vs → SpOf ⟨X.K, X.mg⟩ false n mf vs H' Q (WE W σ) := by
  have q0 := q
  unfold eCall at q
  cases hmr : mr ρ τ with
  | bad => rw [hmr] at q; exact q.elim
  | exc y τ1 => rw [hmr] at q; exact q
  | ok ss τ1 =>
    rw [hmr] at q
    intro H1 Z1 w1 e1 vs rv
    have lv := rv.len
    have q : After (jx X W) A F0 F ρ σ Z (if noIo ss = true then (match mf ss [] with | .ok d _ => .ok d τ1 | .exc e _ => .exc e τ1 | .bad => .bad) else .bad) fun d _ H' Z' => ∀ v, Rep (jx X W).k Z' d v → Q v H' := q
    cases hn : noIo ss with
    | false => rw [hn] at q; exact q.elim
    | true =>
      rw [hn] at q
      refine ⟨by rw [← lv]; exact hl _ _ _ _ hmr, ss, [], [], _, Z1, w1.pure0, (rv.noA hn).sl, ?_⟩
      cases hf : mf ss [] with
      | bad => rw [hf] at q; exact q
      | ok d τ2 =>
        rw [hf] at q
        intro H2 Z2 v w2 e2 rv2
        have : τ2 = [] := by
          have := w2.len
          cases τ2 with
          | nil => rfl
          | cons _ _ => cases this
        subst this
        exact q H2 Z2 (w1.after0 w2 (Same.refl _) e2) (e1.trans e2) v rv2
      | exc y τ2 =>
        rw [hf] at q
        intro cls dx H2 Z2 w2 e2 rx
        have : τ2 = [] := by
          have := w2.len
          cases τ2 with
          | nil => rfl
          | cons _ _ => cases this
        subst this
        have w3 := w1.after0 w2 (Same.refl _) e2
        obtain ⟨C, d, us, h1, h2, h3, h4, h5, h6, h7, h8⟩ := rx
        exact q cls dx H2 Z2 w3 (e1.trans e2) ⟨C, d, us, h1, h2, h3, h4, h5, h6, none_of_same (pure0_F w1) h7, h8⟩ (s.mono (e1.trans e2))
theorem call_ok {n : Nat} (hl : ∀ ρ τ ss τ1, mr ρ τ = .ok ss τ1 → ss.length = n) : ∀ σ H Q, tE (jx X W) (eCall mf mr) σ H Q → tCallS (SpOf ⟨X.K, X.mg⟩ false n mf) (WE W) (tR (jx X W) mr) σ H Q := fun σ H Q ⟨ρ, τ, A, F0, F, Z, w, s, q⟩ =>
  ⟨ρ, τ, A, F0, F, Z, w, s, call_at hl w s q⟩
theorem callF_at {n : Nat} (hl : ∀ ρ τ ss τ1, mr ρ τ = .ok ss τ1 → ss.length = n) {σ : L2.St} {H : Hp} {Q : VK} {ρ : Rho} {τ : Tau} {A : List Addr} {F0 F Z : Hp} (w : Wd (jx X W).k A F τ H Z) (s : Sl (jx X W).k A F0 F ρ σ Z)
    (q : AfterF (jx X W) A F0 F ρ σ Z (eCall mf mr ρ τ) Q) : After (jx X W) A F0 F ρ σ Z (mr ρ τ) fun ss _ H' Z' => ∀ vs, ArgRel (jx X W).k A Z' ss vs → SpOf ⟨X.K, X.mg⟩ true n mf vs H' Q (WE W σ) := by
  unfold eCall at q
  cases hmr : mr ρ τ with
  | bad => rw [hmr] at q; exact q.elim
  | exc y τ1 => rw [hmr] at q; exact q
  | ok ss τ1 =>
    rw [hmr] at q
    intro H1 Z1 w1 e1 vs rv
    have lv := rv.len
    have q : AfterF (jx X W) A F0 F ρ σ Z (if noIo ss = true then (match mf ss [] with | .ok d _ => .ok d τ1 | .exc e _ => .exc e τ1 | .bad => .bad) else .bad) Q := q
    cases hn : noIo ss with
    | false => rw [hn] at q; exact q.elim
    | true =>
      rw [hn] at q
      refine ⟨by rw [← lv]; exact hl _ _ _ _ hmr, ss, [], [], _, Z1, w1.pure0, (rv.noA hn).sl, ?_⟩
      cases hf : mf ss [] with
      | bad => rw [hf] at q; exact q
      | ok d τ2 =>
        rw [hf] at q
        intro H2 Z2 a o fa na w2 e2 ho
        have : τ2 = [] := by
          have := w2.len
          cases τ2 with
          | nil => rfl
          | cons _ _ => cases this
        subst this
        have w3 : Wd (jx X W).k A F τ1 H2 Z2 := w1.after0 w2 (same_new fa) e2
        have fa' : F a = none := none_of_same (pure0_F w1) fa
        have aA : a ∉ A := fun ha => by
          obtain ⟨u, hu, pu⟩ := w1.a_pl ha
          rw [hidF_iff.mpr ⟨(w1.out a ha).1, hu, pu⟩] at fa
          cases fa
        refine q H2 Z2 a o fa' aA ⟨w3.zh, fun b u hb => ?_, fun b => ?_, w3.len, w3.io, fun b hb => ?_, w3.nd, w3.tabs, fun b u hb => ?_, nt_upd w3.nt ho.nt, w1.gr0 w2 (same_new fa) e2 fun b u f hb => by rw [upd_ne (ne_of_none hb fa)]; exact f⟩ (e1.trans e2) ho
        rotate_right
        · rcases hb with hb | hb
          · exact w3.pl b u (.inl hb)
          · by_cases h : b = a
            · subst h; exact w2.pl b u (.inr (by rw [upd_same] at hb ⊢; exact hb))
            · rw [upd_ne h] at hb; exact w3.pl b u (.inr hb)
        · by_cases h : b = a
          · subst h
            rw [upd_same] at hb
            exact w2.fh b u (by rw [upd_same]; exact hb)
          · rw [upd_ne h] at hb; exact w3.fh b u hb
        · by_cases h : b = a
          · subst h
            refine .inr ((w2.zf b).resolve_left fun z => ?_)
            rw [upd_same] at z
            cases z
          · rw [upd_ne h]; exact w3.zf b
        · refine ⟨(w3.out b hb).1, ?_⟩
          rw [upd_ne (fun z => aA (by rw [← z]; exact hb))]
          exact (w3.out b hb).2
      | exc y τ2 =>
        rw [hf] at q
        intro cls dx H2 Z2 w2 e2 rx
        have : τ2 = [] := by
          have := w2.len
          cases τ2 with
          | nil => rfl
          | cons _ _ => cases this
        subst this
        have w3 := w1.after0 w2 (Same.refl _) e2
        obtain ⟨C, d, us, h1, h2, h3, h4, h5, h6, h7, h8⟩ := rx
        exact q cls dx H2 Z2 w3 (e1.trans e2) ⟨C, d, us, h1, h2, h3, h4, h5, h6, none_of_same (pure0_F w1) h7, h8⟩ (s.mono (e1.trans e2))
theorem callF_ok {n : Nat} (hl : ∀ ρ τ ss τ1, mr ρ τ = .ok ss τ1 → ss.length = n) : ∀ σ H Q, tF (jx X W) (eCall mf mr) σ H Q → tCallS (SpOf ⟨X.K, X.mg⟩ true n mf) (WE W) (tR (jx X W) mr) σ H Q := fun σ H Q ⟨ρ, τ, A, F0, F, Z, w, s, q⟩ =>
  ⟨ρ, τ, A, F0, F, Z, w, s, callF_at hl w s q⟩
theorem callIo_ok {n : Nat} (hl : ∀ ρ τ ss τ1, mr ρ τ = .ok ss τ1 → ss.length = n) : ∀ σ H Q, tE (jx X W) (eCallIo mf mr) σ H Q → tCallS (SpOf ⟨X.K, X.mg⟩ false n mf) (WE W) (tR (jx X W) mr) σ H Q := fun σ H Q ⟨ρ, τ, A, F0, F, Z, w, s, q⟩ => by
  refine ⟨ρ, τ, A, F0, F, Z, w, s, ?_⟩
  unfold eCallIo at q
  cases hmr : mr ρ τ with
  | bad => rw [hmr] at q; exact q.elim
  | exc y τ1 => rw [hmr] at q; exact q
  | ok ss τ1 =>
    rw [hmr] at q
    intro H1 Z1 w1 e1 vs rv
    have lv := rv.len
    have q : After (jx X W) A F0 F ρ σ Z (mf ss τ1) fun d _ H' Z' => ∀ v, Rep (jx X W).k Z' d v → Q v H' := q
    refine ⟨by rw [← lv]; exact hl _ _ _ _ hmr, ss, τ1, A, F, Z1, w1, rv.sl, ?_⟩
    cases hf : mf ss τ1 with
    | bad => rw [hf] at q; exact q
    | ok d τ2 =>
      rw [hf] at q
      exact fun H2 Z2 v w2 e2 rv2 => q H2 Z2 w2 (e1.trans e2) v rv2
    | exc y τ2 =>
      rw [hf] at q
      intro cls dx H2 Z2 w2 e2 rx
      obtain ⟨C, d, us, h1, h2, h3, h4, h5, h6, h7, h8⟩ := rx
      exact q cls dx H2 Z2 w2 (e1.trans e2) ⟨C, d, us, h1, h2, h3, h4, h5, h6, h7, h8⟩ (s.mono (e1.trans e2))
theorem len_rNil : ∀ ρ τ ss τ1, rNil ρ τ = .ok ss τ1 → ss.length = 0 := fun ρ τ ss τ1 h => by cases h; rfl
theorem len_rCons {a : SE} {r : SR} {n : Nat} (h : ∀ ρ τ ss τ1, r ρ τ = .ok ss τ1 → ss.length = n) : ∀ ρ τ ss τ1, rCons a r ρ τ = .ok ss τ1 → ss.length = n + 1 := fun ρ τ ss τ1 e => by
  obtain ⟨x, τ2, h1, e⟩ := bind_ok e
  obtain ⟨xs, τ3, h2, e⟩ := bind_ok e
  cases e
  rw [List.length_cons, h _ _ _ _ h2]
theorem len_rIo {i : Nat} {r : SR} {n : Nat} (h : ∀ ρ τ ss τ1, r ρ τ = .ok ss τ1 → ss.length = n) : ∀ ρ τ ss τ1, rIo i r ρ τ = .ok ss τ1 → ss.length = n + 1 := fun ρ τ ss τ1 e => by
  unfold rIo at e
  split at e
  · obtain ⟨xs, τ3, h2, e⟩ := bind_ok e
    cases e
    rw [List.length_cons, h _ _ _ _ h2]
  · cases e
theorem ev_call (G : FnOk X.prog X.w X.K X.mg X.base (Hw.CX X.prog X.w) k f fd ps (SpOf ⟨X.K, X.mg⟩ false ps.length mf)) (hr : Room k X.A) (hm : X.mg x = some (.ref f)) (hk : PySem.W.keepIn X.K (.ref f) = true) (hb : Binds X.K fd ps []) (tk : Takes X W) (hl : ∀ ρ τ ss τ1, mr ρ τ = .ok ss τ1 → ss.length = ps.length)
    (ha : ER X W (e :: es) mr) (hg : Gl X x := by rfl) (hdb : (x == ("__debug__" : Str)) = false := by decide) (he : starEach (e :: es) X.env = (false, eval e X.env) :: starEach es X.env := by rfl) (hpl : (backTo pos (starEach es X.env)).any (·.1) = false := by rfl) :
    EV X W (.Call (.Name x p) (e :: es) [] pos) (eCall mf mr) := pe_weak (pe_callS G hr hg hm hk hb (fun σ => passAt tk σ) ha hdb he hpl) (call_ok hl)
theorem ef_call (G : FnOk X.prog X.w X.K X.mg X.base (Hw.CX X.prog X.w) k f fd ps (SpOf ⟨X.K, X.mg⟩ true ps.length mf)) (hr : Room k X.A) (hm : X.mg x = some (.ref f)) (hk : PySem.W.keepIn X.K (.ref f) = true) (hb : Binds X.K fd ps []) (tk : Takes X W) (hl : ∀ ρ τ ss τ1, mr ρ τ = .ok ss τ1 → ss.length = ps.length)
    (ha : ER X W (e :: es) mr) (hg : Gl X x := by rfl) (hdb : (x == ("__debug__" : Str)) = false := by decide) (he : starEach (e :: es) X.env = (false, eval e X.env) :: starEach es X.env := by rfl) (hpl : (backTo pos (starEach es X.env)).any (·.1) = false := by rfl) :
    EF X W (.Call (.Name x p) (e :: es) [] pos) (eCall mf mr) := pe_weak (pe_callS G hr hg hm hk hb (fun σ => passAt tk σ) ha hdb he hpl) (callF_ok hl)
theorem ev_callIo (G : FnOk X.prog X.w X.K X.mg X.base (Hw.CX X.prog X.w) k f fd ps (SpOf ⟨X.K, X.mg⟩ false ps.length mf)) (hr : Room k X.A) (hm : X.mg x = some (.ref f)) (hk : PySem.W.keepIn X.K (.ref f) = true) (hb : Binds X.K fd ps []) (tk : Takes X W) (hl : ∀ ρ τ ss τ1, mr ρ τ = .ok ss τ1 → ss.length = ps.length)
    (ha : ER X W (e :: es) mr) (hg : Gl X x := by rfl) (hdb : (x == ("__debug__" : Str)) = false := by decide) (he : starEach (e :: es) X.env = (false, eval e X.env) :: starEach es X.env := by rfl) (hpl : (backTo pos (starEach es X.env)).any (·.1) = false := by rfl) :
    EV X W (.Call (.Name x p) (e :: es) [] pos) (eCallIo mf mr) := pe_weak (pe_callS G hr hg hm hk hb (fun σ => passAt tk σ) ha hdb he hpl) (callIo_ok hl)
end
end Hw
namespace Hw
open PySem PySem.Spec L2
variable [Tb]
open PyProof.Rows (envOfC)
def SpInit (K : PySem.W.Frag) (C : Addr) (n : Nat) (fs : List V → List (Str × V)) : Sp := fun vs H Q _ => vs.length = n + 1 ∧ ∃ a rest, vs = V.ref a :: rest ∧ OexC K C ∧ H a = some (exo a C none) ∧
  ∀ d H', H d = none → d ≠ a → (∀ b, b ≠ a → b ≠ d → H' b = H b) → H' a = some (exo a C (some d)) → H' d = some (exd d (fs rest)) → Q .non H'
section
variable {P : Program} {w : World} {K : PySem.W.Frag} {mg : Str → Option Value} {base : Heap} {CX : CXT} {C f : Addr} {fd : FuncData} {st : Stmt} {qual tag : Str} {j : Nat} {p1 p2 p3 p4 q1 q2 q3 q4 r1 r2 r3 r4 : Pos}
theorem ok_init0 (F : Fun K "__init__" qual st f fd) (S : FnScope ["self"] ["self"] (defScope st)) (hb : defBody st = [.Assign [.Attribute (.Name "self" p1) "tag" p2] (.Constant (.str tag) j p3) p4])
    (hv : Vis (defScope st) "self") (n1 : PySem.W.findIn K (.ref C) "tag" = some none) : FnOk P w K mg base CX0 1 f fd ["self"] (SpInit K C 0 fun _ => [("tag", .str tag)]) := by
  refine F.ok S (fun vs H Q E h => h.1) (fun cdv A outer s H vs Q E hr h => ?_)
  obtain ⟨hl, a, rest, rfl, T, ha, q⟩ := h
  rw [hb]
  refine ⟨_, pss_one (ps_ost (pe_var (i := 0) rfl hv) pe_str), ?_⟩
  refine ⟨.ref a, rfl, a, C, rfl, T, n1, .inl ⟨ha, fun d hd hda => ?_⟩⟩
  refine q d _ hd hda (fun b h1 h2 => by rw [upd_ne h1, upd_ne h2]) upd_same (by rw [upd_ne hda, upd_same])
theorem ok_init1 {p : Str} (F : Fun K "__init__" qual st f fd) (S : FnScope ["self", p] ["self", p] (defScope st)) (hb : defBody st = [.Assign [.Attribute (.Name "self" p1) "tag" p2] (.Constant (.str tag) j p3) p4, .Assign [.Attribute (.Name "self" q1) p q2] (.Name p q3) q4])
    (hv : Vis (defScope st) "self") (hp : Vis (defScope st) p) (hd1 : (p == ("__debug__" : Str)) = false) (hd2 : (p == ("__classdict__" : Str)) = false) (n1 : PySem.W.findIn K (.ref C) "tag" = some none) (n2 : PySem.W.findIn K (.ref C) p = some none) :
    FnOk P w K mg base CX0 1 f fd ["self", p] (SpInit K C 1 fun r => [(p, r.getD 0 .non), ("tag", .str tag)]) := by
  refine F.ok S (fun vs H Q E h => h.1) (fun cdv A outer s H vs Q E hr h => ?_)
  obtain ⟨hl, a, rest, rfl, T, ha, q⟩ := h
  obtain ⟨v, rfl⟩ : ∃ v, rest = [v] := by
    match rest, hl with
    | [v], _ => exact ⟨v, rfl⟩
  rw [hb]
  refine ⟨_, pss_cons (ps_ost (pe_var (i := 0) rfl hv) pe_str) (pss_one (ps_ost (pe_var (i := 0) rfl hv) (pe_var (i := 1) rfl hp hd1 hd2))), ?_⟩
  refine ⟨.ref a, rfl, a, C, rfl, T, n1, .inl ⟨ha, fun d hd hda => ?_⟩⟩
  refine ⟨v, rfl, .ref a, rfl, a, C, rfl, T, n2, .inr ⟨d, [("tag", .str tag)], upd_same, by rw [upd_ne hda, upd_same], by simp, ?_⟩⟩
  refine q d _ hd hda (fun b h1 h2 => by rw [upd_ne h2, upd_ne h1, upd_ne h2]) (by rw [upd_ne (Ne.symm hda), upd_same]) upd_same
theorem ok_init2 {p p' : Str} (F : Fun K "__init__" qual st f fd) (S : FnScope ["self", p, p'] ["self", p, p'] (defScope st)) (hb : defBody st = [.Assign [.Attribute (.Name "self" p1) "tag" p2] (.Constant (.str tag) j p3) p4, .Assign [.Attribute (.Name "self" q1) p q2] (.Name p q3) q4, .Assign [.Attribute (.Name "self" r1) p' r2] (.Name p' r3) r4])
    (hv : Vis (defScope st) "self") (hp : Vis (defScope st) p) (hp' : Vis (defScope st) p') (hd1 : (p == ("__debug__" : Str)) = false) (hd2 : (p == ("__classdict__" : Str)) = false) (hd3 : (p' == ("__debug__" : Str)) = false) (hd4 : (p' == ("__classdict__" : Str)) = false)
    (n1 : PySem.W.findIn K (.ref C) "tag" = some none) (n2 : PySem.W.findIn K (.ref C) p = some none) (n3 : PySem.W.findIn K (.ref C) p' = some none) :
    FnOk P w K mg base CX0 1 f fd ["self", p, p'] (SpInit K C 2 fun r => [(p', r.getD 1 .non), (p, r.getD 0 .non), ("tag", .str tag)]) := by
  refine F.ok S (fun vs H Q E h => h.1) (fun cdv A outer s H vs Q E hr h => ?_)
  obtain ⟨hl, a, rest, rfl, T, ha, q⟩ := h
  obtain ⟨v, u, rfl⟩ : ∃ v u, rest = [v, u] := by
    match rest, hl with
    | [v, u], _ => exact ⟨v, u, rfl⟩
  rw [hb]
  refine ⟨_, pss_cons (ps_ost (pe_var (i := 0) rfl hv) pe_str) (pss_cons (ps_ost (pe_var (i := 0) rfl hv) (pe_var (i := 1) rfl hp hd1 hd2)) (pss_one (ps_ost (pe_var (i := 0) rfl hv) (pe_var (i := 2) rfl hp' hd3 hd4)))), ?_⟩
  refine ⟨.ref a, rfl, a, C, rfl, T, n1, .inl ⟨ha, fun d hd hda => ?_⟩⟩
  refine ⟨v, rfl, .ref a, rfl, a, C, rfl, T, n2, .inr ⟨d, [("tag", .str tag)], upd_same, by rw [upd_ne hda, upd_same], by simp, ?_⟩⟩
  refine ⟨u, rfl, .ref a, rfl, a, C, rfl, T, n3, .inr ⟨d, [(p, v), ("tag", .str tag)], by rw [upd_ne (Ne.symm hda), upd_same], upd_same, by simp, ?_⟩⟩
  refine q d _ hd hda (fun b h1 h2 => by rw [upd_ne h2, upd_ne h2, upd_ne h1, upd_ne h2]) (by rw [upd_ne (Ne.symm hda), upd_ne (Ne.symm hda), upd_same]) upd_same
end
section
variable {X : Cx} {e : Expr} {es : List Expr} {ta : TA} {p pos : Pos}
end
def sRaise (c : Str) (n : Nat) (fs : List Str) (vals : List D → List D) (m : SA) : SS := fun ρ τ => (m ρ τ).andS ρ fun ds τ1 => if ds.length = n then .exc ⟨c, fs, vals ds⟩ ρ τ1 else .bad
def StoreD (n : Nat) (fsV : List V → List (Str × V)) (fs : List Str) (vals : List D → List D) : Prop := ∀ (k : Kx) (Z : Hp) (ds : List D) (vs : List V), ds.length = n → Reps k Z ds vs → ∃ us, fsV vs = fs.zip us ∧ fs.length = us.length ∧ Reps k Z (vals ds) us
theorem store0 {tag : Str} : StoreD 0 (fun _ => [("tag", V.str tag)]) ["tag"] fun _ => [.str tag] := fun k Z ds vs hl h =>
  ⟨[.str tag], rfl, rfl, Reps.cons (rep_str.mpr rfl) Reps.nil⟩
theorem store1 {tag p : Str} : StoreD 1 (fun r => [(p, r.getD 0 .non), ("tag", V.str tag)]) [p, "tag"] fun ds => [ds.getD 0 .non, .str tag] := fun k Z ds vs hl h => by
  match ds, hl with
  | [d], _ =>
    obtain ⟨v, r, rfl, h1, h2⟩ := reps_cons.mp h
    rw [reps_nil] at h2
    subst h2
    exact ⟨[v, .str tag], rfl, rfl, Reps.cons h1 (Reps.cons (rep_str.mpr rfl) Reps.nil)⟩
theorem store2 {tag p p' : Str} : StoreD 2 (fun r => [(p', r.getD 1 .non), (p, r.getD 0 .non), ("tag", V.str tag)]) [p', p, "tag"] fun ds => [ds.getD 1 .non, ds.getD 0 .non, .str tag] := fun k Z ds vs hl h => by
  match ds, hl with
  | [d, e], _ =>
    obtain ⟨v, r, rfl, h1, h2⟩ := reps_cons.mp h
    obtain ⟨u, r', rfl, h3, h4⟩ := reps_cons.mp h2
    rw [reps_nil] at h4
    subst h4
    exact ⟨[u, v, .str tag], rfl, rfl, Reps.cons h3 (Reps.cons h1 (Reps.cons (rep_str.mpr rfl) Reps.nil))⟩
section
variable {X : Cx} {W : WX} {r : Rk} {e : Expr} {es : List Expr} {m : SA} {C fI : Addr} {fd : FuncData} {ps : List Str} {k n : Nat} {x : Str} {p pos pos' : Pos} {fsV : List V → List (Str × V)} {fs : List Str} {vals : List D → List D} {CX : CXT}
end
end Hw
namespace Hw
open PySem PySem.Spec L2
variable [Tb]
theorem OpR.or {X : Cx} {f : Value → Value → Sem Value} {r r' : R2} (h : OpR X f r) (h' : OpR X f r') : OpR X f (fun x y H Q => r x y H Q ∨ r' x y H Q) := by
  intro pins s σ H x y v u Q I rx ry q
  rcases q with q | q
  · exact h pins s σ H x y v u Q I rx ry q
  · exact h' pins s σ H x y v u Q I rx ry q
theorem CallR.or {X : Cx} {f : Value} {r r' : RC} (h : CallR X f r) (h' : CallR X f r') : CallR X f (fun x H Q => r x H Q ∨ r' x H Q) := by
  intro pins s σ H x u Q I rx q
  rcases q with q | q
  · exact h pins s σ H x u Q I rx q
  · exact h' pins s σ H x u Q I rx q
theorem NewQ.int {k : Kx} {Z H : Hp} {i : Int} {Q : VK} (h : NewQ k Z H (.int i) Q) : Q (.int i) H := h.1 _ (rep_int.mpr rfl)
theorem NewQ.bl {k : Kx} {Z H : Hp} {i : Bool} {Q : VK} (h : NewQ k Z H (.bl i) Q) : Q (.bl i) H := h.1 _ (rep_bl.mpr rfl)
theorem NewQ.str {k : Kx} {Z H : Hp} {i : Str} {Q : VK} (h : NewQ k Z H (.str i) Q) : Q (.str i) H := h.1 _ (rep_str.mpr rfl)
theorem NewQ.non {k : Kx} {Z H : Hp} {Q : VK} (h : NewQ k Z H .non Q) : Q .non H := h.1 _ (rep_non.mpr rfl)
theorem NewQ.tup {k : Kx} {Z H : Hp} {ds : List D} {vs : List V} {Q : VK} (h : NewQ k Z H (.tup ds) Q) (r : Reps k Z ds vs) {p : Addr} (hp : H p = none) (e : Same Z H) : Q (.ref p) (upd H p (.tup vs)) :=
  h.2 p _ rfl hp (none_of_same e hp) (rep_tup.mpr ⟨p, vs, rfl, upd_same, r.mono (same_new (none_of_same e hp))⟩)
theorem NewQ.lst {k : Kx} {Z H : Hp} {ds : List D} {vs : List V} {Q : VK} (h : NewQ k Z H (.lst ds) Q) (r : Reps k Z ds vs) {p : Addr} (hp : H p = none) (e : Same Z H) : Q (.ref p) (upd H p (.lst vs)) :=
  h.2 p _ rfl hp (none_of_same e hp) (rep_lst.mpr ⟨p, vs, rfl, upd_same, r.mono (same_new (none_of_same e hp))⟩)
def dInt (f : Int → Int → Option Int) : D → D → Option D
  | .int i, .int j => (f i j).map .int
  | _, _ => none
theorem opd_rI {k : Kx} {C : Int → Int → Prop} {g : Int → Int → Int} {f : Int → Int → Option Int} (h : ∀ i j z, f i j = some z → C i j ∧ g i j = z) : OpD k (rI C fun i j => .int (g i j)) (dInt f) := fun {F Z H x y d e z Q} eZ eF hx hy he q => by
  unfold dInt at he
  split at he
  · rename_i i j
    obtain ⟨w, hw, hz⟩ := Option.map_eq_some_iff.mp he
    subst hz
    obtain ⟨hC, rfl⟩ := h i j w hw
    exact ⟨i, j, hx.int, hy.int, hC, q.int⟩
  · cases he
def dSub : D → D → Option D := dInt fun i j => some (i - j)
def dFdiv : D → D → Option D := dInt fun i j => if 0 < j ∧ j.natAbs.log2 < 9000 then some (i / j) else none
def dMod : D → D → Option D := dInt fun i j => if 0 < j then some (i % j) else none
def dPow : D → D → Option D := dInt fun i j => if 0 ≤ j ∧ j ≤ 1000000 ∧ i.natAbs < 2 ^ 64 then some (i ^ j.toNat) else none
section
variable {X : Cx} {k : Kx}
theorem opd_sub : OpD k (rI0 fun i j => .int (i - j)) dSub := fun {F Z H x y d e z Q} eZ eF hx hy he q => by
  unfold dSub dInt at he
  split at he
  · rename_i i j
    cases he
    exact ⟨i, j, hx.int, hy.int, q.int⟩
  · cases he
theorem opd_fdiv : OpD k (rI CDivW fun i j => .int (i / j)) dFdiv := opd_rI (g := fun i j => i / j) fun i j z h => by
  split at h
  · rename_i hc
    cases h
    exact ⟨hc, rfl⟩
  · cases h
theorem opd_mod : OpD k (rI (fun _ j => j ≠ 0) fun i j => .int (i.fmod j)) dMod := opd_rI (g := fun i j => i.fmod j) fun i j z h => by
  split at h
  · rename_i hc
    cases h
    exact ⟨by omega, Int.fmod_eq_emod_of_nonneg _ (by omega)⟩
  · cases h
theorem opd_pow : OpD k (rI CPow fun i j => .int (i ^ j.toNat)) dPow := opd_rI (g := fun i j => i ^ j.toNat) fun i j z h => by
  split at h
  · rename_i hc
    cases h
    exact ⟨hc, rfl⟩
  · cases h
def dAdd : D → D → Option D
  | .int i, .int j => some (.int (i + j))
  | .str x, .str y => if x.length + y.length ≤ sizeLine then some (.str (x ++ y)) else none
  | .lst a, .lst b => if a.length + b.length ≤ sizeLine then some (.lst (a ++ b)) else none
  | .tup a, .tup b => if a.length + b.length ≤ sizeLine then some (.tup (a ++ b)) else none
  | _, _ => none
def rAddA (K : PySem.W.Frag) : R2 := fun x y H Q => (rI0 fun i j => .int (i + j)) x y H Q ∨ (∃ i j, x = .str i ∧ y = .str j ∧ i.length + j.length ≤ sizeLine ∧ Q (.str (i ++ j)) H) ∨ rCat x y H Q ∨ rCatA K x y H Q
theorem op_addA : OpR X (binaryOp .Add) (rAddA X.K) := OpR.or op_add (OpR.or op_add_str (OpR.or op_cat op_catA))
theorem Reps.nil_of {k : Kx} {Z : Hp} {ds : List D} {vs : List V} (h : Reps k Z ds vs) (e : vs = []) : ds = [] := by
  subst e
  have := h.length
  exact List.length_eq_zero_iff.mp this
theorem opd_add : OpD k (rAddA k.K) dAdd := fun {F Z H x y d e z Q} eZ eF hx hy he q => by
  unfold dAdd at he
  split at he
  · rename_i i j
    cases he
    exact .inl ⟨i, j, hx.int, hy.int, q.int⟩
  · rename_i i j
    split at he
    · rename_i hl
      cases he
      exact .inr (.inl ⟨i, j, hx.str, hy.str, hl, q.str⟩)
    · cases he
  · rename_i a b
    split at he
    · rename_i hl
      cases he
      obtain ⟨p, vs, h1, h2, h3⟩ := hx.lst eZ eF
      obtain ⟨p', vs', h1', h2', h3'⟩ := hy.lst eZ eF
      exact .inr (.inr (.inl ⟨p, p', vs, vs', h1, h1', h2, h2', by rw [← h3.length, ← h3'.length]; exact hl, fun n hn => q.lst (h3.append h3') hn eZ⟩))
    · cases he
  · rename_i a b
    split at he
    · rename_i hl
      cases he
      obtain ⟨p, vs, h1, h2, h3⟩ := hx.tup eZ
      obtain ⟨p', vs', h1', h2', h3'⟩ := hy.tup eZ
      refine .inr (.inr (.inr ⟨p, p', vs, vs', h1, h1', SqT.of h2, SqT.of h2', by rw [← h3.length, ← h3'.length]; exact hl, ?_⟩))
      have hv : ∀ v, x = v → Rep k Z (.tup a) v := fun v e => by
        rcases hx with r | ⟨_, _, _, _, r⟩
        · rw [← e]; exact r
        · exact r.elim
      have hv' : ∀ v, y = v → Rep k Z (.tup b) v := fun v e => by
        rcases hy with r | ⟨_, _, _, _, r⟩
        · rw [← e]; exact r
        · exact r.elim
      first
        | refine ⟨fun z1 => ?_, fun z1 => ⟨fun z2 => ?_, fun z2 => ?_⟩⟩
        | refine ⟨fun z1 => ?_, fun z1 z2 => ?_, fun z1 z2 n hn => ?_⟩
      · have ea := h3.nil_of z1
        subst ea
        exact q.1 _ (hv' _ h1')
      · have eb := h3'.nil_of z2
        subst eb
        rw [List.append_nil] at q
        exact q.1 _ (hv _ h1)
      · exact q.tup (h3.append h3') hn eZ
    · cases he
  · cases he
end
end Hw
namespace Hw
open PySem PySem.Spec L2
variable [Tb]
section
variable {X : Cx} {k : Kx}
def dMul : D → D → Option D
  | .int i, .int j => if ((-(2 ^ 64) < i ∧ i < 2 ^ 64) ∨ (-(2 ^ 64) < j ∧ j < 2 ^ 64)) ∨ i.natAbs.log2 + j.natAbs.log2 < 1000000 then some (.int (i * j)) else none
  | .lst a, .int j => if -(2 ^ 63) ≤ j ∧ j < 2 ^ 63 ∧ a.length * j.toNat ≤ sizeLine then some (.lst (List.replicate j.toNat a).flatten) else none
  | _, _ => none
def rMulA : R2 := fun x y H Q => (rI CMul fun i j => .int (i * j)) x y H Q ∨ (rI CMulW fun i j => .int (i * j)) x y H Q ∨ rRep x y H Q
theorem op_mulA : OpR X (binaryOp .Mult) rMulA := OpR.or op_mul (OpR.or op_mulW op_rep)
theorem reps_rep {Z : Hp} {ds : List D} {vs : List V} (h : Reps k Z ds vs) : ∀ n : Nat, Reps k Z (List.replicate n ds).flatten (List.replicate n vs).flatten
  | 0 => Reps.nil
  | n + 1 => by
    rw [List.replicate_succ, List.replicate_succ, List.flatten_cons, List.flatten_cons]
    exact h.append (reps_rep h n)
theorem opd_mul : OpD k rMulA dMul := fun {F Z H x y d e z Q} eZ eF hx hy he q => by
  unfold dMul at he
  split at he
  · rename_i i j
    split at he
    · rename_i hc
      cases he
      rcases hc with hc | hc
      · exact .inl ⟨i, j, hx.int, hy.int, hc, q.int⟩
      · exact .inr (.inl ⟨i, j, hx.int, hy.int, hc, q.int⟩)
    · cases he
  · rename_i a j
    split at he
    · rename_i hc
      cases he
      obtain ⟨p, vs, h1, h2, h3⟩ := hx.lst eZ eF
      exact .inr (.inr ⟨p, j, vs, h1, hy.int, h2, hc.1, hc.2.1, by rw [← h3.length]; exact hc.2.2, fun n hn => q.lst (reps_rep h3 _) hn eZ⟩)
    · cases he
  · cases he
def dNeg : D → Option D
  | .int i => some (.int (-i))
  | _ => none
def dCmp (p : Int → Int → Bool) : D → D → Option D
  | .int i, .int j => some (.bl (p i j))
  | _, _ => none
theorem opd_cmp {p : Int → Int → Bool} : OpD k (rI0 fun i j => .bl (p i j)) (dCmp p) := fun {F Z H x y d e z Q} eZ eF hx hy he q => by
  unfold dCmp at he
  split at he
  · rename_i i j
    cases he
    exact ⟨i, j, hx.int, hy.int, q.bl⟩
  · cases he
abbrev dLt : D → D → Option D := dCmp fun i j => decide (i < j)
abbrev dLe : D → D → Option D := dCmp fun i j => decide (i ≤ j)
abbrev dGt : D → D → Option D := dCmp fun i j => decide (j < i)
abbrev dGe : D → D → Option D := dCmp fun i j => decide (j ≤ i)
theorem op_gtV : OpR X (compareOp .Gt) (rI0 fun i j => .bl (decide (j < i))) := op_gt
theorem op_geV : OpR X (compareOp .GtE) (rI0 fun i j => .bl (decide (j ≤ i))) := op_ge
def dIsN : D → D → Option D
  | .non, .non => some (.bl true)
  | _, .non => some (.bl false)
  | _, _ => none
def dNotN : D → D → Option D
  | .non, .non => some (.bl false)
  | _, .non => some (.bl true)
  | _, _ => none
theorem repB_non_iff {F Z : Hp} {d : D} {x : V} (h : RepB k F Z d x) (hd : d ≠ .non) : x ≠ .non := fun e => by
  subst e
  rcases h with h | ⟨a, o, h1, _⟩
  · cases d with
    | non => exact hd rfl
    | bl _ => cases rep_bl.mp h
    | int _ => cases rep_int.mp h
    | str _ => cases rep_str.mp h
    | lst _ => obtain ⟨_, _, e, _⟩ := rep_lst.mp h; cases e
    | tup _ => obtain ⟨_, _, e, _⟩ := rep_tup.mp h; cases e
    | dct _ _ _ => obtain ⟨_, _, _, e, _⟩ := rep_dct.mp h; cases e
    | ins _ _ _ => obtain ⟨_, _, _, _, e, _⟩ := rep_ins.mp h; cases e
    | scr _ => obtain ⟨_, e, _⟩ := rep_scr.mp h; cases e
    | ctup _ => obtain ⟨_, e, _⟩ := rep_ctup.mp h; cases e
    | nst _ _ => obtain ⟨_, _, _, _, _, e, _⟩ := rep_nst.mp h; cases e
    | grp _ _ _ => obtain ⟨_, e⟩ := rep_grp.mp h; cases e
    | exn _ _ _ => obtain ⟨_, _, _, _, e, _⟩ := rep_exn.mp h; cases e
    | xtp _ => obtain ⟨_, _, _, e, _⟩ := rep_xtp.mp h; cases e
  · cases h1
theorem opd_isN : OpD k (fun x y H Q => y = .non ∧ Q (.bl (decide (x = .non))) H) dIsN := fun {F Z H x y d e z Q} eZ eF hx hy he q => by
  unfold dIsN at he
  split at he
  · cases he
    refine ⟨hy.non, ?_⟩
    rw [hx.non]
    exact q.bl
  · rename_i hne
    cases he
    refine ⟨hy.non, ?_⟩
    rw [decide_eq_false (repB_non_iff hx fun z => hne z)]
    exact q.bl
  · cases he
mutual
def isPd : D → Bool
  | .non => true | .bl _ => true | .int _ => true | .str _ => true
  | .lst ds => isPds ds | .tup ds => isPds ds
  | _ => false
def isPds : List D → Bool
  | [] => true
  | d :: ds => isPd d && isPds ds
end
mutual
def pd : D → PyData
  | .non => .none | .bl b => .bool b | .int i => .int i | .str x => .str x
  | .lst ds => .list (pds ds) | .tup ds => .tuple (pds ds)
  | _ => .none
def pds : List D → List PyData
  | [] => []
  | d :: ds => pd d :: pds ds
end
mutual
theorem dp_of {Z H : Hp} (e : Same Z H) : ∀ (d : D) (v : V), isPd d = true → Rep k Z d v → Dp k.K H v (pd d)
  | .non, v, _, h => by rw [rep_non.mp h]; unfold pd; exact .non
  | .bl b, v, _, h => by rw [rep_bl.mp h]; unfold pd; exact .bl b
  | .int i, v, _, h => by rw [rep_int.mp h]; unfold pd; exact .int i
  | .str x, v, _, h => by rw [rep_str.mp h]; unfold pd; exact .str x
  | .lst ds, v, p, h => by
    obtain ⟨a, vs, rfl, h2, h3⟩ := rep_lst.mp h
    unfold pd
    exact .lst (SqL.of (e _ _ h2)) (dps_of e ds vs (by unfold isPd at p; exact p) h3)
  | .tup ds, v, p, h => by
    obtain ⟨a, vs, rfl, h2, h3⟩ := rep_tup.mp h
    unfold pd
    exact .tup (SqT.of (e _ _ h2)) (dps_of e ds vs (by unfold isPd at p; exact p) h3)
  | .dct _ _ _, _, p, _ => by unfold isPd at p; cases p
  | .ins _ _ _, _, p, _ => by unfold isPd at p; cases p
  | .scr _, _, p, _ => by unfold isPd at p; cases p
  | .ctup _, _, p, _ => by unfold isPd at p; cases p
  | .nst _ _, _, p, _ => by unfold isPd at p; cases p
  | .grp _ _ _, _, p, _ => by unfold isPd at p; cases p
  | .exn _ _ _, _, p, _ => by unfold isPd at p; cases p
  | .xtp _, _, p, _ => by unfold isPd at p; cases p
theorem dps_of {Z H : Hp} (e : Same Z H) : ∀ (ds : List D) (vs : List V), isPds ds = true → Reps k Z ds vs → DpAll k.K H vs (pds ds)
  | [], vs, _, h => by rw [reps_nil.mp h]; unfold pds; exact .nil
  | d :: ds, vs, p, h => by
    obtain ⟨v, r, rfl, h1, h2⟩ := reps_cons.mp h
    unfold isPds at p
    rw [Bool.and_eq_true] at p
    unfold pds
    exact .cons (dp_of e d v p.1 h1) (dps_of e ds r p.2 h2)
end
theorem dpB_of {F Z H : Hp} (eZ : Same Z H) (eF : Same F H) {d : D} {v : V} (p : isPd d = true) (h : RepB k F Z d v) : Dp k.K H v (pd d) := by
  rcases h with h | ⟨a, o, h1, h2, h3⟩
  · exact dp_of eZ d v p h
  · cases d with
    | lst ds =>
      obtain ⟨vs, rfl, h4⟩ := h3
      subst h1
      unfold pd
      unfold isPd at p
      exact .lst (SqL.of (eF _ _ h2)) (dps_of eZ ds vs p h4)
    | non => exact h3.elim
    | bl _ => exact h3.elim
    | int _ => exact h3.elim
    | str _ => exact h3.elim
    | tup _ => exact h3.elim
    | dct _ _ _ => unfold isPd at p; cases p
    | ins _ _ _ => unfold isPd at p; cases p
    | scr _ => exact h3.elim
    | ctup _ => exact h3.elim
    | nst _ _ => unfold isPd at p; cases p
    | grp _ _ _ => unfold isPd at p; cases p
    | exn _ _ _ => unfold isPd at p; cases p
    | xtp _ => unfold isPd at p; cases p
def okPd (d : D) : Bool := isPd d && SeqAt.shaped (pd d)
def dEq (d e : D) : Option D := if okPd d && okPd e then some (.bl (PyData.eqv (pd d) (pd e))) else none
def dNe (d e : D) : Option D := if okPd d && okPd e then some (.bl (!PyData.eqv (pd d) (pd e))) else none
theorem okPd_two {d e : D} (h : (okPd d && okPd e) = true) : isPd d = true ∧ SeqAt.shaped (pd d) = true ∧ isPd e = true ∧ SeqAt.shaped (pd e) = true := by
  unfold okPd at h
  simp only [Bool.and_eq_true] at h
  exact ⟨h.1.1, h.1.2, h.2.1, h.2.2⟩
theorem opd_eq : OpD k (rEqD k.K) dEq := fun {F Z H x y d e z Q} eZ eF hx hy he q => by
  unfold dEq at he
  split at he
  · rename_i hc
    cases he
    obtain ⟨h1, h2, h3, h4⟩ := okPd_two hc
    exact ⟨pd d, pd e, dpB_of eZ eF h1 hx, dpB_of eZ eF h3 hy, h2, h4, q.bl⟩
  · cases he
theorem opd_ne : OpD k (rNeD k.K) dNe := fun {F Z H x y d e z Q} eZ eF hx hy he q => by
  unfold dNe at he
  split at he
  · rename_i hc
    cases he
    obtain ⟨h1, h2, h3, h4⟩ := okPd_two hc
    exact ⟨pd d, pd e, dpB_of eZ eF h1 hx, dpB_of eZ eF h3 hy, h2, h4, q.bl⟩
  · cases he
def fv : D → V
  | .bl b => .bl b | .int i => .int i | .str x => .str x
  | _ => .non
def isFl : D → Bool
  | .non => true | .bl _ => true | .int _ => true | .str _ => true
  | _ => false
theorem fv_of {F Z : Hp} {d : D} {v : V} (p : isFl d = true) (h : RepB k F Z d v) : v = fv d ∧ flatV (fv d) = true := by
  cases d with
  | non => exact ⟨h.non, rfl⟩
  | bl _ => exact ⟨h.bl, rfl⟩
  | int _ => exact ⟨h.int, rfl⟩
  | str _ => exact ⟨h.str, rfl⟩
  | lst _ => cases p
  | tup _ => cases p
  | dct _ _ _ => cases p
  | ins _ _ _ => cases p
  | scr _ => cases p
  | ctup _ => cases p
  | nst _ _ => cases p
  | grp _ _ _ => cases p
  | exn _ _ _ => cases p
  | xtp _ => cases p
theorem fvs_of {Z : Hp} : ∀ {ds : List D} {vs : List V}, ds.all isFl = true → Reps k Z ds vs → vs = ds.map fv ∧ (ds.map fv).all flatV = true
  | [], vs, _, h => by rw [reps_nil.mp h]; exact ⟨rfl, rfl⟩
  | d :: ds, vs, p, h => by
    obtain ⟨v, r, rfl, h1, h2⟩ := reps_cons.mp h
    rw [List.all_cons, Bool.and_eq_true] at p
    obtain ⟨e1, e2⟩ := fv_of (F := nopH) p.1 (.inl h1)
    obtain ⟨e3, e4⟩ := fvs_of p.2 h2
    refine ⟨by rw [e1, e3]; rfl, ?_⟩
    rw [List.map_cons, List.all_cons, e2, e4]
    rfl
def dInB (d s : D) : Option Bool := match s with
  | .lst ds => if okPd d && okPd (.lst ds) then some (ds.any fun z => PyData.eqv (pd z) (pd d)) else none
  | .tup ds => if isFl d && ds.all isFl then some (inV (fv d) (ds.map fv)) else none
  | .ctup vs => if isFl d && vs.all flatV then some (inV (fv d) vs) else none
  | .str z => match d with
    | .str x => match x.cps.toList with
      | [c] => some (decide (c ∈ z.cps.toList))
      | _ => none
    | _ => none
  | _ => none
def dIn (d s : D) : Option D := (dInB d s).map .bl
def rInA (K : PySem.W.Frag) : R2 := fun x y H Q => rInD K x y H Q ∨ rIn K false x y H Q ∨ ∃ (c : Nat) (z : Str), x = .str ⟨#[c]⟩ ∧ y = .str z ∧ Q (.bl (decide (c ∈ z.cps.toList))) H
theorem op_inA (hu : X.A.units + 65 < cLine) : OpR X (compareOp .In) (rInA X.K) := OpR.or (op_inD hu) (OpR.or op_in_seq op_in_sign)
theorem pds_any {d : D} : ∀ ds : List D, ((pds ds).any fun z => PyData.eqv z (pd d)) = ds.any fun z => PyData.eqv (pd z) (pd d)
  | [] => rfl
  | e :: ds => by
    unfold pds
    rw [List.any_cons, List.any_cons, pds_any ds]
theorem str_one {x : Str} {c : Nat} (h : x.cps.toList = [c]) : x = ⟨#[c]⟩ := by
  cases x with
  | mk a =>
    have : a = #[c] := by
      have := congrArg List.toArray h
      simpa using this
    rw [this]
theorem in_ok {F Z H : Hp} {x y : V} {d e : D} {b : Bool} {R : Bool → Prop} (eZ : Same Z H) (eF : Same F H) (hx : RepB k F Z d x) (hy : RepB k F Z e y) (he : dInB d e = some b) (q : R b) :
    (∃ d' ds, Dp k.K H x d' ∧ Dp k.K H y (.list ds) ∧ SeqAt.shaped d' = true ∧ SeqAt.shaped (.list ds) = true ∧ R (ds.any fun z => PyData.eqv z d')) ∨ (∃ p xs, y = .ref p ∧ (SqL k.K H p xs ∨ SqT k.K H p xs) ∧ flatV x = true ∧ xs.all flatV = true ∧ R (inV x xs)) ∨
      ∃ (c : Nat) (z : Str), x = .str ⟨#[c]⟩ ∧ y = .str z ∧ R (decide (c ∈ z.cps.toList)) := by
  unfold dInB at he
  split at he
  · rename_i ds
    split at he
    · rename_i hc
      cases he
      obtain ⟨h1, h2, h3, h4⟩ := okPd_two hc
      refine .inl ⟨pd d, pds ds, dpB_of eZ eF h1 hx, ?_, h2, ?_, by rw [pds_any]; exact q⟩
      · have := dpB_of eZ eF h3 hy
        unfold pd at this
        exact this
      · unfold pd at h4
        exact h4
    · cases he
  · rename_i ds
    split at he
    · rename_i hc
      cases he
      rw [Bool.and_eq_true] at hc
      obtain ⟨p, vs, h1, h2, h3⟩ := hy.tup eZ
      obtain ⟨e1, e2⟩ := fv_of hc.1 hx
      obtain ⟨e3, e4⟩ := fvs_of hc.2 h3
      exact .inr (.inl ⟨p, vs, h1, .inr (SqT.of h2), by rw [e1]; exact e2, by rw [e3]; exact e4, by rw [e1, e3]; exact q⟩)
    · cases he
  · rename_i vs
    split at he
    · rename_i hc
      cases he
      rw [Bool.and_eq_true] at hc
      obtain ⟨p, h1, h2⟩ := hy.ctup eZ
      obtain ⟨e1, e2⟩ := fv_of hc.1 hx
      exact .inr (.inl ⟨p, vs, h1, .inr h2, by rw [e1]; exact e2, hc.2, by rw [e1]; exact q⟩)
    · cases he
  · rename_i z
    split at he
    · rename_i w
      split at he
      · rename_i c hc
        cases he
        exact .inr (.inr ⟨c, z, by rw [hx.str, str_one hc], hy.str, q⟩)
      · cases he
    · cases he
  · cases he
theorem opd_in : OpD k (rInA k.K) dIn := fun {F Z H x y d e z Q} eZ eF hx hy he q => by
  obtain ⟨b, hb, rfl⟩ := Option.map_eq_some_iff.mp he
  rcases in_ok (R := fun b => Q (.bl b) H) eZ eF hx hy hb q.bl with h | ⟨p, xs, h1, h2, h3, h4, h5⟩ | h
  · exact .inl h
  · exact .inr (.inl ⟨p, xs, h1, h2, h3, h4, h5⟩)
  · exact .inr (.inr h)
def dIx : D → D → Option D
  | .lst ds, .int i => atI ds i
  | .tup ds, .int i => atI ds i
  | .str z, .int i => if z.length ≤ sizeLine then (atI z.cps.toList i).map fun c => .str ⟨#[c]⟩ else none
  | .scr ns, .int i => (atI ns i).map .int
  | _, _ => none
theorem atI_reps {Z : Hp} {ds : List D} {vs : List V} {i : Int} {d : D} (h : Reps k Z ds vs) (e : atI ds i = some d) : ∃ v, atI vs i = some v ∧ Rep k Z d v := by
  unfold atI at e ⊢
  rw [← h.length]
  cases hj : ixN ds.length i with
  | none => rw [hj] at e; cases e
  | some j =>
    rw [hj] at e
    exact h.get e
theorem atI_map {α β : Type} (f : α → β) (xs : List α) (i : Int) : atI (xs.map f) i = (atI xs i).map f := by
  unfold atI
  rw [List.length_map]
  cases ixN xs.length i with
  | none => rfl
  | some j => exact List.getElem?_map
theorem opd_ix : OpD k (rIx k.K) dIx := fun {F Z H x y d e z Q} eZ eF hx hy he q => by
  unfold dIx at he
  split at he
  · rename_i ds i
    obtain ⟨p, vs, h1, h2, h3⟩ := hx.lst eZ eF
    obtain ⟨v, h4, h5⟩ := atI_reps h3 he
    exact .inl ⟨p, vs, i, v, h1, hy.int, SqL.of h2, h4, q.1 _ h5⟩
  · rename_i ds i
    obtain ⟨p, vs, h1, h2, h3⟩ := hx.tup eZ
    obtain ⟨v, h4, h5⟩ := atI_reps h3 he
    exact .inr (.inl ⟨p, vs, i, v, h1, hy.int, SqT.of h2, h4, q.1 _ h5⟩)
  · rename_i w i
    split at he
    · rename_i hl
      obtain ⟨c, h1, h2⟩ := Option.map_eq_some_iff.mp he
      subst h2
      exact .inr (.inr ⟨w, i, c, hx.str, hy.int, hl, h1, q.str⟩)
    · cases he
  · rename_i ns i
    obtain ⟨c, h1, h2⟩ := Option.map_eq_some_iff.mp he
    subst h2
    obtain ⟨p, h3, h4⟩ := hx.scr eZ
    exact .inl ⟨p, _, i, .int c, h3, hy.int, h4, by rw [atI_map, h1]; rfl, q.int⟩
  · cases he
def cLen : List D → Option D
  | [.lst ds] => some (.int ds.length)
  | [.tup ds] => some (.int ds.length)
  | [.str x] => if x.length ≤ sizeLine then some (.int x.length) else none
  | _ => none
theorem cd_len : CallD k (fun xs H Q => ∃ x n, xs = [x] ∧ LenV k.K x H n ∧ Q (.int n) H) cLen := fun {F Z H xs ds z Q} eZ eF hx he q => by
  unfold cLen at he
  split at he
  · rename_i es
    cases he
    obtain ⟨v, rfl, r⟩ := repBs1 hx
    obtain ⟨p, vs, rfl, h2, h3⟩ := r.lst eZ eF
    exact ⟨_, es.length, rfl, .inl ⟨vs, SqL.of h2, h3.length⟩, q.int⟩
  · rename_i es
    cases he
    obtain ⟨v, rfl, r⟩ := repBs1 hx
    obtain ⟨p, vs, rfl, h2, h3⟩ := r.tup eZ
    exact ⟨_, es.length, rfl, .inr ⟨vs, SqT.of h2, h3.length⟩, q.int⟩
  · rename_i w
    split at he
    · rename_i hl
      cases he
      obtain ⟨v, rfl, r⟩ := repBs1 hx
      exact ⟨_, w.length, rfl, by rw [r.str]; exact ⟨hl, rfl⟩, q.int⟩
    · cases he
  · cases he
def cList : List D → Option D
  | [.lst ds] => some (.lst ds)
  | [.tup ds] => some (.lst ds)
  | [.scr ns] => some (.lst (ns.map .int))
  | _ => none
theorem reps_ints {Z : Hp} : ∀ ns : List Int, Reps k Z (ns.map .int) (ns.map V.int)
  | [] => Reps.nil
  | n :: ns => Reps.cons (rep_int.mpr rfl) (reps_ints ns)
theorem cf_list : CallF k (fun xs H Q => ∃ p ys, xs = [.ref p] ∧ (SqL k.K H p ys ∨ SqT k.K H p ys) ∧ ∀ l, H l = none → Q (.ref l) (upd H l (.lst ys))) cList := fun {F Z H xs ds z Q} eZ eF hx he q => by
  unfold cList at he
  split at he
  · rename_i es
    cases he
    obtain ⟨v, rfl, r⟩ := repBs1 hx
    obtain ⟨p, vs, rfl, h2, h3⟩ := r.lst eZ eF
    exact ⟨p, vs, rfl, .inl (SqL.of h2), fun l hl => q l _ hl ⟨vs, rfl, h3⟩⟩
  · rename_i es
    cases he
    obtain ⟨v, rfl, r⟩ := repBs1 hx
    obtain ⟨p, vs, rfl, h2, h3⟩ := r.tup eZ
    exact ⟨p, vs, rfl, .inr (SqT.of h2), fun l hl => q l _ hl ⟨vs, rfl, h3⟩⟩
  · rename_i ns
    cases he
    obtain ⟨v, rfl, r⟩ := repBs1 hx
    obtain ⟨p, rfl, h2⟩ := r.scr eZ
    exact ⟨p, _, rfl, .inl h2, fun l hl => q l _ hl ⟨_, rfl, reps_ints ns⟩⟩
  · cases he
def cTuple : List D → Option D
  | [.lst ds] => some (.tup ds)
  | [.tup ds] => some (.tup ds)
  | _ => none
def intsOf : List D → Option (List Int)
  | [] => some []
  | .int i :: ds => (intsOf ds).map (i :: ·)
  | _ :: _ => none
def blsOf : List D → Option (List Bool)
  | [] => some []
  | .bl i :: ds => (blsOf ds).map (i :: ·)
  | _ :: _ => none
theorem blsOf_reps {Z : Hp} : ∀ {ds : List D} {ns : List Bool} {vs : List V}, blsOf ds = some ns → Reps k Z ds vs → vs = ns.map V.bl
  | [], ns, vs, e, h => by cases e; exact reps_nil.mp h
  | .bl i :: ds, ns, vs, e, h => by
    obtain ⟨ms, h1, rfl⟩ := Option.map_eq_some_iff.mp (show (blsOf ds).map (i :: ·) = some ns from e)
    obtain ⟨v, r, rfl, h2, h3⟩ := reps_cons.mp h
    rw [rep_bl.mp h2, blsOf_reps h1 h3]
    rfl
  | .non :: _, _, _, e, _ => by cases e
  | .int _ :: _, _, _, e, _ => by cases e
  | .str _ :: _, _, _, e, _ => by cases e
  | .lst _ :: _, _, _, e, _ => by cases e
  | .tup _ :: _, _, _, e, _ => by cases e
  | .dct _ _ _ :: _, _, _, e, _ => by cases e
  | .ins _ _ _ :: _, _, _, e, _ => by cases e
  | .scr _ :: _, _, _, e, _ => by cases e
  | .ctup _ :: _, _, _, e, _ => by cases e
def cAll : List D → Option D
  | [.lst ds] => (blsOf ds).map fun bs => .bl (bs.all id)
  | _ => none
theorem cd_all : CallD k (rAll k.K) cAll := fun {F Z H xs ds z Q} eZ eF hx he q => by
  unfold cAll at he
  split at he
  · rename_i es
    obtain ⟨bs, h1, rfl⟩ := Option.map_eq_some_iff.mp he
    obtain ⟨v, rfl, r⟩ := repBs1 hx
    obtain ⟨p, vs, rfl, h2, h3⟩ := r.lst eZ eF
    rw [blsOf_reps h1 h3] at h2
    exact ⟨p, bs, rfl, SqL.of h2, q.bl⟩
  · cases he
def cMin : List D → Option D
  | [.int i, .int j] => some (.int (if j < i then j else i))
  | _ => none
def cMax : List D → Option D
  | [.int i, .int j] => some (.int (if j > i then j else i))
  | _ => none
end
end Hw
namespace Hw
open PySem PySem.Spec L2
variable [Tb]
def getC (i : Nat) (ρ : Rho) (τ : Tau) : Option D := match ρ[i]? with
  | some (.own d) => some d
  | some (.io j) => τ[j]?
  | _ => none
def setC (i : Nat) (d : D) (ρ : Rho) (τ : Tau) : Rho × Tau := match ρ[i]? with
  | some (.own _) => (ρ.set i (.own d), τ)
  | some (.io j) => (ρ, τ.set j d)
  | _ => (ρ, τ)
section
variable {k : Kx} {A : List Addr} {F0 F H Z : Hp} {ρ : Rho} {σ : L2.St} {τ : Tau}
theorem Wd.updF {p : Addr} {o u : HO} (w : Wd k A F τ H Z) (h : F p = some o) (hu : isPl u = true) (hn : ∀ vs, u ≠ .tup vs) : Wd k A (upd F p u) τ (upd H p u) Z := by
  have e : upd F p o = F := by
    funext b
    by_cases hb : b = p
    · subst hb; rw [upd_same, h]
    · rw [upd_ne hb]
  have w' : Wd k A (upd F p o) τ H Z := by rw [e]; exact w
  exact w'.acc (u := u) hu hn
theorem Sl.updF {i : Nat} {a : Addr} {d d' : D} {o u : HO} (s : Sl k A F0 F ρ σ Z) (hi : ρ[i]? = some (.own d)) (ha : σ[i]? = some (some (V.ref a))) (hF : F a = some o) (hu : OwnO k Z d' u) : Sl k A F0 (upd F a u) (ρ.set i (.own d')) σ Z := by
  have hil : i < ρ.length := (List.getElem?_eq_some_iff.mp hi).1
  obtain ⟨a', o', h1, h2, h3, h4⟩ := s.own i d hi
  rw [h1] at ha
  cases ha
  refine ⟨by rw [List.length_set]; exact s.len, fun j e h => ?_, fun j e h => ?_, fun j l h => ?_, fun j l e f b g1 g2 g3 g4 => ?_, fun b x hb => ?_, fun j l n h => ?_, fun j l n l2 e b g1 g2 g3 g4 => ?_⟩
  · by_cases hj : i = j
    · subst hj; rw [List.getElem?_set_self hil] at h; cases h
    · rw [List.getElem?_set_ne hj] at h; exact s.fz j e h
  · by_cases hj : i = j
    · subst hj
      rw [List.getElem?_set_self hil] at h
      cases h
      exact ⟨a, u, h1, upd_same, h3, hu⟩
    · rw [List.getElem?_set_ne hj] at h
      obtain ⟨b, x, g1, g2, g3, g4⟩ := s.own j e h
      have : b ≠ a := fun z => hj (s.ap i j d e a hi h h1 (by rw [← z]; exact g1))
      exact ⟨b, x, g1, by rw [upd_ne this]; exact g2, g3, g4⟩
  · by_cases hj : i = j
    · subst hj; rw [List.getElem?_set_self hil] at h; cases h
    · rw [List.getElem?_set_ne hj] at h; exact s.io j l h
  · have back : ∀ (m : Nat) (y : D), (ρ.set i (.own d'))[m]? = some (.own y) → ∃ y', ρ[m]? = some (.own y') := fun m y hm => by
      by_cases hj : i = m
      · subst hj; exact ⟨d, hi⟩
      · rw [List.getElem?_set_ne hj] at hm; exact ⟨y, hm⟩
    obtain ⟨y1, g1'⟩ := back j e g1
    obtain ⟨y2, g2'⟩ := back l f g2
    exact s.ap j l y1 y2 b g1' g2' g3 g4
  · have : b ≠ a := fun z => by rw [z, h3] at hb; cases hb
    rw [upd_ne this]
    exact s.f0 b x hb
  · by_cases hj : i = j
    · subst hj; rw [List.getElem?_set_self hil] at h; cases h
    · rw [List.getElem?_set_ne hj] at h
      obtain ⟨b, g1, g2, g3, g4⟩ := s.rws j l n h
      have : b ≠ a := fun z => s.apr j l n i d a h hi (z ▸ g1) h1
      exact ⟨b, g1, g2, by rw [upd_ne this]; exact g3, g4⟩
  · have n1 : i ≠ j := fun z => by subst z; rw [List.getElem?_set_self hil] at g1; cases g1
    rw [List.getElem?_set_ne n1] at g1
    by_cases hl2 : i = l2
    · subst hl2
      exact s.apr j l n i d b g1 hi g3 g4
    · rw [List.getElem?_set_ne hl2] at g2
      exact s.apr j l n l2 e b g1 g2 g3 g4
theorem Wd.updIo {j : Nat} {a : Addr} {d : D} {u : HO} (w : Wd k A F τ H Z) (ha : A[j]? = some a) (hu : OwnO k Z d u) (ng : isGrp d = false) : Wd k A F (τ.set j d) (upd H a u) Z := by
  have hm := List.mem_of_getElem? ha
  obtain ⟨z0, f0⟩ := w.out a hm
  refine ⟨fun b x hb => ?_, fun b x hb => ?_, w.zf, by rw [List.length_set]; exact w.len, fun l b e h1 h2 => ?_, w.out, w.nd, ?_, w.pl, w.nt, ?_⟩
  rotate_right
  · exact w.gr.set w.nd ha ng
  rotate_right
  · obtain ⟨d0, hd0⟩ : ∃ d0, τ[j]? = some d0 := by
      have := (List.getElem?_eq_some_iff.mp ha).1
      rw [w.len] at this
      exact ⟨_, List.getElem?_eq_getElem this⟩
    obtain ⟨o, h1, h2⟩ := w.io j a d0 ha hd0
    exact tabs_no w.tabs h1 h2.pl
  · rw [upd_ne (ne_of_none hb z0)]; exact w.zh b x hb
  · rw [upd_ne (ne_of_none hb f0)]; exact w.fh b x hb
  · by_cases hl : j = l
    · subst hl
      rw [ha] at h1
      cases h1
      have hj : j < τ.length := by
        have := (List.getElem?_eq_some_iff.mp h2).1
        rw [List.length_set] at this
        exact this
      rw [List.getElem?_set_self hj] at h2
      cases h2
      exact ⟨u, upd_same, hu⟩
    · rw [List.getElem?_set_ne hl] at h2
      obtain ⟨o, h3, h4⟩ := w.io l b e h1 h2
      have : b ≠ a := fun z => by
        subst z
        have e1 := (List.getElem?_eq_some_iff.mp h1)
        have e2 := (List.getElem?_eq_some_iff.mp ha)
        exact hl ((List.getElem_inj w.nd).mp (e2.2.trans e1.2.symm))
      exact ⟨o, by rw [upd_ne this]; exact h3, h4⟩
theorem cont_at {i : Nat} {d : D} (w : Wd k A F τ H Z) (s : Sl k A F0 F ρ σ Z) (h : getC i ρ τ = some d) : ∃ a o, σ[i]? = some (some (V.ref a)) ∧ H a = some o ∧ OwnO k Z d o ∧
    ∀ d' u, OwnO k Z d' u → isGrp d' = false → ∃ F', Wd k A F' (setC i d' ρ τ).2 (upd H a u) Z ∧ Sl k A F0 F' (setC i d' ρ τ).1 σ Z := by
  unfold getC at h
  split at h
  · rename_i c hc
    cases h
    obtain ⟨a, o, h1, h2, h3, h4⟩ := s.own i d hc
    refine ⟨a, o, h1, w.fh _ _ h2, h4, fun d' u hu ng => ?_⟩
    unfold setC
    rw [hc]
    exact ⟨_, w.updF h2 hu.pl hu.nt, s.updF hc h1 h2 hu⟩
  · rename_i j hj
    obtain ⟨a, h1, h2⟩ := s.io i j hj
    obtain ⟨o, h3, h4⟩ := w.io j a d h1 h
    refine ⟨a, o, h2, h3, h4, fun d' u hu ng => ?_⟩
    unfold setC
    rw [hj]
    exact ⟨F, w.updIo h1 hu ng, s⟩
  · cases h
end
abbrev RM := V → List V → Hp → VK → Prop
def isLst : D → Bool
  | .lst _ => true
  | _ => false
def sMut (i : Nat) (f : D → List D → Option D) (a : SA) : SS := fun ρ τ => match getC i ρ τ with
  | none => .bad
  | some c0 => if isLst c0 = true then (a ρ τ).andS ρ fun ds τ1 => match getC i ρ τ1 with
      | none => .bad
      | some c => match f c ds with
        | none => .bad
        | some c' => .nx (setC i c' ρ τ1).1 (setC i c' ρ τ1).2
    else .bad
section
variable {X : Cx} {W : WX} {r : Rk} {e : Expr} {es : List Expr} {ma : SA} {pos cpos apos : Pos} {rm : RM} {f : D → List D → Option D} {id : String} {name x : Str}
end
section
variable {k : Kx}
end
def sPut (i : Nat) (ix : SE) (m : SE) : SS := fun ρ τ => (m ρ τ).andS ρ fun d τ1 => match getC i ρ τ1 with
  | none => .bad
  | some _ => (ix ρ τ1).andS ρ fun j τ2 => match getC i ρ τ2 with
    | some (.lst ds) => match j with
      | .int n => match ixN ds.length n with
        | some l => .nx (setC i (.lst (ds.set l d)) ρ τ2).1 (setC i (.lst (ds.set l d)) ρ τ2).2
        | none => .bad
      | _ => .bad
    | _ => .bad
section
variable {X : Cx} {W : WX} {r : Rk} {e ie : Expr} {m mi : SE} {pos p2 p3 : Pos} {x : Str}
theorem put_ok {i : Nat} : ∀ D σ H, tS (jx X W) r (sPut i mi m) D σ H → tAsg (tE (jx X W) m) (gSub (tVar i) (tB (jx X W) mi) rSetL) D σ H := fun D σ H ⟨ρ, τ, A, F0, F, Z, w, s, q⟩ =>
  ⟨ρ, τ, A, F0, F, Z, w, s, After.andS q fun d τ1 H1 Z1 w1 e1 q1 v rv => by
    cases h0 : getC i ρ τ1 with
    | none => rw [h0] at q1; exact q1.elim
    | some c0 =>
      rw [h0] at q1
      dsimp only at q1
      obtain ⟨a, _, ha, _⟩ := cont_at w1 (s.mono e1) h0
      exact ⟨.ref a, ha, ρ, τ1, A, F0, F, Z1, w1, s.mono e1, After.andS q1 fun j τ2 H2 Z2 w2 e2 q2 u ru => by
        cases hc : getC i ρ τ2 with
        | none => rw [hc] at q2; exact q2.elim
        | some c =>
          rw [hc] at q2
          cases c with
          | lst ds =>
            cases j with
            | int n =>
              dsimp only at q2
              cases hl : ixN ds.length n with
              | none => rw [hl] at q2; exact q2.elim
              | some l =>
                rw [hl] at q2
                obtain ⟨a', o', g1, g2, g3, g4⟩ := cont_at w2 (s.mono (e1.trans e2)) hc
                rw [ha] at g1
                cases g1
                obtain ⟨us, rfl, g5⟩ := g3
                obtain ⟨F', w3, s3⟩ := g4 (.lst (ds.set l d)) (.lst (us.set l v)) ⟨_, rfl, Reps.set (rv.mono e2) l g5⟩ rfl
                exact ⟨a, us, n, l, rfl, ru.int, g2, by rw [← g5.length]; exact hl, AfterS.next q2 w3 s3⟩
            | _ => exact q2.elim
          | _ => exact q2.elim⟩⟩
theorem es_put (i : Nat) (he : EV X W e m) (hi : EB X W ie mi) (hN : X.N[i]? = some x := by rfl) (hv : Vis X.env.scope x := by first | exact Or.inl rfl | exact Or.inr (Or.inl rfl) | exact Or.inr (Or.inr rfl)) (hd : (x == ("__debug__" : Str)) = false := by decide)
    (hcd : (x == ("__classdict__" : Str)) = false := by decide) (hs : swapsWithSole [.Subscript (.Name x p2) ie p3] e pos.line X.env = pure false := by rfl) (hw : swappedStores [.Subscript (.Name x p2) ie p3] e X.env = pure none := by rfl)
    (h1 : (assignEach [.Subscript (.Name x p2) ie p3] X.env).map (·.2) = [assign (.Subscript (.Name x p2) ie p3) X.env] := by rfl)
    (ha : ∀ v, assign (.Subscript (.Name x p2) ie p3) X.env v = (do
      let ov ← holding [v] (eval (.Name x p2) X.env)
      let iv ← holding [v, ov] (eval ie X.env)
      standAt p3
      holding [v, ov, iv] (setItem ov iv v)
      release [v, ov, iv] []) := by intro _; rfl) : ES X W r (.Assign [.Subscript (.Name x p2) ie p3] e pos) (sPut i mi m) :=
  ps_weak (ps_asg he (pg_sub (pe_var hN hv hd hcd) hi set_list ha) hs hw h1) put_ok
def eIoIx (i : Nat) (n : Int) : SE := fun ρ τ => match ρ[i]? with
  | some (.io j) => match τ[j]? with
    | some (.lst ds) => .of (atI ds n) τ
    | _ => .bad
  | _ => .bad
theorem ev_ioix (i : Nat) {n : Int} {l : Nat} (hN : X.N[i]? = some x := by rfl) (hv : Vis X.env.scope x := by first | exact Or.inl rfl | exact Or.inr (Or.inl rfl) | exact Or.inr (Or.inr rfl)) (hd : (x == ("__debug__" : Str)) = false := by decide)
    (hcd : (x == ("__classdict__" : Str)) = false := by decide) (hs : PlainIx (.Constant (.int n) l p3) := by intro _ _; rfl) : EV X W (.Subscript (.Name x p2) (.Constant (.int n) l p3) pos) (eIoIx i n) := pe_weak (pe_ix ix_list (pe_var hN hv hd hcd) pe_int hs) fun σ H Q ⟨ρ, τ, A, F0, F, Z, w, s, q⟩ => by
  unfold eIoIx at q
  split at q
  · rename_i j hj
    obtain ⟨a, h1, h2⟩ := s.io i j hj
    split at q
    · rename_i ds hds
      obtain ⟨o, h3, h4⟩ := w.io j a _ h1 hds
      obtain ⟨vs, rfl, h5⟩ := h4
      obtain ⟨d, hd', q⟩ := After.of q
      obtain ⟨v, g1, g2⟩ := atI_reps h5 hd'
      exact ⟨.ref a, h2, a, vs, n, v, rfl, rfl, SqL.of h3, g1, After.ok q w v g2⟩
    · exact q.elim
  · exact q.elim
end
def keq1 : D → D → Bool
  | .int i, .int j => decide (i = j)
  | .str x, .str y => decide (x = y)
  | _, _ => false
def keqL : List D → List D → Bool
  | [], [] => true
  | a :: as, b :: bs => keq1 a b && keqL as bs
  | _, _ => false
def keq (t : Bool) (a b : D) : Bool := match t, a, b with
  | true, .tup as, .tup bs => keqL as bs
  | false, a, b => keq1 a b
  | _, _, _ => false
def isK1 : D → Bool
  | .int _ => true | .str _ => true
  | _ => false
def isKey (t : Bool) (d : D) : Bool := match t, d with
  | true, .tup as => as.all isK1
  | false, d => isK1 d
  | _, _ => false
def getD2 (t : Bool) : List D → List D → D → Option D
  | k :: ks, v :: vs, d => if keq t k d then some v else getD2 t ks vs d
  | _, _, _ => none
def hasK (t : Bool) (ks : List D) (d : D) : Bool := ks.any fun k => keq t k d
def putD (t : Bool) (ks vs : List D) (d v : D) : D := if hasK t ks d then .dct t ks ((ks.zip vs).map fun p => if keq t p.1 d then v else p.2) else .dct t (ks ++ [d]) (vs ++ [v])
section
variable {X : Cx} {W : WX} {r : Rk} {e ie : Expr} {m mi : SE} {pos p2 p3 : Pos} {x : Str}
def sDPut' (i : Nat) (ix : SE) (m : SE) : SS := fun ρ τ => (m ρ τ).andS ρ fun d τ1 => match getC i ρ τ1 with
  | none => .bad
  | some _ => (ix ρ τ1).andS ρ fun j τ2 => match getC i ρ τ2 with
    | some (.dct t ks vs) => if isKey t j = true ∧ ks.length < sizeLine ∧ ks.length = vs.length then .nx (setC i (putD t ks vs j d) ρ τ2).1 (setC i (putD t ks vs j d) ρ τ2).2 else .bad
    | _ => .bad
end
end Hw
namespace Hw
open PySem PySem.Spec L2
variable [Tb]
def sBad : SS := fun _ _ => .bad
section
variable {X : Cx} {W : WX} {r : Rk} {e tg : Expr} {es : List Expr} {st : Stmt} {sts : List Stmt}
end
def eAnd (a b : SE) : SE := fun ρ τ => (a ρ τ).bind fun x τ1 => match x with
  | .bl true => b ρ τ1
  | .bl false => .ok (.bl false) τ1
  | _ => .bad
def eOr (a b : SE) : SE := fun ρ τ => (a ρ τ).bind fun x τ1 => match x with
  | .bl true => .ok (.bl true) τ1
  | .bl false => b ρ τ1
  | _ => .bad
section
variable {X : Cx} {W : WX} {a b : Expr} {rest : List Expr} {ma mb : SE} {pos : Pos}
theorem ev_one {op : BoolOp} (h : EV X W a ma) : EV X W (.BoolOp op [a] pos) ma := pe_one h
theorem ev_and (ha : EV X W a ma) (hb : EV X W (.BoolOp .And (b :: rest) pos) mb) : EV X W (.BoolOp .And (a :: b :: rest) pos) (eAnd ma mb) := pe_weak (pe_and ha hb) fun σ H Q ⟨ρ, τ, A, F0, F, Z, w, s, q⟩ =>
  ⟨ρ, τ, A, F0, F, Z, w, s, After.next q fun d τ1 H1 Z1 w1 e1 q1 v rv => by
    cases d with
    | bl x =>
      refine ⟨x, rep_bl.mp rv, ?_⟩
      cases x with
      | true => exact ⟨ρ, τ1, A, F0, F, Z1, w1, s.mono e1, q1⟩
      | false => exact After.ok q1 w1 _ (rep_bl.mpr rfl)
    | _ => exact q1.elim⟩
def eNot (a : SE) : SE := fun ρ τ => (a ρ τ).bind fun x τ1 => match x with
  | .bl b => .ok (.bl (!b)) τ1
  | _ => .bad
theorem ev_not (ha : EV X W a ma) : EV X W (.UnaryOp .Not a pos) (eNot ma) := pe_weak (pe_not ha) fun σ H Q ⟨ρ, τ, A, F0, F, Z, w, s, q⟩ =>
  ⟨ρ, τ, A, F0, F, Z, w, s, After.next q fun d τ1 H1 Z1 w1 e1 q1 v rv => by
    cases d with
    | bl x => exact ⟨x, rep_bl.mp rv, After.ok q1 w1 _ (rep_bl.mpr rfl)⟩
    | _ => exact q1.elim⟩
end
def eChain (f g : D → D → Option D) (a b c : SE) : SE := fun ρ τ => (a ρ τ).bind fun x τ1 => (b ρ τ1).bind fun y τ2 => (Out.of (f x y) τ2).bind fun z τ3 => match z with
  | .bl true => (c ρ τ3).bind fun u τ4 => .of (g y u) τ4
  | .bl false => .ok (.bl false) τ3
  | _ => .bad
section
variable {X : Cx} {W : WX} {a b c : Expr} {ma mb mc : SE} {pos : Pos} {f g : D → D → Option D} {rf rg : R2} {op op' : CmpOp}
end
abbrev SO := Rho → Tau → Out (Option Int)
def oNo : SO := fun _ τ => .ok none τ
def oSo (m : SE) : SO := fun ρ τ => (m ρ τ).bind fun d τ1 => match d with
  | .int i => .ok (some i) τ1
  | _ => .bad
def tO (c : Jx) (m : SO) : TO := fun σ H Q => ∃ ρ τ A F0 F Z, Wd c.k A F τ H Z ∧ Sl c.k A F0 F ρ σ Z ∧ After c A F0 F ρ σ Z (m ρ τ) fun i _ H' _ => Q i H'
abbrev EO (X : Cx) (W : WX) (e : Option Expr) (m : SO) : Prop := PO X e (tO (jx X W) m)
def cutD {α : Type} (ds : List α) (lo hi : Option Int) : List α := (ds.drop (HT.sIx ds.length 0 lo)).take (HT.sIx ds.length ds.length hi - HT.sIx ds.length 0 lo)
def dSl (d : D) (lo hi : Option Int) : Option D := match d with
  | .lst ds => some (.lst (cutD ds lo hi))
  | .scr ns => some (.lst ((cutD ns lo hi).map .int))
  | .tup ds => some (.tup (cutD ds lo hi))
  | .str z => if z.length ≤ sizeLine then some (.str (cutS z lo hi)) else none
  | _ => none
def dSlL (d : D) (lo hi : Option Int) : Option D := match d with
  | .lst ds => some (.lst (cutD ds lo hi))
  | .scr ns => some (.lst ((cutD ns lo hi).map .int))
  | _ => none
def eSl (f : D → Option Int → Option Int → Option D) (m : SE) (ml mh : SO) : SE := fun ρ τ => (m ρ τ).bind fun d τ1 => (ml ρ τ1).bind fun l τ2 => (mh ρ τ2).bind fun h τ3 => .of (f d l h) τ3
theorem cut_reps {k : Kx} {Z : Hp} {ds : List D} {vs : List V} {lo hi : Option Int} (h : Reps k Z ds vs) : Reps k Z (cutD ds lo hi) (cutV vs lo hi) := by
  unfold cutD cutV
  rw [h.length]
  exact (h.drop _).take _
theorem cut_map {α : Type} {f : α → V} (xs : List α) (lo hi : Option Int) : cutV (xs.map f) lo hi = (cutD xs lo hi).map f := by
  unfold cutV cutD
  rw [List.length_map, ← List.map_drop, ← List.map_take]
theorem cut_whole {α : Type} {ds : List α} {lo hi : Option Int} (h : HT.sIx ds.length 0 lo = 0 ∧ HT.sIx ds.length ds.length hi = ds.length) : cutD ds lo hi = ds := by
  unfold cutD
  rw [h.1, h.2, List.drop_zero, Nat.sub_zero, List.take_length]
abbrev RSl := V → Option Int → Option Int → Hp → VK → Prop
def rSlAll (K : PySem.W.Frag) : RSl := fun x lo hi H Q => rSlL K x lo hi H Q ∨ rSlA K x lo hi H Q ∨ rSlS x lo hi H Q
section
variable {X : Cx} {W : WX} {e : Expr} {lo hi : Option Expr} {m : SE} {ml mh : SO} {pos p2 : Pos}
theorem sl_all : SlR X (rSlAll X.K) := SlR.or sl_list (SlR.or sl_tupA sl_str)
theorem eo_no : EO X W none oNo := ⟨fun pins s σ H Q I ⟨ρ, τ, A, F0, F, Z, w, sl, q⟩ => po_none.run pins s σ H Q I (After.ok q w)⟩
theorem eo_so {e : Expr} (h : EV X W e m) : EO X W (some e) (oSo m) := ⟨fun pins s σ H Q I ⟨ρ, τ, A, F0, F, Z, w, sl, q⟩ => (po_some h).run pins s σ H Q I ⟨ρ, τ, A, F0, F, Z, w, sl, After.next q fun d τ1 H1 Z1 w1 e1 q1 v rv => by
  cases d with
  | int i => exact ⟨i, rep_int.mp rv, After.ok q1 w1⟩
  | _ => exact q1.elim⟩⟩
theorem slL_ok {k : Kx} {F Z H : Hp} {d z : D} {v : V} {l h : Option Int} {Q : VK} (eZ : Same Z H) (eF : Same F H) (rv : RepB k F Z d v) (hd : dSlL d l h = some z) (q : FrQ k Z H z Q) : rSlL k.K v l h H Q := by
  unfold dSlL at hd
  split at hd
  · rename_i ds
    cases hd
    obtain ⟨a, vs, h1, h2, h3⟩ := rv.lst eZ eF
    exact ⟨a, vs, h1, SqL.of h2, fun p hp => q p _ hp ⟨_, rfl, cut_reps h3⟩⟩
  · rename_i ns
    cases hd
    obtain ⟨a, h1, h2⟩ := rv.scr eZ
    exact ⟨a, _, h1, h2, fun p hp => q p _ hp ⟨_, rfl, by rw [cut_map]; exact reps_ints _⟩⟩
  · cases hd
theorem sl_ok {k : Kx} {F Z H : Hp} {d z : D} {v : V} {l h : Option Int} {Q : VK} (eZ : Same Z H) (eF : Same F H) (rv : RepB k F Z d v) (hd : dSl d l h = some z) (q : NewQ k Z H z Q) : rSlAll k.K v l h H Q := by
  unfold dSl at hd
  split at hd
  · exact .inl (slL_ok eZ eF rv hd (FrQ.of_new eZ q))
  · exact .inl (slL_ok eZ eF rv hd (FrQ.of_new eZ q))
  · rename_i ds
    cases hd
    refine .inr (.inl ?_)
    rcases rv with rv | ⟨_, _, _, _, z⟩
    · obtain ⟨a, vs, h1, h2, h3⟩ := rep_tup.mp rv
      refine ⟨a, vs, h1, SqT.of (eZ _ _ h2), fun hw => ?_, fun hw p hp => q.tup (cut_reps h3) hp eZ⟩
      rw [← h3.length] at hw
      rw [cut_whole hw] at q
      exact q.1 _ (by rw [← h1]; exact rv)
    · exact z.elim
  · rename_i z
    split at hd
    · rename_i hl
      cases hd
      exact .inr (.inr ⟨z, rv.str, hl, q.str⟩)
    · cases hd
  · cases hd
theorem ev_sl (he : EB X W e m) (hl : EO X W lo ml) (hh : EO X W hi mh) : EV X W (.Subscript e (.Slice lo hi none p2) pos) (eSl dSl m ml mh) := pe_weak (pe_slice sl_all he hl hh) fun σ H Q ⟨ρ, τ, A, F0, F, Z, w, s, q⟩ =>
  ⟨ρ, τ, A, F0, F, Z, w, s, After.next q fun d τ1 H1 Z1 w1 e1 q1 x rx => ⟨ρ, τ1, A, F0, F, Z1, w1, s.mono e1, After.next q1 fun l τ2 H2 Z2 w2 e2 q2 => ⟨ρ, τ2, A, F0, F, Z2, w2, s.mono (e1.trans e2), After.next q2 fun h τ3 H3 Z3 w3 e3 q3 => by
    obtain ⟨z, hz, q4⟩ := After.of q3
    exact sl_ok w3.zh w3.fh (rx.mono (e2.trans e3)) hz (After.newQ q4 w3)⟩⟩⟩
end
def tyN : D → Option String
  | .non => some "NoneType" | .bl _ => some "bool" | .int _ => some "int" | .str _ => some "str"
  | .lst _ => some "list" | .scr _ => some "list" | .tup _ => some "tuple" | .ctup _ => some "tuple" | .dct _ _ _ => some "dict"
  | _ => none
def isiD (T : String) (d : D) : Option D := (tyN d).bind fun t => (kitB t T).map .bl
theorem ty_of {k : Kx} {F Z H : Hp} {d : D} {v : V} {t : String} (eZ : Same Z H) (eF : Same F H) (rv : RepB k F Z d v) (h : tyN d = some t) : TyX k.K H v (.type t) := by
  cases d with
  | non => cases h; rw [rv.non]; exact .base .non
  | bl b => cases h; rw [rv.bl]; exact .base (.bl b)
  | int i => cases h; rw [rv.int]; exact .base (.int i)
  | str x => cases h; rw [rv.str]; exact .base (.str x)
  | lst ds =>
    cases h
    obtain ⟨a, vs, rfl, h2, _⟩ := rv.lst eZ eF
    exact .base (.lst h2)
  | scr ns =>
    cases h
    obtain ⟨a, rfl, h2⟩ := rv.scr eZ
    rcases h2 with (h2 | ⟨o, h2⟩) | ⟨o, its, n, h2, h3, _⟩
    · exact .base (.lst h2)
    · exact .base (.frz h2)
    · exact .kList h2 h3
  | tup ds =>
    cases h
    obtain ⟨a, vs, rfl, h2, _⟩ := rv.tup eZ
    exact .base (.tup h2)
  | ctup vs =>
    cases h
    obtain ⟨a, rfl, h2⟩ := rv.ctup eZ
    rcases h2 with (h2 | ⟨o, h2⟩) | ⟨o, its, n, h2, h3, _⟩
    · exact .base (.tup h2)
    · exact .fTuple h2
    · exact .kTuple h2 h3
  | dct t ks ds =>
    cases h
    obtain ⟨a, o, vs, rfl, h2, h3, _⟩ := rv.dct eZ eF
    rcases h3 with ⟨_, kvs, rfl, _⟩ | ⟨_, kvs, rfl, _⟩
    · exact .base (.dK h2)
    · exact .base (.dT h2)
  | ins _ _ _ => cases h
  | nst _ _ => cases h
  | grp _ _ _ => cases h
  | exn _ _ _ => cases h
  | xtp _ => cases h
section
variable {X : Cx} {W : WX} {e : Expr} {m : SE} {p p2 pos : Pos} {T : String} {x : Str}
theorem isi_ok : ∀ σ H Q, tE (jx X W) (eUn (isiD T) m) σ H Q → tCB (rIsi X.K) (tCons (tB (jx X W) m) (tCons (tC (.ty T)) tNil)) σ H Q := fun σ H Q ⟨ρ, τ, A, F0, F, Z, w, s, q⟩ =>
  ⟨ρ, τ, A, F0, F, Z, w, s, After.next q fun d τ1 H1 Z1 w1 e1 q1 v rv => by
    obtain ⟨z, hz, q2⟩ := After.of q1
    unfold isiD at hz
    obtain ⟨t, h1, h2⟩ := Option.bind_eq_some_iff.mp hz
    obtain ⟨b, h3, rfl⟩ := Option.map_eq_some_iff.mp h2
    exact ⟨v, .ty T, .type t, .type T, b, rfl, .ty T, ty_of w1.zh w1.fh rv h1, kit_ty h3, After.ok q2 w1 _ (rep_bl.mpr rfl)⟩⟩
theorem ev_isi (T : String) (hg : Gl X "isinstance") (hm : X.mg "isinstance" = none) (hg2 : Gl X x) (hm2 : X.mg x = none) (hv2 : bootBuiltins x = some (.type T)) (he : EB X W e m) (hn2 : x ≠ "__name__" := by decide) (hd2 : (x == ("__debug__" : Str)) = false := by decide)
    (hs1 : starEach [e, .Name x p2] X.env = (false, eval e X.env) :: starEach [.Name x p2] X.env := by rfl) (hs2 : starEach [.Name x p2] X.env = (false, eval (.Name x p2) X.env) :: starEach [] X.env := by rfl) (hpl : (backTo pos (starEach [.Name x p2] X.env)).any (·.1) = false := by rfl) :
    EV X W (.Call (.Name "isinstance" p) [e, .Name x p2] [] pos) (eUn (isiD T) m) :=
  pe_weak (pe_callB call_isi hg hm rfl (pa_cons he (pa_cons (pe_bltn (v := .ty T) hg2 hm2 hv2 rfl hn2 hd2) pa_nil hs2) hs1) (by decide) (by decide) hs1 hpl) isi_ok
end
def sPar (i j : Nat) (a b : SE) : SS := fun ρ τ => (a ρ τ).andS ρ fun x τ1 => (b ρ τ1).andS ρ fun y τ2 => .nx ((ρ.set i (.fz x)).set j (.fz y)) τ2
section
variable {X : Cx} {W : WX} {r : Rk} {a b : Expr} {ma mb : SE} {x y : Str} {px py pt pt2 pos : Pos}
theorem es_par (i j : Nat) {kt k2 : Nat} (ha : EV X W a ma) (hb : EV X W b mb) (hx : X.env.scope.names.lookup x = some .local := by rfl) (hy : X.env.scope.names.lookup y = some .local := by rfl) (hN : X.N.Nodup := by assumption) (hi : X.N[i]? = some x := by rfl) (hj : X.N[j]? = some y := by rfl) (hij : i ≠ j := by decide) (hc : X.calm = true := by rfl)
    (hw : swappedStores [.Tuple [.Name x px, .Name y py] kt pt] (.Tuple [a, b] k2 pt2) X.env = pure (some [x, y]) := by rfl)
    (hs : swapsWithSole [.Tuple [.Name x px, .Name y py] kt pt] (.Tuple [a, b] k2 pt2) pos.line X.env = pure false := by rfl)
    (hs1 : starEach [a, b] X.env = (false, eval a X.env) :: starEach [b] X.env := by rfl) (hs2 : starEach [b] X.env = (false, eval b X.env) :: starEach [] X.env := by rfl) :
    ES X W r (.Assign [.Tuple [.Name x px, .Name y py] kt pt] (.Tuple [a, b] k2 pt2) pos) (sPar i j ma mb) :=
  ps_weak (ps_par hc hN hi hj hij hx hy (pa_cons ha (pa_cons hb pa_nil hs2) hs1) hw hs) fun D σ H ⟨ρ, τ, A, F0, F, Z, w, s, q⟩ =>
    ⟨ρ, τ, A, F0, F, Z, w, s, After.andS q fun d τ1 H1 Z1 w1 e1 q1 v rv => ⟨ρ, τ1, A, F0, F, Z1, w1, s.mono e1, After.andS q1 fun e τ2 H2 Z2 w2 e2 q2 u ru =>
      ⟨v, u, rfl, AfterS.next q2 w2 (((s.mono (e1.trans e2)).setFz (rv.mono e2)).setFz ru)⟩⟩⟩
end
def iEn (m : SE) : SI := fun ρ τ => (m ρ τ).bind fun d τ1 => match d with
  | .lst ds => .ok (ds.zipIdx.map fun p => .tup [.int p.2, p.1]) τ1
  | _ => .bad
def iZp (a b : SE) : SI := fun ρ τ => (a ρ τ).bind fun x τ1 => (b ρ τ1).bind fun y τ2 => match x, y with
  | .lst ds, .lst es => .ok ((ds.zip es).map fun p => .tup [p.1, p.2]) τ2
  | _, _ => .bad
section
variable {X : Cx} {W : WX} {e e2 : Expr} {elts : List Expr} {m m2 : SE} {p pos tpos : Pos} {kk : Nat}
end
end Hw
set_option maxHeartbeats 1000000
namespace Hw
open PySem PySem.Spec L2
open HandSPX (FlyingZ)
open PyProof.Rows
section
variable {X : Cx} {x1 x2 x3 x4 : Str} {c1 c2 c3 c4 : Value} {p1 p2 p3 p4 tp : Pos} {kk : Nat}
end
abbrev Sui := Addr → Value → Option Addr → TS
section
variable {X : Cx} {n : Str} {i : Nat} {body : List Stmt} {h₀ : ExceptHandler} {hds : List ExceptHandler} {l : List (List Value × Sui)} {pos : Pos} {tb : WX → TS} {Wout : WX}
end
end Hw
set_option maxHeartbeats 1000000
namespace Hw
open PySem PySem.Spec L2 LamX
open PyProof.Rows (envOfC)
variable [Tb]
section
variable {X : Cx} {a : Addr} {oe : Obj} {cls : Value} {d : Option Addr} {pn : List (Addr × Obj)} {n : Str} {i : Nat}
end
def tellD (e : Exc) : List Str → Option (List D)
  | [] => some []
  | f :: fs => match (e.fs.zip e.vs).lookup f, tellD e fs with
    | some d, some ds => some (d :: ds)
    | _, _ => none
def eTried (tab : List (Str × List Str)) (w1 w2 : Str) (m : SE) : SE := fun ρ τ => match m ρ τ with
  | .ok d τ1 => .ok (.tup [.str w1, d]) τ1
  | .exc e τ1 => match tab.lookup e.c with
    | some fs => match tellD e fs with
      | some ds => if ds.length < 1000 then .ok (.tup (.str w2 :: ds)) τ1 else .bad
      | none => .bad
    | none => .bad
  | .bad => .bad
section
variable {X : Cx} {W : WX}
end
end Hw
set_option maxHeartbeats 1000000
namespace Hw
open PySem PySem.Spec L2
open PyProof.Rows (envOfC)
variable [Tb]
theorem RepB.ins {k : Kx} {F Z H : Hp} (eZ : Same Z H) (eF : Same F H) {c : Str} {fs : List Str} {ds : List D} {v : V} (h : RepB k F Z (.ins c fs ds) v) : ∃ a C dx vs, v = .ref a ∧ H a = some (.ins C dx (fs.zip vs)) ∧ k.mg c = some (.ref C) ∧ fs.length = vs.length ∧ Reps k Z ds vs := by
  rcases h with h | ⟨a, o, h1, h2, h3⟩
  · obtain ⟨a, C, dx, vs, h1, h2, h3, h4, h5⟩ := rep_ins.mp h
    exact ⟨a, C, dx, vs, h1, eZ _ _ h2, h3, h4, h5⟩
  · obtain ⟨C, dx, vs, rfl, h4, h5, h6⟩ := h3
    exact ⟨a, C, dx, vs, h1, eF _ _ h2, h4, h5, h6⟩
section
variable {X : Cx} {W : WX} {e : Expr} {m : SE} {pos : Pos} {f c : Str}
end
def putN (f : Str) : List Str → List Str
  | [] => [f]
  | g :: fs => if g = f then g :: fs else g :: putN f fs
def putX {α : Type} (f : Str) (x : α) : List Str → List α → List α
  | g :: fs, y :: ys => if g = f then x :: ys else y :: putX f x fs ys
  | _, _ => [x]
def dPutF (c f : Str) (x d : D) : Option D := match x with
  | .ins c' fs ds => if c' = c ∧ fs.length < 1000 then some (.ins c (putN f fs) (putX f d fs ds)) else none
  | _ => none
def sFldS (i : Nat) (c f : Str) (m : SE) : SS := fun ρ τ => (m ρ τ).andS ρ fun d τ1 => match getC i ρ τ1 with
  | some x => match dPutF c f x d with
    | some y => .nx (setC i y ρ τ1).1 (setC i y ρ τ1).2
    | none => .bad
  | none => .bad
section
variable {X : Cx} {W : WX} {r : Rk} {e : Expr} {m : SE} {pos pos' p2 : Pos} {f c x : Str}
end
def RepAll (k : Kx) (ds : List D) (vs : List V) : Prop := ∀ Z, Reps k Z ds vs
def rDef (a : SR) (ds : List D) : SR := fun ρ τ => (a ρ τ).bind fun ss τ1 => .ok (ss ++ ds.map .fz) τ1
section
variable {X : Cx} {W : WX} {e : Expr} {es : List Expr} {mr : SR} {pos p : Pos} {x : Str} {f : Addr} {fd : FuncData} {ps : List Str} {k : Nat} {mf : MF} {dds : List D} {dvs : List V} {ds : List Value}
end
def eMake (c : Str) (mf : MF) (a : SR) : SE := fun ρ τ => (a ρ τ).bind fun ss τ1 => if noIo ss = true then (match mf (.io 0 :: ss) [.ins c [] []] with
  | .ok .non [d] => .ok d τ1
  | .exc e [_] => .exc e τ1
  | _ => .bad) else .bad
section
variable {X : Cx} {W : WX} {e : Expr} {es : List Expr} {mr : SR} {pos p : Pos} {x c : Str} {f C : Addr} {fd : FuncData} {ps : List Str} {k : Nat} {mf : MF} {sp : Sp} {E : L2.St → XK} {t : TA} {dds : List D} {dvs : List V} {ds : List Value}
end
end Hw
set_option maxHeartbeats 1000000
namespace Hw
open PySem PySem.Spec L2
open PyProof.Rows (envOfC)
variable [Tb]
section
variable {X : Cx} {W : WX} {e o : Expr} {es : List Expr} {mr : SR} {m : SE} {pos p apos : Pos} {x c nm : Str} {f C : Addr} {fd : FuncData} {ps : List Str} {k : Nat} {mf : MF} {sp : Sp} {E : L2.St → XK} {t : TA} {ta : TE} {dds : List D} {dvs : List V} {ds : List Value}
def isInst (c nm : Str) (d : D) : Bool := match d with
  | .ins c' fs ds => decide (c' = c) && ((fs.zip ds).lookup nm).isNone && decide (fs.length = ds.length)
  | _ => false
theorem look_none {f : Str} : ∀ {fs : List Str} {ds : List D} {vs : List V}, ds.length = vs.length → (fs.zip ds).lookup f = none → (fs.zip vs).lookup f = none
  | [], _, _, _, _ => rfl
  | g :: fs, [], [], _, h => rfl
  | g :: fs, e :: ds, v :: vs, hl, h => by
    rw [List.zip_cons_cons, List.lookup_cons] at h ⊢
    cases hg : f == g with
    | true => rw [hg] at h; cases h
    | false =>
      rw [hg] at h
      exact look_none (Nat.succ.inj hl) h
theorem inst_at {k : Kx} {Z H : Hp} {c nm : Str} {d : D} {v : V} {C : Addr} (eZ : Same Z H) (hc : k.mg c = some (.ref C)) (rv : Rep k Z d v) (h : isInst c nm d = true) : ∃ a dx fs, v = .ref a ∧ H a = some (.ins C dx fs) ∧ fs.lookup nm = none := by
  unfold isInst at h
  split at h
  · rename_i c' fs ds
    rw [Bool.and_eq_true, Bool.and_eq_true] at h
    obtain ⟨⟨h1, h2⟩, h3⟩ := h
    have h1 : c' = c := of_decide_eq_true h1
    subst h1
    obtain ⟨a, C', dx, vs, rfl, g2, g3, g4, g5⟩ := rep_ins.mp rv
    rw [hc] at g3
    cases g3
    exact ⟨a, dx, _, rfl, eZ _ _ g2, look_none g5.length (Option.isNone_iff_eq_none.mp h2)⟩
  · cases h
def eLenO (c : Str) (mf : MF) (m : SE) : SE := fun ρ τ => (m ρ τ).bind fun d τ1 => match d with
  | .ins c' fs ds => if c' = c then (match mf [.fz d] [] with
      | .ok (.int n) [] => if 0 ≤ n ∧ n < 2 ^ 63 then .ok (.int n) τ1 else .bad
      | _ => .bad) else .bad
  | _ => .bad
end
end Hw
set_option maxHeartbeats 1000000
namespace Hw
open PySem PySem.Spec L2
open PyProof.Rows (envOfC)
open He (Fa DefD ga ma fAd SaysD cT codeOf tabOf)
variable [Tb]
structure Sx (fa : List Fa) (fn : List DefD) (ex : PySem.W.Frag → Bool) (K : PySem.W.Frag) (mg : Str → Option Value) : Prop where
  d : SaysD fa fn K
  more : ex K = true
  glo' : ∀ x, Fa.glo x ∈ fa → mg x = some (.ref (ga K x))
  free' : ∀ x, Fa.free x ∈ fa → mg x = none
  int' : ∀ x i, Fa.int x i ∈ fa → ∃ t, mg x = some (.int i t)
  str' : ∀ x z, Fa.str x z ∈ fa → ∃ t, mg x = some (.str z t)
section
variable {fa : List Fa} {fn : List DefD} {ex : PySem.W.Frag → Bool} {K : PySem.W.Frag} {mg : Str → Option Value}
theorem Sx.mk' {h : Heap} (X : K.In h) (G : h.Ns mainGlobals mg) (c : SaysD fa fn K) (m : ex K = true) : Sx fa fn ex K mg :=
  ⟨c, m, fun x hx => He.glo_ok X G (c.facts hx), fun x hx => He.free_ok X G (c.facts hx), fun x i hx => He.int_ok X G (c.facts hx), fun x z hx => He.str_ok X G (c.facts hx)⟩
theorem Sx.glo (c : Sx fa fn ex K mg) (i : Nat) {x : Str} (h : fa[i]? = some (.glo x) := by rfl) : mg x = some (.ref (ga K x)) := c.glo' x (List.mem_of_getElem? h)
theorem Sx.free (c : Sx fa fn ex K mg) (i : Nat) {x : Str} (h : fa[i]? = some (.free x) := by rfl) : mg x = none := c.free' x (List.mem_of_getElem? h)
theorem Sx.int (c : Sx fa fn ex K mg) (i : Nat) {x : Str} {j : Int} (h : fa[i]? = some (.int x j) := by rfl) : ∃ t, mg x = some (.int j t) := c.int' x j (List.mem_of_getElem? h)
theorem Sx.str (c : Sx fa fn ex K mg) (i : Nat) {x z : Str} (h : fa[i]? = some (.str x z) := by rfl) : ∃ t, mg x = some (.str z t) := c.str' x z (List.mem_of_getElem? h)
end
structure Df (P : Program) (w : World) (K : PySem.W.Frag) (mg : Str → Option Value) (base : Heap) (k : Nat) (x : Str) (r : Rk) (ps : List Str) (dds : List D) (mf : MF) : Prop where
  ex : ∃ (fd : FuncData) (ds : List Value) (dvs : List V), FnOk P w K mg base (Hw.CX P w) k (ga K x) fd ps (SpOf ⟨K, mg⟩ r ps.length mf) ∧ Binds K fd ps ds ∧ Vals dvs ds ∧ RepAll ⟨K, mg⟩ dds dvs
  at_ : mg x = some (.ref (ga K x))
  kp : PySem.W.keepIn K (.ref (ga K x)) = true
theorem repAll_nil {k : Kx} : RepAll k [] [] := fun Z => Reps.nil
structure AN (X : Cx) (W : WX) (es : List Expr) (n : Nat) (mr : SR) : Prop where
  er : ER X W es mr
  len : ∀ ρ τ ss τ1, mr ρ τ = .ok ss τ1 → ss.length = n
section
variable {X : Cx} {W : WX} {e : Expr} {es : List Expr} {n : Nat} {ma : SE} {mr : SR} {pos p apos : Pos} {x : Str} {k j : Nat} {ps : List Str} {dds : List D} {mf : MF}
theorem an_nil : AN X W [] 0 rNil := ⟨er_nil, len_rNil⟩
theorem an_cons (ha : EV X W e ma) (hr : AN X W es n mr) (hs : starEach (e :: es) X.env = (false, eval e X.env) :: starEach es X.env := by rfl) : AN X W (e :: es) (n + 1) (rCons ma mr) := ⟨er_cons ha hr.er hs, len_rCons hr.len⟩
theorem an_io (i : Nat) (hr : AN X W es n mr) (hN : X.N[i]? = some x := by rfl) (hv : Vis X.env.scope x := by first | exact Or.inl rfl | exact Or.inr (Or.inl rfl) | exact Or.inr (Or.inr rfl)) (hd : (x == ("__debug__" : Str)) = false := by decide)
    (hcd : (x == ("__classdict__" : Str)) = false := by decide) (hs : starEach (.Name x pos :: es) X.env = (false, eval (.Name x pos) X.env) :: starEach es X.env := by rfl) : AN X W (.Name x pos :: es) (n + 1) (rIo i mr) := ⟨er_io i hr.er hN hv hd hcd hs, len_rIo hr.len⟩
theorem ev_c (G : Df X.prog X.w X.K X.mg X.base k x false ps [] mf) (hr : Room j X.A) (ha : AN X W (e :: es) n mr) (hk : k ≤ j := by decide) (tk : Takes X W := by exact takes_of rfl rfl rfl rfl) (hn : n = ps.length := by rfl) (hg : Gl X x := by rfl) (hdb : (x == ("__debug__" : Str)) = false := by decide)
    (he : starEach (e :: es) X.env = (false, eval e X.env) :: starEach es X.env := by rfl) (hpl : (backTo pos (starEach es X.env)).any (·.1) = false := by rfl) : EV X W (.Call (.Name x p) (e :: es) [] pos) (eCall mf mr) := by
  obtain ⟨fd, ds, dvs, F, b, v, rr⟩ := G.ex
  have e0 : dvs = [] := reps_nil.mp (rr nopH)
  subst e0
  cases v
  exact ev_call F (hr.mono hk) G.at_ G.kp b tk (fun ρ τ ss τ1 h => (ha.len ρ τ ss τ1 h).trans hn) ha.er hg hdb he hpl
theorem ef_c (G : Df X.prog X.w X.K X.mg X.base k x true ps [] mf) (hr : Room j X.A) (ha : AN X W (e :: es) n mr) (hk : k ≤ j := by decide) (tk : Takes X W := by exact takes_of rfl rfl rfl rfl) (hn : n = ps.length := by rfl) (hg : Gl X x := by rfl) (hdb : (x == ("__debug__" : Str)) = false := by decide)
    (he : starEach (e :: es) X.env = (false, eval e X.env) :: starEach es X.env := by rfl) (hpl : (backTo pos (starEach es X.env)).any (·.1) = false := by rfl) : EF X W (.Call (.Name x p) (e :: es) [] pos) (eCall mf mr) := by
  obtain ⟨fd, ds, dvs, F, b, v, rr⟩ := G.ex
  have e0 : dvs = [] := reps_nil.mp (rr nopH)
  subst e0
  cases v
  exact ef_call F (hr.mono hk) G.at_ G.kp b tk (fun ρ τ ss τ1 h => (ha.len ρ τ ss τ1 h).trans hn) ha.er hg hdb he hpl
theorem ev_cIo (G : Df X.prog X.w X.K X.mg X.base k x false ps [] mf) (hr : Room j X.A) (ha : AN X W (e :: es) n mr) (hk : k ≤ j := by decide) (tk : Takes X W := by exact takes_of rfl rfl rfl rfl) (hn : n = ps.length := by rfl) (hg : Gl X x := by rfl) (hdb : (x == ("__debug__" : Str)) = false := by decide)
    (he : starEach (e :: es) X.env = (false, eval e X.env) :: starEach es X.env := by rfl) (hpl : (backTo pos (starEach es X.env)).any (·.1) = false := by rfl) : EV X W (.Call (.Name x p) (e :: es) [] pos) (eCallIo mf mr) := by
  obtain ⟨fd, ds, dvs, F, b, v, rr⟩ := G.ex
  have e0 : dvs = [] := reps_nil.mp (rr nopH)
  subst e0
  cases v
  exact ev_callIo F (hr.mono hk) G.at_ G.kp b tk (fun ρ τ ss τ1 h => (ha.len ρ τ ss τ1 h).trans hn) ha.er hg hdb he hpl
end
section
variable {P : Program} {w : World} {K : PySem.W.Frag} {mg : Str → Option Value} {base : Heap} {k : Nat} {x qual : Str} {r : Rk} {N ps : List Str} {mb : SS} {mf : MF} {params : Arguments} {body : List Stmt} {scope : Scope} {dvs : List V} {kws : List (Str × V)} {f : Addr} {fd : FuncData}
theorem defD_ok (F : FunD K x qual params body scope dvs kws f fd) (S : FnScope N ps scope)
    (hb : ∀ (cdv : Value) (A : Around) (outer : List PySem.Env) (s : Shared) (H : Hp) (E : XK), Room k (A.deeper (envOfC qual scope s.heap.objs.size f cdv)) →
      EL (cxOf (Hw.CX P w) P w K mg base N qual scope f cdv A outer s H E) (WX0 E) r body mb) : FnOk P w K mg base (Hw.CX P w) (k + 1) f fd ps (SpOf ⟨K, mg⟩ r ps.length (runB r.own N.length mb)) :=
  F.ok S (fun vs H Q E h => h.1) fun cdv A outer s H vs Q E hr h => ⟨_, hb cdv A outer s H E hr, body_ok h⟩
theorem fn_bad {CX : CXT} : FnOk P w K mg base CX k f fd ps (SpOf ⟨K, mg⟩ r ps.length fun _ _ => .bad) :=
  ⟨fun vs H Q E h => h.1, fun A outer s H args us vs Q E hr he hb hv h => by
    obtain ⟨_, _, _, _, _, _, _, _, z⟩ := h
    exact z.elim⟩
theorem df_mk (F : FunD K x x params body scope [] kws (ga K x) fd) (G : FnOk P w K mg base (Hw.CX P w) k (ga K x) fd ps (SpOf ⟨K, mg⟩ r ps.length mf)) (hm : mg x = some (.ref (ga K x)))
    (h : ∀ (kV doc pm : Value) (an : Option Addr) (cdv ct : Value) (us : List Value), us.length = ps.length → bindArgs (PySem.W.fnOf x x params body scope .none kV doc pm an cdv ct) ⟨us, []⟩ = pure (ps.zip us)) : Df P w K mg base k x r ps [] mf :=
  ⟨⟨fd, [], [], G, F.bindsN h, .nil, repAll_nil⟩, hm, F.kp⟩
end
def sLend (i : Nat) (m : SS) : SS := fun ρ τ => match ρ[i]? with
  | some (.own d) => if isGrp d = true then .bad else match m (ρ.set i (.io τ.length)) (τ ++ [d]) with
    | .ret d' τ' => if τ'.length = τ.length + 1 then .ret d' (τ'.take τ.length) else .bad
    | _ => .bad
  | _ => .bad
section
variable {k : Kx} {A : List Addr} {F0 F H Z : Hp} {ρ : Rho} {σ : L2.St} {τ : Tau}
theorem Wd.unlend {a : Addr} {τ' : Tau} (w : Wd k (A ++ [a]) F τ' H Z) (hl : τ'.length = n + 1) (hA : A.length = n) : Wd k A F (τ'.take n) H Z := by
  refine ⟨w.zh, w.fh, w.zf, by rw [List.length_take]; omega, fun j b d h1 h2 => ?_, fun b hb => w.out b (List.mem_append_left _ hb), (List.nodup_append.mp w.nd).1, w.tabs, w.pl, w.nt, w.gr.take n⟩
  have hj : j < A.length := (List.getElem?_eq_some_iff.mp h1).1
  refine w.io j b d (by rw [List.getElem?_append_left hj]; exact h1) ?_
  rw [List.getElem?_take] at h2
  split at h2
  · exact h2
  · cases h2
def lessH (F : Hp) (a : Addr) : Hp := fun b => if b = a then none else F b
theorem Wd.lend {a : Addr} {o : HO} {d : D} (w : Wd k A F τ H Z) (hF : F a = some o) (ho : OwnO k Z d o) (ng : isGrp d = false) : Wd k (A ++ [a]) (lessH F a) (τ ++ [d]) H Z := by
  have nA : a ∉ A := fun ha => by
    rw [(w.out a ha).2] at hF
    cases hF
  have lF : ∀ {b u}, lessH F a b = some u → F b = some u := fun {b u} e => by
    unfold lessH at e
    split at e
    · cases e
    · exact e
  refine ⟨w.zh, fun b u e => w.fh b u (lF e), fun b => ?_, by rw [List.length_append, List.length_append, w.len]; rfl, fun j b e h1 h2 => ?_, fun b hb => ?_, ?_, w.tabs, fun b u e => w.pl b u (e.imp id lF), fun b vs e => w.nt b vs (lF e), w.gr.push w.len hF (fun b f => by unfold lessH; split <;> first | rfl | exact f) ng⟩
  · rcases w.zf b with z | z
    · refine .inl ?_
      unfold lessH
      split
      · rfl
      · exact z
    · exact .inr z
  · by_cases hj : j < A.length
    · rw [List.getElem?_append_left hj] at h1
      rw [List.getElem?_append_left (by rw [← w.len]; exact hj)] at h2
      exact w.io j b e h1 h2
    · have hj2 : j = A.length := by
        have := (List.getElem?_eq_some_iff.mp h1).1
        rw [List.length_append, List.length_singleton] at this
        omega
      subst hj2
      rw [List.getElem?_append_right (Nat.le_refl _), Nat.sub_self] at h1
      rw [w.len, List.getElem?_append_right (Nat.le_refl _), Nat.sub_self] at h2
      cases h1
      cases h2
      exact ⟨o, w.fh a o hF, ho⟩
  · rcases List.mem_append.mp hb with h | h
    · refine ⟨(w.out b h).1, ?_⟩
      unfold lessH
      split
      · rfl
      · exact (w.out b h).2
    · have e : b = a := by simpa using h
      subst e
      refine ⟨(w.zf b).resolve_left fun z => ?_, if_pos rfl⟩
      rw [hF] at z; cases z
  · refine List.nodup_append.mpr ⟨w.nd, by simp, fun b hb c hc e => ?_⟩
    have : c = a := by simpa using hc
    subst this
    exact nA (e ▸ hb)
theorem rows_app {A ps : List Addr} {j n : Nat} (h : j + n ≤ A.length) : ((A ++ ps).drop j).take n = (A.drop j).take n := by
  rw [List.drop_append_of_le_length (by omega), List.take_append_of_le_length (by rw [List.length_drop]; omega)]
theorem rows_snoc {A : List Addr} {a : Addr} {j n : Nat} (h : j + n ≤ A.length) : ((A ++ [a]).drop j).take n = (A.drop j).take n := rows_app h
theorem Sl.lend {i : Nat} {a : Addr} {o : HO} {d : D} (s : Sl k A F0 F ρ σ Z) (hi : ρ[i]? = some (.own d)) (ha : σ[i]? = some (some (V.ref a))) (hF : F a = some o) (f0 : F0 a = none) : Sl k (A ++ [a]) F0 (lessH F a) (ρ.set i (.io A.length)) σ Z := by
  have hil : i < ρ.length := (List.getElem?_eq_some_iff.mp hi).1
  refine ⟨by rw [List.length_set]; exact s.len, fun j e h => ?_, fun j e h => ?_, fun j l h => ?_, fun j l e f b g1 g2 g3 g4 => ?_, fun b u hb => ?_, fun j l n h => ?_, fun j l n l2 e b g1 g2 g3 g4 => ?_⟩
  · by_cases hj : i = j
    · subst hj; rw [List.getElem?_set_self hil] at h; cases h
    · rw [List.getElem?_set_ne hj] at h; exact s.fz j e h
  · by_cases hj : i = j
    · subst hj; rw [List.getElem?_set_self hil] at h; cases h
    · rw [List.getElem?_set_ne hj] at h
      obtain ⟨b, u, g1, g2, g3, g4⟩ := s.own j e h
      have : b ≠ a := fun z => hj (s.ap i j d e a hi h ha (by rw [← z]; exact g1))
      exact ⟨b, u, g1, by unfold lessH; rw [if_neg this]; exact g2, g3, g4⟩
  · by_cases hj : i = j
    · subst hj
      rw [List.getElem?_set_self hil] at h
      cases h
      exact ⟨a, by rw [List.getElem?_append_right (Nat.le_refl _), Nat.sub_self]; rfl, ha⟩
    · rw [List.getElem?_set_ne hj] at h
      obtain ⟨b, g1, g2⟩ := s.io j l h
      exact ⟨b, by rw [List.getElem?_append_left (List.getElem?_eq_some_iff.mp g1).1]; exact g1, g2⟩
  · have n1 : i ≠ j := fun z => by subst z; rw [List.getElem?_set_self hil] at g1; cases g1
    have n2 : i ≠ l := fun z => by subst z; rw [List.getElem?_set_self hil] at g2; cases g2
    rw [List.getElem?_set_ne n1] at g1
    rw [List.getElem?_set_ne n2] at g2
    exact s.ap j l e f b g1 g2 g3 g4
  · have : b ≠ a := fun z => by rw [z, f0] at hb; cases hb
    unfold lessH
    rw [if_neg this]
    exact s.f0 b u hb
  · by_cases hj : i = j
    · subst hj; rw [List.getElem?_set_self hil] at h; cases h
    · rw [List.getElem?_set_ne hj] at h
      obtain ⟨b, g1, g2, g3, g4⟩ := s.rws j l n h
      have : b ≠ a := fun z => s.apr j l n i d a h hi (z ▸ g1) ha
      exact ⟨b, g1, by rw [List.length_append]; omega, by rw [rows_snoc g2]; unfold lessH; rw [if_neg this]; exact g3, g4⟩
  · have n1 : i ≠ j := fun z => by subst z; rw [List.getElem?_set_self hil] at g1; cases g1
    have n2 : i ≠ l2 := fun z => by subst z; rw [List.getElem?_set_self hil] at g2; cases g2
    rw [List.getElem?_set_ne n1] at g1
    rw [List.getElem?_set_ne n2] at g2
    exact s.apr j l n l2 e b g1 g2 g3 g4
end
theorem el_lend {X : Cx} {W : WX} {rest : List Stmt} {m : SS} (i : Nat) (h : EL X W false rest m) : EL X W false rest (sLend i m) := pss_weak h fun D σ H ⟨ρ, τ, A, F0, F, Z, w, s, q⟩ => by
  unfold sLend at q
  split at q
  · rename_i d hd
    obtain ⟨a, o, h1, h2, h3, h4⟩ := s.own i d hd
    cases hg : isGrp d with
    | true => rw [hg] at q; exact q.elim
    | false => ?_
    rw [hg, if_neg Bool.false_ne_true] at q
    refine ⟨ρ.set i (.io τ.length), τ ++ [d], A ++ [a], F0, lessH F a, Z, w.lend h2 h4 hg, by rw [← w.len]; exact s.lend hd h1 h2 h3, ?_⟩
    cases hm : m (ρ.set i (.io τ.length)) (τ ++ [d]) with
    | ret d' τ' =>
      rw [hm] at q
      dsimp only at q
      split at q
      · rename_i hl
        have q : ∀ H' Z' F' v, Wd (jx X W).k A F' (τ'.take τ.length) H' Z' → Same F0 F' → Same Z Z' → Rep (jx X W).k Z' d' v → D.rt v H' := q
        exact fun H' Z' F' v w' f' e' rv => q H' Z' F' v (w'.unlend hl w.len) f' e' rv
      · exact q.elim
    | nx _ _ => rw [hm] at q; exact q.elim
    | brk _ _ => rw [hm] at q; exact q.elim
    | cnt _ _ => rw [hm] at q; exact q.elim
    | exc _ _ _ => rw [hm] at q; exact q.elim
    | bad => rw [hm] at q; exact q.elim
  · exact q.elim
noncomputable def plH (H : Hp) : Hp := fun b => match H b with
  | some o => if isPl o = true then some o else none
  | none => none
theorem plH_iff {H : Hp} {b : Addr} {o : HO} : plH H b = some o ↔ H b = some o ∧ isPl o = true := by
  unfold plH
  cases hb : H b with
  | none => simp
  | some u =>
    dsimp only
    by_cases hu : isPl u = true
    · rw [if_pos hu]
      constructor
      · intro e; cases e; exact ⟨rfl, hu⟩
      · intro e; exact e.1
    · rw [if_neg hu]
      constructor
      · intro e; cases e
      · intro e; cases e.1; exact absurd e.2 hu
theorem law_sp {k : Kx} {mf : MF} {H : Hp} {a : Addr} {ns : List Int} (ht : LamX.Tabs Tb.T H) (hS : SqL k.K H a (ns.map V.int)) (hm : mf [.fz (.scr ns)] [] = .ok (.bl true) []) : SpOf k false 1 mf [.ref a] H (fun v _ => v = .bl true) fun _ _ _ => False := by
  have zH : Same (plH H) H := fun b o e => (plH_iff.mp e).1
  have hS' : SqL k.K (plH H) a (ns.map V.int) := by
    rcases hS with (h | ⟨o, h⟩) | h
    · exact .inl (.inl (plH_iff.mpr ⟨h, rfl⟩))
    · exact .inl (.inr ⟨o, plH_iff.mpr ⟨h, rfl⟩⟩)
    · exact .inr h
  refine ⟨rfl, [.fz (.scr ns)], [], [], nopH, plH H, ⟨zH, fun b o e => (nomatch e), fun b => .inl rfl, rfl, fun j b d e => (nomatch e), fun b hb => (nomatch hb), List.nodup_nil, ht, fun b o e => ?_, fun b vs e => (nomatch e), Gr.nil⟩, ?_, ?_⟩
  · rcases e with e | e
    · exact (plH_iff.mp e).2
    · cases e
  · exact ArgRel.sl (A := []) ⟨.ref a, [], rfl, rep_scr.mpr ⟨a, rfl, hS'⟩, rfl⟩
  · rw [hm]
    exact fun H' Z' v w' e' rv => rep_bl.mp rv
end Hw
set_option maxHeartbeats 1000000
namespace Hw
open PySem PySem.Spec L2
open PyProof.Rows (envOfC)
open He (Fa DefD ga ma fAd SaysD cT codeOf tabOf eqO eqO_ok)
variable [Tb]
theorem u65 {k : Nat} {A : Around} (r : Room k A) : A.units + 65 < cLine := by have := r.un; omega
theorem oexB_ok {K : PySem.W.Frag} {C : Addr} (h : oexB K C = true) : OexC K C := by
  unfold oexB at h
  obtain ⟨h1, h2⟩ := He.ba h
  obtain ⟨h3, h4⟩ := He.ba h2
  obtain ⟨h5, h6⟩ := He.ba h4
  obtain ⟨h7, h8⟩ := He.ba h6
  refine ⟨?_, eqO_ok h3, of_decide_eq_true h5, of_decide_eq_true h7, h8⟩
  split at h1
  · rename_i t dd cd sl ho
    split at h1
    · rename_i C' bm k0 k1 k2 k3 n k5 hm hs
      simp only [Bool.and_eq_true, decide_eq_true_eq, Bool.not_eq_true'] at h1
      obtain ⟨rfl, rfl, rfl, hdel, hdict, hr⟩ := h1
      obtain ⟨nm, bs, mro, ns, qn, hd, sn, sub, ab, col, del⟩ := cd
      dsimp only at hm hdel hdict
      subst hm hdel hdict
      have hsl : sl = #[k0, k1, k2, k3, some (.builtin "ValueError.__new__"), k5] := by
        obtain ⟨l⟩ := sl
        simp only at hs
        rw [hs]
      subst hsl
      exact ⟨nm, qn, ns, bs, bm, sn, sub, ab, col, dd, k0, k1, k2, k3, k5, ho, hr⟩
    · cases h1
  · cases h1
theorem fun_of {K : PySem.W.Frag} {x qual : Str} {st : Stmt} {kws : List (Str × V)} {f : Addr} {fd : FuncData} (F : FunD K x qual (defArgs st) (defBody st) (defScope st) [] kws f fd) : Fun K x qual st f fd := by
  obtain ⟨oc, od, dV, kV, doc, pm, an, cdv, ct, osl, rfl, lk, hcd, hD, _⟩ := F.ex
  rcases hD with ⟨_, rfl⟩ | ⟨e, _⟩
  · exact ⟨⟨oc, od, kV, doc, pm, an, cdv, ct, osl, rfl, lk, hcd⟩, F.kp⟩
  · exact absurd rfl e
theorem initB_ok {K : PySem.W.Frag} {x : Str} (h : initB K x = true) : PySem.W.findIn K (.ref (ga K x)) "__init__" = some (some (.ref (ma K (ga K x) "__init__"))) ∧ PySem.W.typeIn K (.ref (ma K (ga K x) "__init__")) = some (.type "function") := by
  obtain ⟨h1, h2⟩ := He.ba h
  exact ⟨eqO_ok h1, of_decide_eq_true h2⟩
section
variable {P : Program} {w : World} {K : PySem.W.Frag} {mg : Str → Option Value} {base : Heap} {x qual tag p p' : Str} {st : Stmt} {fd : FuncData} {fs : List Str} {j : Nat} {p1 p2 p3 p4 q1 q2 q3 q4 r1 r2 r3 r4 : Pos}
theorem errB_no (h : errB K x fs = true) {f : Str} (hf : f ∈ fs) : PySem.W.findIn K (.ref (ga K x)) f = some none := of_decide_eq_true (List.all_eq_true.mp (He.ba (He.ba h).2).2 f hf)
end
section
variable {X : Cx} {W : WX}
end
end Hw
set_option maxHeartbeats 1000000
namespace PySem
open Sem (wp)
end PySem
namespace Hw
open PySem PySem.Spec L2
open PyProof.Rows
open He (Fa DefD ga ma fAd)
variable [Tb]
def enS : D → Option (List D)
  | .lst ds => some (ds.zipIdx.map fun p => .tup [.int p.2, p.1])
  | .tup ds => some (ds.zipIdx.map fun p => .tup [.int p.2, p.1])
  | .ctup [] => some []
  | _ => none
def iEnS (m : SE) : SI := fun ρ τ => (m ρ τ).bind fun d τ1 => .of (enS d) τ1
section
variable {X : Cx} {W : WX} {e : Expr} {elts : List Expr} {m : SE} {p pos tpos : Pos} {kk : Nat}
end
def sqS : D → Option (List D)
  | .lst ds => some ds
  | .tup ds => some ds
  | .ctup [] => some []
  | _ => none
def iSqS (m : SE) : SI := fun ρ τ => (m ρ τ).bind fun d τ1 => .of (sqS d) τ1
section
variable {X : Cx} {W : WX} {e tg : Expr} {m : SE}
theorem eiv_sqS (h : EV X W e m) : EIV X W tg e (iSqS m) := by
  have p1 := eiv_seq (tg := tg) h
  have p2 := pi_tup (tg := tg) h
  refine ⟨fun pins s0 σ H R I q => ?_⟩
  obtain ⟨ρ, τ, A, F0, F, Z, w, s, q⟩ := q
  cases hm : m ρ τ with
  | bad => unfold iSqS at q; rw [hm] at q; exact q.elim
  | exc x τ1 =>
    refine p1.run pins s0 σ H R I ⟨ρ, τ, A, F0, F, Z, w, s, ?_⟩
    unfold iSqS at q
    unfold iSeq
    rw [hm] at q ⊢
    exact q
  | ok d τ1 =>
    unfold iSqS at q
    rw [hm] at q
    have same : ∀ ds, iSeq m ρ τ = .ok ds τ1 → sqS d = some ds → PIE X pins σ tg R = PIE X pins σ tg R → tIV (jx X W) (iSeq m) σ H R := fun ds h1 h2 _ => ⟨ρ, τ, A, F0, F, Z, w, s, by
      rw [h1]
      have q : After (jx X W) A F0 F ρ σ Z (Out.of (sqS d) τ1) fun ds _ H' Z' => ∀ J, ItOk (jx X W).k nopH Z' J ds → R J H' := q
      rw [h2] at q
      exact q⟩
    cases d with
    | lst ds => exact p1.run pins s0 σ H R I (same ds (by unfold iSeq; rw [hm]; rfl) rfl rfl)
    | tup ds => exact p1.run pins s0 σ H R I (same ds (by unfold iSeq; rw [hm]; rfl) rfl rfl)
    | ctup us =>
      cases us with
      | nil =>
        refine p2.run pins s0 σ H R I ⟨ρ, τ, A, F0, F, Z, w, s, ?_⟩
        rw [hm]
        intro H1 Z1 w1 e1 v rv
        obtain ⟨a, rfl, h2⟩ := rep_ctup.mp rv
        exact ⟨a, rfl, ⟨[], same_sqT w1.zh h2⟩, q H1 Z1 w1 e1 _ (it_tuple h2 Reps.nil)⟩
      | cons u us => exact q.elim
    | _ => exact q.elim
end
def sForD0 (i : Nat) : SS := fun ρ τ => match ρ[i]? with
  | some (.fz (.dct _ [] [])) => .nx ρ τ
  | _ => .bad
section
variable {X : Cx} {W : WX} {r : Rk} {tg : Expr} {body : List Stmt} {p pos : Pos} {x : Str}
end
section
variable {X : Cx} {k : Kx}
def dCat : D → D → Option D
  | .lst a, .lst b => if a.length + b.length ≤ sizeLine then some (.lst (a ++ b)) else none
  | _, _ => none
theorem opf_cat : OpF k rCat dCat := fun {F Z H x y d e z Q} eZ eF hx hy he q => by
  unfold dCat at he
  split at he
  · rename_i a b
    split at he
    · rename_i hl
      cases he
      obtain ⟨p, vs, h1, h2, h3⟩ := hx.lst eZ eF
      obtain ⟨p', vs', h1', h2', h3'⟩ := hy.lst eZ eF
      exact ⟨p, p', vs, vs', h1, h1', h2, h2', by rw [← h3.length, ← h3'.length]; exact hl, fun n hn => q n _ hn ⟨_, rfl, h3.append h3'⟩⟩
    · cases he
  · cases he
end
end Hw
set_option maxHeartbeats 1000000
namespace Hw
open PySem PySem.Spec L2
open He (Fa DefD ga ma fAd cT)
theorem law_at {l : PySem.W.OpenLaw} {w : World} {K : PySem.W.Frag} {mg : Str → Option Value} {h : Heap} {fa : List Fa} {fn : List DefD} {tf : List He.Defn} {ex : PySem.W.Frag → Bool} {k : Nat} {x : Str} {fl : Addr} {fd : FuncData} {mf : MF} (KX : K.In h) (c : He.SaysX fa fn [] tf ex w h K) (T : List (Addr × Str)) (hT : ∀ p ∈ T, ∃ q ∈ tf, (cT K q).2 = p.1)
    (hb : ∀ (s : Shared) (u : Value), BindsTo s fd ⟨[u], []⟩ [(x, u)]) (hF : ∀ base : Heap, K.In base → base.Ns mainGlobals mg → (∀ p ∈ tf, LamX.TabB base mg (cT K p).1 (cT K p).2) → FnOk l.prog w K mg base (Hw.CX l.prog w) k fl fd [x] (@SpOf ⟨T⟩ ⟨K, mg⟩ false 1 mf))
    (hm : ∀ ns : List Int, ns.length ≤ 63 → (∀ z ∈ ns, Builtin.Int.intBits z ≤ 1048576) → mf [.fz (.scr ns)] [] = .ok (.bl true) []) : LamX.LawAtS l w K (Hw.CX l.prog w) k 63 x mg fl h := by
  have mem : ∀ {p : Addr × Addr}, p ∈ tf.map (cT K) → ∃ q ∈ tf, cT K q = p := fun {p} hp => List.mem_map.mp hp
  refine ⟨fd, tf.map (cT K), @SpOf ⟨T⟩ ⟨K, mg⟩ false 1 mf, fun p hp => ?_, fun p hp => ?_, fun p hp => ?_, hb, fun H a ns hl hbits hH hS => ?_, fun base b1 b2 b3 => hF base b1 b2 fun p hp => b3 _ (List.mem_map.mpr ⟨p, hp, rfl⟩)⟩
  · obtain ⟨q, h1, rfl⟩ := mem hp
    exact c.empty q h1
  · obtain ⟨q, h1, rfl⟩ := mem hp
    exact c.out q h1
  · obtain ⟨q, h1, rfl⟩ := mem hp
    exact PySem.W.codeHd_of_K KX (c.hd q h1)
  · refine @law_sp ⟨T⟩ ⟨K, mg⟩ mf H a ns (fun p hp => ?_) hS (hm ns hl hbits)
    obtain ⟨q, h1, h2⟩ := hT p hp
    exact LamX.TabS.nil (by rw [← h2]; exact hH _ (List.mem_map.mpr ⟨q, h1, rfl⟩))
theorem cx_no {P : Program} {w : World} {H : Hp} {s : Shared} {e : Value} {s' : Shared} (z : Hw.CX P w [] H s (fun _ _ _ => False) e s') : False := by
  obtain ⟨_, _, _, _, _, _, _, _, _, _, _, _, z⟩ := z
  exact z
theorem Sx.tst {fa : List Fa} {fn : List DefD} {xs : List (PySem.W.Frag → Bool)} {K : PySem.W.Frag} {mg : Str → Option Value} (c : Sx fa fn (fun K => xs.all fun t => t K) K mg) (i : Nat) {t : PySem.W.Frag → Bool} (h : xs[i]? = some t := by rfl) : t K = true :=
  List.all_eq_true.mp c.more t (List.mem_of_getElem? h)
end Hw
set_option maxHeartbeats 1000000
namespace Hw
open PySem PySem.Spec L2 PyProof.Rows
section
variable {prog : Program} {w : World} {A : Around} {E : Value → Shared → Prop} {s : Shared}
end
end Hw
set_option maxHeartbeats 1000000
namespace Hw
open PySem PySem.Spec L2
variable [Tb]
section
variable {X : Cx} {W : WX} {e a b : Expr} {m ma mb : SE} {pos p p2 : Pos}
def eLstR1 (m : SE) : SE := fun ρ τ => (m ρ τ).bind fun d τ1 => match d with
  | .int j => if -(2 ^ 62) ≤ j ∧ j ≤ 16777216 then .ok (.lst ((List.range j.toNat).map fun (n : Nat) => .int n)) τ1 else .bad
  | _ => .bad
end
def tupI (ns : List Int) : D := .tup (ns.map .int)
end Hw
set_option maxHeartbeats 1000000
namespace Hw
open PySem PySem.Spec L2
variable [Tb]
def sParK (o1 o2 : Bool) (i j : Nat) (a b : SE) : SS := fun ρ τ => (a ρ τ).andS ρ fun x τ1 => (b ρ τ1).andS ρ fun y τ2 => .nx ((ρ.set i (if o1 = true then .own x else .fz x)).set j (if o2 = true then .own y else .fz y)) τ2
section
variable {X : Cx} {W : WX} {r : Rk} {a b : Expr} {ma mb : SE} {x y : Str} {px py pt pt2 pos : Pos}
theorem Sl.subF {k : Kx} {A : List Addr} {F0 F F' : Hp} {ρ : Rho} {σ : L2.St} {Z : Hp} (s : Sl k A F0 F ρ σ Z) (e : Same F F') : Sl k A F0 F' ρ σ Z :=
  ⟨s.len, s.fz, fun i d h => let ⟨x, o, p, q, r, t⟩ := s.own i d h; ⟨x, o, p, e _ _ q, r, t⟩, s.io, s.ap, s.f0.trans e, fun i j n h => let ⟨a, h1, h2, h3, h4⟩ := s.rws i j n h; ⟨a, h1, h2, e _ _ h3, h4⟩, s.apr⟩
end
def putV (i : Nat) (ix : SE) (d : D) : SS := fun ρ τ => match getC i ρ τ with
  | none => .bad
  | some _ => (ix ρ τ).andS ρ fun j τ2 => match getC i ρ τ2 with
    | some (.lst ds) => match j with
      | .int n => match ixN ds.length n with
        | some l => .nx (setC i (.lst (ds.set l d)) ρ τ2).1 (setC i (.lst (ds.set l d)) ρ τ2).2
        | none => .bad
      | _ => .bad
    | _ => .bad
def sPut2 (i : Nat) (ix1 ix2 : SE) (m : SE) : SS := fun ρ τ => (m ρ τ).andS ρ fun d τ1 => match d with
  | .tup [x, y] => sSeq (putV i ix1 x) (putV i ix2 y) ρ τ1
  | _ => .bad
section
variable {X : Cx} {W : WX} {r : Rk} {e ie ie2 : Expr} {m mi mi2 : SE} {pos p2 p3 p4 p5 p6 : Pos} {x : Str}
end
def eGet2 (m mi mx : SE) : SE := fun ρ τ => (m ρ τ).bind fun d τ1 => match d with
  | .dct t ks vs => (mi ρ τ1).bind fun c τ2 => (mx ρ τ2).bind fun z τ3 => if isKey t c = true ∧ ks.length = vs.length then .ok ((getD2 t ks vs c).getD z) τ3 else .bad
  | _ => .bad
section
variable {X : Cx} {W : WX} {e ie f : Expr} {m mi mx : SE} {apos cpos : Pos}
end
def rApp (a b : SR) : SR := fun ρ τ => (a ρ τ).bind fun xs τ1 => (b ρ τ1).bind fun ys τ2 => .ok (xs ++ ys) τ2
section
variable {X : Cx} {W : WX} {e : Expr} {es : List Expr} {kws : List Keyword} {n m : Nat} {ma : SE} {mr mk : SR} {pos p kpos : Pos} {x c : Str} {nm : Option Str} {f C : Addr} {fd : FuncData} {ps ks : List Str} {k : Nat} {mf : MF}
theorem pk_weak {t t' : TA} (h : PK X kws t) (hi : ∀ σ H Q, t' σ H Q → t σ H Q) : PK X kws t' := ⟨fun p pins s σ H Q I q => h.run p pins s σ H Q I (hi σ H Q q)⟩
end
end Hw
namespace Hw
open PySem PySem.Spec L2
variable [Tb]
section
variable {X : Cx} {W : WX} {e : Expr} {m : SE} {p p2 pos : Pos}
end
end Hw
set_option maxHeartbeats 1000000
namespace Hw
open PySem PySem.Spec L2
variable [Tb]
def sPar3 (i j l : Nat) (a b c : SE) : SS := fun ρ τ => (a ρ τ).andS ρ fun x τ1 => (b ρ τ1).andS ρ fun y τ2 => (c ρ τ2).andS ρ fun z τ3 => .nx (((ρ.set i (.fz x)).set j (.fz y)).set l (.fz z)) τ3
section
variable {X : Cx} {W : WX} {r : Rk} {a b c : Expr} {ma mb mc : SE} {x y z : Str} {px py pz pt pt2 pos : Pos}
end
end Hw
set_option maxHeartbeats 2000000
namespace LamD
open PySem PySem.Spec PyProof.Rows L2 LamX
section
variable {X : Cx} {pins : List (Addr × Obj)} {σ : L2.St} {H : Hp} {s : Shared}
end
section
variable {X : Cx} {pins : List (Addr × Obj)} {σ : L2.St} {H HZ : Hp} {s s1 : Shared}
end
section
variable {X : Cx}
end
end LamD
namespace Hw
open PySem PySem.Spec L2
open He (ga)
section
variable [Tb] {X : Cx} {W : WX}
end
end Hw
namespace Hw
open PySem PySem.Spec L2
variable [Tb]
section
variable {A : List Addr} {F0 F Z Z' : Hp} {ρ : Rho} {σ : L2.St}
def frzL : List Nat → Rho → Rho
  | [], ρ => ρ
  | i :: is, ρ => frzL is (frzR i ρ)
def noIo1 : Sv → Sv
  | .io _ => .no
  | .rows _ _ => .no
  | x => x
theorem Wd.kp {k : Kx} {τ : Tau} {H F1 Z1 H' Z' : Hp} {τ' : Tau} (w1 : Wd k A F1 τ H Z1) (w' : Wd k [] (hidF H Z1) τ' H' Z') (e' : Same Z1 Z') {b : Addr} {o : HO} (hb : H b = some o) (pb : isPm o = true) : H' b = some o := by
  cases hz : Z1 b with
  | none => exact w'.fh b o (hidF_iff.mpr ⟨hz, hb, pb⟩)
  | some u =>
    have h1 := w1.zh b u hz
    rw [hb] at h1
    cases h1
    exact w'.zh b _ (e' b _ hz)
end
def eScal (is : List Nat) (m : SE) : SE := fun ρ τ => match m ((frzL is ρ).map noIo1) [] with
  | .ok z [] => if isFl z = true then .ok z τ else .bad
  | _ => .bad
theorem rep_flat {k : Kx} {Z Z' : Hp} {d : D} {v : V} (h : isFl d = true) (r : Rep k Z d v) : Rep k Z' d v := by
  cases d with
  | non => exact rep_non.mpr (rep_non.mp r)
  | bl b => exact rep_bl.mpr (rep_bl.mp r)
  | int i => exact rep_int.mpr (rep_int.mp r)
  | str x => exact rep_str.mpr (rep_str.mp r)
  | _ => cases h
section
variable {X : Cx} {W : WX} {e : Expr} {m : SE}
end
section
variable {X : Cx} {W : WX} {r : Rk} {a b : Expr} {ma mb : SE} {x y : Str} {px py pt pt2 pos : Pos}
theorem tup_new {k : Kx} {A : List Addr} {F : Hp} {τ : Tau} {H Z : Hp} {p : Addr} {vs : List V} (w : Wd k A F τ H Z) (hp : H p = none) : Wd k A F τ (upd H p (.tup vs)) (upd Z p (.tup vs)) ∧ Same Z (upd Z p (.tup vs)) := ⟨w.alloc hp rfl, same_new (none_of_same w.zh hp)⟩
end
end Hw
namespace PySem.SeqAt
open MeetsSeq MeetsSeq2 MeetsSeq3 SeqRoads2
open PySem PySem.Spec
end PySem.SeqAt
namespace L2
open PySem PySem.Spec PyProof.Rows
section
variable {X : Cx}
end
end L2
namespace Hw
open PySem PySem.Spec L2
variable [Tb]
section
variable {X : Cx} {W : WX} {e ye ie : Expr} {m my mi : SE} {apos cpos : Pos}
end
section
variable {X : Cx} {W : WX} {r : Rk} {ae pe : Expr} {ma mp : SE} {x : Str} {pos cpos apos cpos2 apos2 p2 p3 : Pos}
end
end Hw
namespace Hw
open PySem PySem.Spec L2 PyProof.Rows
section
variable {X : Cx} {p pos : Pos}
end
end Hw
namespace Hw
open PySem PySem.Spec L2
open He (ga ma)
variable [Tb]
section
variable {X : Cx} {W : WX} {r : Rk} {C fI : Addr} {fd : FuncData} {ps : List Str} {k : Nat} {x : Str} {p pos pos' : Pos} {fsV : List V → List (Str × V)} {fs : List Str} {vals : List D → List D}
end
section
variable {P : Program} {w : World} {K : PySem.W.Frag} {mg : Str → Option Value} {base : Heap} {x qual tag : Str} {st : Stmt} {fd : FuncData} {j : Nat} {p1 p2 p3 p4 : Pos}
end
end Hw
namespace Hw
open PySem PySem.Spec L2
variable [Tb]
def kvsOf (ps : List Addr) : List (Key × V) := ps.zipIdx.map fun q => ((.inl (q.2 : Int) : Key), V.ref q.1)
theorem Wd.unlendL {k : Kx} {A : List Addr} {F : Hp} {τ : Tau} {H Z : Hp} {ps : List Addr} (w : Wd k (A ++ ps) F τ H Z) : Wd k A F (τ.take A.length) H Z := by
  have hl := w.len
  rw [List.length_append] at hl
  refine ⟨w.zh, w.fh, w.zf, by rw [List.length_take]; omega, fun j b d h1 h2 => ?_, fun b hb => w.out b (List.mem_append_left _ hb), (List.nodup_append.mp w.nd).1, w.tabs, w.pl, w.nt, w.gr.take _⟩
  have hj : j < A.length := (List.getElem?_eq_some_iff.mp h1).1
  refine w.io j b d (by rw [List.getElem?_append_left hj]; exact h1) ?_
  rw [List.getElem?_take, if_pos hj] at h2
  exact h2
structure SpJ (k : Kx) (A : List Addr) (F0 : Hp) (isp : Nat) (ps : List Addr) (asp : Addr) (ρ : Rho) (τ : Tau) (F : Hp) (σ : L2.St) (H Z : Hp) : Prop where
  w : Wd k (A ++ ps) F τ H Z
  s : Sl k (A ++ ps) (upd F0 asp (.dK (kvsOf ps))) F ρ σ Z
  no : ρ[isp]? = some .no
  at_ : σ[isp]? = some (some (V.ref asp))
  f0 : F0 asp = none
  io : ∀ (i j : Nat), ρ[i]? = some (.io j) → j < A.length
  rr : ∀ (i j n : Nat), ρ[i]? = some (.rows j n) → j + n ≤ A.length
theorem SpJ.f {k : Kx} {A : List Addr} {F0 : Hp} {isp : Nat} {ps : List Addr} {asp : Addr} {ρ : Rho} {τ : Tau} {F : Hp} {σ : L2.St} {H Z : Hp} (h : SpJ k A F0 isp ps asp ρ τ F σ H Z) : F asp = some (.dK (kvsOf ps)) := h.s.f0 _ _ upd_same
section
variable {X : Cx} {W : WX} {r : Rk} {rest : List Stmt} {n : SS} {mi1 mi2 : SI} {mlc mk : SE} {isp ic ie ig : Nat}
end
end Hw
namespace Hw
open PySem PySem.Spec L2
variable [Tb]
section
variable {X : Cx} {W : WX} {r : Rk} {a b c d : Expr} {ma mb mc md : SE} {x y z w : Str} {px py pz pw pt pt2 pos : Pos}
end
end Hw
open PySem
namespace SrtO
open PySem PyProof.Rows Srt
variable {prog : Program} {w : World} {A : Around} {E : Value → Shared → Prop} {s : Shared}
end SrtO
namespace L2
open PySem PySem.Spec PyProof.Rows
end L2
namespace Hw
open PySem PySem.Spec L2
variable [Tb]
end Hw
set_option maxHeartbeats 4000000
namespace L2
open PySem PySem.Spec PyProof.Rows
theorem tuple_mulS (l : Addr) (items : Array Value) (n : Nat) (dd : Option Addr) (sl : Array (Option Value)) (x : Int) (u : Tok) (c0 : (decide (x < -(2 ^ 63)) || decide (x ≥ 2 ^ 63)) = false) (c1 : (items.isEmpty || x == 1) = true) :
    Meets (Builtin.«tuple.__mul__» ⟨[.ref l, .int x u], []⟩) (fun _ R s => s.heap.get? l = some { cls := .type "tuple", dict := dd, data := .seq items n, slots := sl } ∧ R (.ok (.ret (Value.ref l))) s) :=
  .of_wp fun prog w A R s h => by
    obtain ⟨hp, g, d, tk, os⟩ := s
    obtain ⟨hl, h⟩ := h
    have f1 := AutoSeq1.idx_int
    wp_walk using wpAny_loadPart' hl
    repeat (first
      | (refine wpAny_ite_false (decide_eq_false (by rw [c0]; exact Bool.false_ne_true)) ?_; wp_walk using wpAny_loadPart' hl)
      | (refine wpAny_ite_true (decide_eq_true (by rw [c1])) ?_; wp_walk using wpAny_loadPart' hl))
    exact ⟨_, rfl, h⟩
theorem tuple_mul0 (l : Addr) (items : Array Value) (n : Nat) (dd : Option Addr) (sl : Array (Option Value)) (x : Int) (u : Tok) (c0 : (decide (x < -(2 ^ 63)) || decide (x ≥ 2 ^ 63)) = false) (c1 : (items.isEmpty || x == 1) = false) (c2 : (decide (x ≤ 0) || items.isEmpty) = true) :
    Meets (Builtin.«tuple.__mul__» ⟨[.ref l, .int x u], []⟩) (fun _ R s => s.heap.get? l = some { cls := .type "tuple", dict := dd, data := .seq items n, slots := sl } ∧
      R (.ok (.ret (Value.ref s.heap.objs.size))) { s with heap := s.heap.push { cls := Value.type "tuple", data := Data.seq #[] }, toks := s.toks }) :=
  .of_wp fun prog w A R s h => by
    obtain ⟨hp, g, d, tk, os⟩ := s
    obtain ⟨hl, h⟩ := h
    have f1 := AutoSeq1.idx_int
    wp_walk using wpAny_loadPart' hl
    repeat (first
      | (refine wpAny_ite_false (decide_eq_false (by rw [c0]; exact Bool.false_ne_true)) ?_; wp_walk using wpAny_loadPart' hl)
      | (refine wpAny_ite_false (decide_eq_false (by rw [c1]; exact Bool.false_ne_true)) ?_; wp_walk using wpAny_loadPart' hl)
      | (refine wpAny_ite_true (decide_eq_true (by rw [c2])) ?_; wp_walk using wpAny_loadPart' hl))
    exact ⟨_, rfl, h⟩
def rRepTS (K : PySem.W.Frag) : R2 := fun x y H Q => ∃ l k xs, x = .ref l ∧ y = .int k ∧ SqT K H l xs ∧ (xs = [] ∨ k = 1) ∧ -(2 ^ 63) ≤ k ∧ k < 2 ^ 63 ∧ Q (.ref l) H
def rRepT0 (K : PySem.W.Frag) : R2 := fun x y H Q => ∃ l k xs, x = .ref l ∧ y = .int k ∧ SqT K H l xs ∧ xs ≠ [] ∧ k ≤ 0 ∧ -(2 ^ 63) ≤ k ∧ ∀ p, H p = none → Q (.ref p) (upd H p (.tup []))
section
variable {X : Cx}
theorem op_repTS : OpR X (binaryOp .Mult) (rRepTS X.K) := by
  intro pins s σ H x y v u Q I rx ry h
  obtain ⟨l, k, xs, rfl, rfl, hT, hor, h1, h2, q⟩ := h
  cases rx
  obtain ⟨t, rfl⟩ := ry
  obtain ⟨its, r, ⟨⟨cls, dd, data, sl⟩, ho, hc, n, hd⟩, hs⟩ := I.tuple hT
  simp only at hc hd
  subst hc hd
  have hle : its.length = xs.length := r.length.symm
  have c0 : (decide (k < -(2 ^ 63)) || decide (k ≥ 2 ^ 63)) = false := by
    rw [decide_eq_false (by omega), decide_eq_false (by omega)] <;> rfl
  have c1 : (its.toArray.isEmpty || k == 1) = true := by
    rcases hor with e | e
    · have : its = [] := List.eq_nil_of_length_eq_zero (by rw [hle, e]; rfl)
      subst this
      rfl
    · subst e
      rw [Bool.or_eq_true]
      exact .inr rfl
  refine wpAny_binaryOp_repeat_ref (T := "tuple") (U := "int") (by decide) ⟨_, ho, rfl⟩ (fun s' => typeIs_int s' k t) noFill_tuple_mul F.fills_int_mul F.slot_int_rmul repeat_tuple F.slot_int_index.lookup
    (call_meets F.slot_int_rmul (typeIs_int s k t) F.entry_int_rmul (F.args_int_rmul_2 _ _) (int_rmul_tuple k t l its.toArray n dd sl)
      ⟨ho, rfl, ⟨_, ho, rfl⟩, call_meets F.slot_tuple_mul ⟨_, ho, rfl⟩ F.entry_tuple_mul (F.args_tuple_mul_2 _ _) (tuple_mulS l its.toArray n dd sl k t c0 c1) ⟨ho, ?_⟩⟩)
  exact ⟨.ref l, H, I, rfl, q⟩
theorem op_repT0 : OpR X (binaryOp .Mult) (rRepT0 X.K) := by
  intro pins s σ H x y v u Q I rx ry h
  obtain ⟨l, k, xs, rfl, rfl, hT, hne, h1, h2, q⟩ := h
  cases rx
  obtain ⟨t, rfl⟩ := ry
  obtain ⟨its, r, ⟨⟨cls, dd, data, sl⟩, ho, hc, n, hd⟩, hs⟩ := I.tuple hT
  simp only at hc hd
  subst hc hd
  have hle : its.length = xs.length := r.length.symm
  have hn : its ≠ [] := fun e => hne (by
    rw [e] at hle
    exact List.eq_nil_of_length_eq_zero hle.symm)
  have hi : its.toArray.isEmpty = false := by
    cases its with
    | nil => exact absurd rfl hn
    | cons a b => rfl
  have c0 : (decide (k < -(2 ^ 63)) || decide (k ≥ 2 ^ 63)) = false := by
    rw [decide_eq_false (by omega), decide_eq_false (by omega)] <;> rfl
  have c1 : (its.toArray.isEmpty || k == 1) = false := by
    rw [hi, Bool.false_or]
    exact beq_eq_false_iff_ne.mpr (by omega)
  have c2 : (decide (k ≤ 0) || its.toArray.isEmpty) = true := by
    rw [decide_eq_true h1]
    rfl
  refine wpAny_binaryOp_repeat_ref (T := "tuple") (U := "int") (by decide) ⟨_, ho, rfl⟩ (fun s' => typeIs_int s' k t) noFill_tuple_mul F.fills_int_mul F.slot_int_rmul repeat_tuple F.slot_int_index.lookup
    (call_meets F.slot_int_rmul (typeIs_int s k t) F.entry_int_rmul (F.args_int_rmul_2 _ _) (int_rmul_tuple k t l its.toArray n dd sl)
      ⟨ho, rfl, ⟨_, ho, rfl⟩, call_meets F.slot_tuple_mul ⟨_, ho, rfl⟩ F.entry_tuple_mul (F.args_tuple_mul_2 _ _) (tuple_mul0 l its.toArray n dd sl k t c0 c1 c2) ⟨ho, ?_⟩⟩)
  refine ⟨.ref s.heap.objs.size, _, I.laid (t' := s.toks) (o := .tup []) (fun b ob q => Heap.get?_push_of_some _ q) (Nat.le_refl _) ?_, rfl, q _ (I.hok.fresh (Nat.le_refl _))⟩
  exact ⟨by simp, _, r.rep 0, IsTup.new _ _⟩
end
end L2
namespace Hw
open PySem PySem.Spec L2
variable [Tb] {k : Kx}
def dMulT : D → D → Option D
  | .tup a, .int j => if a.length ≤ 1000 ∧ -(2 ^ 62) ≤ j ∧ j ≤ 1000 then some (.tup (List.replicate j.toNat a).flatten) else none
  | d, e => dMul d e
def rMulT (K : PySem.W.Frag) : R2 := fun x y H Q => rMulA x y H Q ∨ (rRepT K x y H Q ∨ (rRepTS K x y H Q ∨ rRepT0 K x y H Q))
theorem op_mulT {X : Cx} : OpR X (binaryOp .Mult) (rMulT X.K) := OpR.or op_mulA (OpR.or op_repT (OpR.or op_repTS op_repT0))
theorem opd_mulT : OpD k (rMulT k.K) dMulT := fun {F Z H x y d e z Q} eZ eF hx hy he q => by
  unfold dMulT at he
  split at he
  · rename_i a j
    split at he
    · rename_i hc
      cases he
      rcases hx with rv | ⟨_, _, _, _, z⟩
      · obtain ⟨p, vs, rfl, h2, h3⟩ := rep_tup.mp rv
        have hT : SqT k.K H p vs := SqT.of (eZ _ _ h2)
        have hlen := h3.length
        by_cases h0 : vs = [] ∨ j = 1
        · have hwhole : (List.replicate j.toNat a).flatten = a := by
            rcases h0 with e | e
            · have : a = [] := List.eq_nil_of_length_eq_zero (by rw [hlen, e]; rfl)
              subst this
              induction j.toNat with
              | zero => rfl
              | succ m ih => rw [List.replicate_succ, List.flatten_cons, ih]; rfl
            · subst e
              simp
          rw [hwhole] at q
          exact .inr (.inr (.inl ⟨p, j, vs, rfl, hy.int, hT, h0, by omega, by omega, q.1 _ rv⟩))
        · have hne : vs ≠ [] := fun e => h0 (.inl e)
          have hj : j ≠ 1 := fun e => h0 (.inr e)
          rcases Int.lt_or_le 0 j with hp | hp
          · exact .inr (.inl ⟨p, j, vs, rfl, hy.int, hT, hne, by omega, hc.2.2, by rw [← hlen]; exact hc.1, fun p' hp' => q.tup (reps_rep h3 _) hp' eZ⟩)
          · have hz : j.toNat = 0 := by omega
            rw [hz] at q
            exact .inr (.inr (.inr ⟨p, j, vs, rfl, hy.int, hT, hne, hp, by omega, fun p' hp' => q.tup Reps.nil hp' eZ⟩))
      · exact z.elim
    · cases he
  · exact .inl (opd_mul eZ eF hx hy he q)
end Hw
set_option maxHeartbeats 2000000
namespace Hw
open PySem PySem.Spec L2
variable [Tb]
def fCnt (d y : D) : Option D := match d, y with
  | .lst ds, .int k => (intsOf ds).map fun ns => .int (ns.count k : Nat)
  | _, _ => none
def eMt1 (f : D → D → Option D) (m my : SE) : SE := fun ρ τ => (m ρ τ).bind fun d τ1 => match d with
  | .lst ds => (my ρ τ1).bind fun y τ2 => .of (f (.lst ds) y) τ2
  | _ => .bad
section
variable {X : Cx} {W : WX} {e ye : Expr} {m my : SE} {apos cpos : Pos}
end
def dIsB : D → D → Option D
  | .bl a, .bl b => some (.bl (decide (a = b)))
  | _, _ => none
def dNotB : D → D → Option D
  | .bl a, .bl b => some (.bl (!decide (a = b)))
  | _, _ => none
def fRevL (d : D) : Option D := match d with
  | .lst ds => some (.lst ds.reverse)
  | _ => none
section
variable {X : Cx} {W : WX} {e : Expr} {m : SE} {p1 p2 p3 pos : Pos} {k : Nat}
end
def kX (o : Bool) (d : D) : Sv := if o = true then .own d else .fz d
def sPar3K (o1 o2 o3 : Bool) (i j l : Nat) (a b c : SE) : SS := fun ρ τ => (a ρ τ).andS ρ fun x τ1 => (b ρ τ1).andS ρ fun y τ2 => (c ρ τ2).andS ρ fun z τ3 => .nx (((ρ.set i (kX o1 x)).set j (kX o2 y)).set l (kX o3 z)) τ3
section
variable {X : Cx} {W : WX} {r : Rk} {a b c : Expr} {ma mb mc : SE} {x y z : Str} {px py pz pt pt2 pos : Pos}
end
end Hw
set_option maxHeartbeats 2000000
namespace Hw
open PySem PySem.Spec L2
open PyProof.Rows
variable [Tb]
def ItX (t : Bool) (h : Heap) (it a : Addr) (i : Nat) : Prop := if t = true then h.IsTupleIter it a i else h.IsListIter it a i
theorem ItX.at {t : Bool} {h h' : Heap} {it a : Addr} {i : Nat} (p : ItX t h it a i) (k : ∀ o, h.get? it = some o → h'.get? it = some o) : ItX t h' it a i := by
  cases t with
  | true => exact Heap.IsTupleIter.at (show h.IsTupleIter it a i from p) k
  | false => exact Heap.IsListIter.at (show h.IsListIter it a i from p) k
def itoX (t : Bool) (l : Addr) : Obj := { cls := .type (if t = true then "tuple_iterator" else "list_iterator"), data := .fields #[.ref l, .int 0 0] }
theorem ItX.start {t : Bool} {h : Heap} {it l : Addr} (e : h.get? it = some (itoX t l)) : ItX t h it l 0 := by
  cases t with
  | true => exact ⟨_, e, rfl, rfl⟩
  | false => exact ⟨_, e, rfl, rfl⟩
section
variable {X : Cx} {pins : List (Addr × Obj)} {σ : L2.St} {H : Hp} {s : Shared}
end
def sqD : D → Option (Bool × List D)
  | .lst ds => some (false, ds)
  | .tup ds => some (true, ds)
  | _ => none
def zipD (ds es : List D) : List D := (ds.zip es).map fun p => .tup [p.1, p.2]
def fZp (x y : D) : Option (List D) := match sqD x, sqD y with
  | some p, some q => some (zipD p.2 q.2)
  | _, _ => none
def iZpX (a b : SE) : SI := fun ρ τ => (a ρ τ).bind fun x τ1 => (b ρ τ1).bind fun y τ2 => .of (fZp x y) τ2
section
variable {X : Cx} {W : WX} {e e2 : Expr} {elts : List Expr} {m m2 : SE} {p pos tpos : Pos} {kk : Nat}
end
end Hw
set_option maxHeartbeats 400000
namespace Hw
open PySem PySem.Spec L2
def Fl.sq (o : Fl) (b : SS) : Fl := match o with
  | .nx ρ τ => b ρ τ
  | .ret d τ => .ret d τ
  | .brk ρ τ => .brk ρ τ
  | .cnt ρ τ => .cnt ρ τ
  | .exc e ρ τ => .exc e ρ τ
  | .bad => .bad
def Fl.out (r : Bool) (o : Fl) : Out D := match o with
  | .ret d τ => .ok d τ
  | .nx _ τ => if r = true then .bad else .ok .non τ
  | .exc e _ τ => .exc e τ
  | _ => .bad
def Out.back (τ1 : Tau) (o : Out D) : Out D := match o with
  | .ok d _ => .ok d τ1
  | .exc e _ => .exc e τ1
  | .bad => .bad
def selB {α : Type} (z : D) (x y : Out α) : Out α := match z with
  | .bl b => if b = true then x else y
  | _ => .bad
section
variable {α β : Type} {a : α} {τ τ1 τ2 : Tau} {ρ ρ1 : Rho} {e : Exc} {d : D} {c : Prop} [Decidable c]
theorem Zd6 {f : α → Tau → Out β} : (Out.ok a τ).bind f = f a τ := (rfl)
theorem Zd7 {f : α → Tau → Out β} : (Out.exc e τ : Out α).bind f = .exc e τ := (rfl)
theorem Zd8 {f : α → Tau → Out β} : (Out.bad : Out α).bind f = .bad := (rfl)
theorem Zd9 {x y : Out α} {f : α → Tau → Out β} : (if c then x else y).bind f = if c then x.bind f else y.bind f := by split <;> rfl
theorem Zea {f : α → Tau → Fl} : (Out.ok a τ).andS ρ f = f a τ := (rfl)
theorem Zeb {f : α → Tau → Fl} : (Out.exc e τ : Out α).andS ρ f = .exc e ρ τ := (rfl)
theorem Zec {f : α → Tau → Fl} : (Out.bad : Out α).andS ρ f = .bad := (rfl)
theorem Zed {x y : Out α} {f : α → Tau → Fl} : (if c then x else y).andS ρ f = if c then x.andS ρ f else y.andS ρ f := by split <;> rfl
theorem Zee {z : α} : Out.of (some z) τ = .ok z τ := (rfl)
theorem Zef : Out.of (none : Option α) τ = .bad := (rfl)
theorem Zeg {x y : Option α} : Out.of (if c then x else y) τ = if c then Out.of x τ else Out.of y τ := by split <;> rfl
theorem Zeh {b : SS} : (Fl.nx ρ τ).sq b = b ρ τ := (rfl)
theorem Zei {b : SS} : (Fl.ret d τ).sq b = .ret d τ := (rfl)
theorem Zej {b : SS} : (Fl.brk ρ τ).sq b = .brk ρ τ := (rfl)
theorem Zek {b : SS} : (Fl.cnt ρ τ).sq b = .cnt ρ τ := (rfl)
theorem Zel {b : SS} : (Fl.exc e ρ τ).sq b = .exc e ρ τ := (rfl)
theorem Zem {b : SS} : Fl.bad.sq b = .bad := (rfl)
theorem Zen {x y : Fl} {b : SS} : (if c then x else y).sq b = if c then x.sq b else y.sq b := by split <;> rfl
theorem Zeo {r : Bool} : (Fl.ret d τ).out r = .ok d τ := (rfl)
theorem Zep : (Fl.nx ρ τ).out false = .ok .non τ := (rfl)
theorem Zeq {r : Bool} : (Fl.exc e ρ τ).out r = .exc e τ := (rfl)
theorem Zer {r : Bool} {x y : Fl} : (if c then x else y).out r = if c then x.out r else y.out r := by split <;> rfl
theorem Zes : (Out.ok d τ2).back τ1 = .ok d τ1 := (rfl)
theorem Zet : (Out.exc e τ2).back τ1 = .exc e τ1 := (rfl)
theorem Zeu {x y : Out D} : (if c then x else y).back τ1 = if c then x.back τ1 else y.back τ1 := by split <;> rfl
theorem Zev {b : Bool} {x y : Out α} : selB (.bl b) x y = if b = true then x else y := (rfl)
theorem Zew {z z' : D} {x y : Out α} : selB (if c then z else z') x y = if c then selB z x y else selB z' x y := by split <;> rfl
end
def kBin2 (f : D → D → Option D) (y : D) : D → Tau → Out D := fun x τ1 => Out.of (f y x) τ1
theorem Zaa (f : D → D → Option D) (y : D) {x : D} {τ1 : Tau} : kBin2 f y x τ1 = Out.of (f y x) τ1 := (rfl)
def kBin (f : D → D → Option D) (b : SE) (ρ : Rho) : D → Tau → Out D := fun x τ1 => (b ρ τ1).bind (kBin2 f x)
theorem Zab (f : D → D → Option D) (b : SE) (ρ : Rho) {x : D} {τ1 : Tau} : kBin f b ρ x τ1 = (b ρ τ1).bind (kBin2 f x) := (rfl)
def kUn (f : D → Option D) : D → Tau → Out D := fun x τ1 => Out.of (f x) τ1
theorem Zac (f : D → Option D) {x : D} {τ1 : Tau} : kUn f x τ1 = Out.of (f x) τ1 := (rfl)
def kIfE (a b : SE) (ρ : Rho) : Bool → Tau → Out D := fun x τ1 => if x = true then a ρ τ1 else b ρ τ1
theorem Zad (a b : SE) (ρ : Rho) {x : Bool} {τ1 : Tau} : kIfE a b ρ x τ1 = if x = true then a ρ τ1 else b ρ τ1 := (rfl)
def kAndT (u : ST) (ρ : Rho) : Bool → Tau → Out Bool := fun x τ1 => if x = true then u ρ τ1 else .ok false τ1
theorem Zae (u : ST) (ρ : Rho) {x : Bool} {τ1 : Tau} : kAndT u ρ x τ1 = if x = true then u ρ τ1 else .ok false τ1 := (rfl)
def kOrT (u : ST) (ρ : Rho) : Bool → Tau → Out Bool := fun x τ1 => if x = true then .ok true τ1 else u ρ τ1
theorem Zaf (u : ST) (ρ : Rho) {x : Bool} {τ1 : Tau} : kOrT u ρ x τ1 = if x = true then .ok true τ1 else u ρ τ1 := (rfl)
def kNotT  : Bool → Tau → Out Bool := fun x τ1 => Out.ok (!x) τ1
theorem Zag  {x : Bool} {τ1 : Tau} : kNotT  x τ1 = Out.ok (!x) τ1 := (rfl)
def kCons2 (y : D) : List D → Tau → Out (List D) := fun xs τ1 => Out.ok (y :: xs) τ1
theorem Zah (y : D) {xs : List D} {τ1 : Tau} : kCons2 y xs τ1 = Out.ok (y :: xs) τ1 := (rfl)
def kCons (r : SA) (ρ : Rho) : D → Tau → Out (List D) := fun x τ1 => (r ρ τ1).bind (kCons2 x)
theorem Zai (r : SA) (ρ : Rho) {x : D} {τ1 : Tau} : kCons r ρ x τ1 = (r ρ τ1).bind (kCons2 x) := (rfl)
def kCallB (f : List D → Option D) : List D → Tau → Out D := fun xs τ1 => Out.of (f xs) τ1
theorem Zaj (f : List D → Option D) {xs : List D} {τ1 : Tau} : kCallB f xs τ1 = Out.of (f xs) τ1 := (rfl)
def kTup  : List D → Tau → Out D := fun xs τ1 => if xs.length ≤ sizeLine then Out.ok (.tup xs) τ1 else .bad
theorem Zak  {xs : List D} {τ1 : Tau} : kTup  xs τ1 = if xs.length ≤ sizeLine then Out.ok (.tup xs) τ1 else .bad := (rfl)
def kLst  : List D → Tau → Out D := fun xs τ1 => if xs.length ≤ sizeLine then Out.ok (.lst xs) τ1 else .bad
theorem Zal  {xs : List D} {τ1 : Tau} : kLst  xs τ1 = if xs.length ≤ sizeLine then Out.ok (.lst xs) τ1 else .bad := (rfl)
def kDrop (ρ : Rho) : D → Tau → Fl := fun x τ1 => Fl.nx ρ τ1
theorem Zam (ρ : Rho) {x : D} {τ1 : Tau} : kDrop ρ x τ1 = Fl.nx ρ τ1 := (rfl)
def kRet  : D → Tau → Fl := fun x τ1 => Fl.ret x τ1
theorem Zan  {x : D} {τ1 : Tau} : kRet  x τ1 = Fl.ret x τ1 := (rfl)
def kIfS (a b : SS) (ρ : Rho) : Bool → Tau → Fl := fun x τ1 => if x = true then a ρ τ1 else b ρ τ1
theorem Zao (a b : SS) (ρ : Rho) {x : Bool} {τ1 : Tau} : kIfS a b ρ x τ1 = if x = true then a ρ τ1 else b ρ τ1 := (rfl)
def kSet (i : Nat) (ρ : Rho) : D → Tau → Fl := fun x τ1 => Fl.nx (ρ.set i (.fz x)) τ1
theorem Zap (i : Nat) (ρ : Rho) {x : D} {τ1 : Tau} : kSet i ρ x τ1 = Fl.nx (ρ.set i (.fz x)) τ1 := (rfl)
def kSetF (i : Nat) (ρ : Rho) : D → Tau → Fl := fun x τ1 => Fl.nx (ρ.set i (.own x)) τ1
theorem Zaq (i : Nat) (ρ : Rho) {x : D} {τ1 : Tau} : kSetF i ρ x τ1 = Fl.nx (ρ.set i (.own x)) τ1 := (rfl)
def kFor (g : SG) (b : SS) (ρ : Rho) : List D → Tau → Fl := fun xs τ1 => forL g b xs ρ τ1
theorem Zar (g : SG) (b : SS) (ρ : Rho) {xs : List D} {τ1 : Tau} : kFor g b ρ xs τ1 = forL g b xs ρ τ1 := (rfl)
def kPar2 (i j : Nat) (ρ : Rho) (y : D) : D → Tau → Fl := fun x τ1 => Fl.nx ((ρ.set i (.fz y)).set j (.fz x)) τ1
theorem Zas (i j : Nat) (ρ : Rho) (y : D) {x : D} {τ1 : Tau} : kPar2 i j ρ y x τ1 = Fl.nx ((ρ.set i (.fz y)).set j (.fz x)) τ1 := (rfl)
def kPar (i j : Nat) (b : SE) (ρ : Rho) : D → Tau → Fl := fun x τ1 => (b ρ τ1).andS ρ (kPar2 i j ρ x)
theorem Zat (i j : Nat) (b : SE) (ρ : Rho) {x : D} {τ1 : Tau} : kPar i j b ρ x τ1 = (b ρ τ1).andS ρ (kPar2 i j ρ x) := (rfl)
def kAnd (b : SE) (ρ : Rho) : D → Tau → Out D := fun x τ1 => selB x (b ρ τ1) (.ok (.bl false) τ1)
theorem Zau (b : SE) (ρ : Rho) {x : D} {τ1 : Tau} : kAnd b ρ x τ1 = selB x (b ρ τ1) (.ok (.bl false) τ1) := (rfl)
def kOr (b : SE) (ρ : Rho) : D → Tau → Out D := fun x τ1 => selB x (.ok (.bl true) τ1) (b ρ τ1)
theorem Zav (b : SE) (ρ : Rho) {x : D} {τ1 : Tau} : kOr b ρ x τ1 = selB x (.ok (.bl true) τ1) (b ρ τ1) := (rfl)
def kNot  : D → Tau → Out D := fun x τ1 => match x with
  | .bl b => Out.ok (.bl (!b)) τ1
  | _ => .bad
theorem Zaw  {x : D} {τ1 : Tau} : kNot  x τ1 = match x with
  | .bl b => Out.ok (.bl (!b)) τ1
  | _ => .bad := (rfl)
def kCh3 (g : D → D → Option D) (y : D) (c : SE) (ρ : Rho) : D → Tau → Out D := fun x τ1 => selB x ((c ρ τ1).bind (kBin2 g y)) (.ok (.bl false) τ1)
theorem Zax (g : D → D → Option D) (y : D) (c : SE) (ρ : Rho) {x : D} {τ1 : Tau} : kCh3 g y c ρ x τ1 = selB x ((c ρ τ1).bind (kBin2 g y)) (.ok (.bl false) τ1) := (rfl)
def kCh2 (f g : D → D → Option D) (y : D) (c : SE) (ρ : Rho) : D → Tau → Out D := fun x τ1 => (Out.of (f y x) τ1).bind (kCh3 g x c ρ)
theorem Zay (f g : D → D → Option D) (y : D) (c : SE) (ρ : Rho) {x : D} {τ1 : Tau} : kCh2 f g y c ρ x τ1 = (Out.of (f y x) τ1).bind (kCh3 g x c ρ) := (rfl)
def kCh1 (f g : D → D → Option D) (b c : SE) (ρ : Rho) : D → Tau → Out D := fun x τ1 => (b ρ τ1).bind (kCh2 f g x c ρ)
theorem Zaz (f g : D → D → Option D) (b c : SE) (ρ : Rho) {x : D} {τ1 : Tau} : kCh1 f g b c ρ x τ1 = (b ρ τ1).bind (kCh2 f g x c ρ) := (rfl)
def kSl3 (f : D → Option Int → Option Int → Option D) (d : D) (h : Option Int) : Option Int → Tau → Out D := fun l τ1 => Out.of (f d h l) τ1
theorem Za0 (f : D → Option Int → Option Int → Option D) (d : D) (h : Option Int) {l : Option Int} {τ1 : Tau} : kSl3 f d h l τ1 = Out.of (f d h l) τ1 := (rfl)
def kSl2 (f : D → Option Int → Option Int → Option D) (d : D) (m : SO) (ρ : Rho) : Option Int → Tau → Out D := fun l τ1 => (m ρ τ1).bind (kSl3 f d l)
theorem Za1 (f : D → Option Int → Option Int → Option D) (d : D) (m : SO) (ρ : Rho) {l : Option Int} {τ1 : Tau} : kSl2 f d m ρ l τ1 = (m ρ τ1).bind (kSl3 f d l) := (rfl)
def kSl1 (f : D → Option Int → Option Int → Option D) (ml mh : SO) (ρ : Rho) : D → Tau → Out D := fun x τ1 => (ml ρ τ1).bind (kSl2 f x mh ρ)
theorem Za2 (f : D → Option Int → Option Int → Option D) (ml mh : SO) (ρ : Rho) {x : D} {τ1 : Tau} : kSl1 f ml mh ρ x τ1 = (ml ρ τ1).bind (kSl2 f x mh ρ) := (rfl)
def koSo  : D → Tau → Out (Option Int) := fun x τ1 => match x with
  | .int i => Out.ok (some i) τ1
  | _ => .bad
theorem Za3  {x : D} {τ1 : Tau} : koSo  x τ1 = match x with
  | .int i => Out.ok (some i) τ1
  | _ => .bad := (rfl)
def kOfL (f : D → Option (List D)) : D → Tau → Out (List D) := fun x τ1 => Out.of (f x) τ1
theorem Za4 (f : D → Option (List D)) {x : D} {τ1 : Tau} : kOfL f x τ1 = Out.of (f x) τ1 := (rfl)
def krC2 (y : D) : List Sv → Tau → Out (List Sv) := fun xs τ1 => Out.ok (.fz y :: xs) τ1
theorem Za5 (y : D) {xs : List Sv} {τ1 : Tau} : krC2 y xs τ1 = Out.ok (.fz y :: xs) τ1 := (rfl)
def krC (r : SR) (ρ : Rho) : D → Tau → Out (List Sv) := fun x τ1 => (r ρ τ1).bind (krC2 x)
theorem Za6 (r : SR) (ρ : Rho) {x : D} {τ1 : Tau} : krC r ρ x τ1 = (r ρ τ1).bind (krC2 x) := (rfl)
def krIo (j : Nat) : List Sv → Tau → Out (List Sv) := fun xs τ1 => Out.ok (.io j :: xs) τ1
theorem Za7 (j : Nat) {xs : List Sv} {τ1 : Tau} : krIo j xs τ1 = Out.ok (.io j :: xs) τ1 := (rfl)
def krDef (ds : List D) : List Sv → Tau → Out (List Sv) := fun xs τ1 => Out.ok (xs ++ ds.map .fz) τ1
theorem Za8 (ds : List D) {xs : List Sv} {τ1 : Tau} : krDef ds xs τ1 = Out.ok (xs ++ ds.map .fz) τ1 := (rfl)
def kCall (mf : MF) : List Sv → Tau → Out D := fun xs τ1 => if noIo xs = true then (match mf xs [] with
  | .ok d _ => .ok d τ1
  | .exc e _ => .exc e τ1
  | .bad => .bad) else .bad
theorem Za9 (mf : MF) {xs : List Sv} {τ1 : Tau} : kCall mf xs τ1 = if noIo xs = true then (mf xs []).back τ1 else .bad := (rfl)
def kCallIo (mf : MF) : List Sv → Tau → Out D := fun xs τ1 => mf xs τ1
theorem Zba (mf : MF) {xs : List Sv} {τ1 : Tau} : kCallIo mf xs τ1 = mf xs τ1 := (rfl)
def kRaise (c : Str) (n : Nat) (fs : List Str) (vals : List D → List D) (ρ : Rho) : List D → Tau → Fl := fun xs τ1 => if xs.length = n then Fl.exc ⟨c, fs, vals xs⟩ ρ τ1 else .bad
theorem Zbb (c : Str) (n : Nat) (fs : List Str) (vals : List D → List D) (ρ : Rho) {xs : List D} {τ1 : Tau} : kRaise c n fs vals ρ xs τ1 = if xs.length = n then Fl.exc ⟨c, fs, vals xs⟩ ρ τ1 else .bad := (rfl)
def ktOf  : D → Tau → Out Bool := fun x τ1 => match x with
  | .bl b => Out.ok b τ1
  | _ => .bad
theorem Zbc  {x : D} {τ1 : Tau} : ktOf  x τ1 = match x with
  | .bl b => Out.ok b τ1
  | _ => .bad := (rfl)
def kTgt (g : SG) (ρ : Rho) : D → Tau → Fl := fun x τ1 => match g x ρ with
  | some ρ1 => Fl.nx ρ1 τ1
  | none => .bad
theorem Zbd (g : SG) (ρ : Rho) {x : D} {τ1 : Tau} : kTgt g ρ x τ1 = match g x ρ with
  | some ρ1 => Fl.nx ρ1 τ1
  | none => .bad := (rfl)
def kRng1  : List D → Tau → Out (List D) := fun xs τ1 => match xs with
  | [.int j] => if -4611686018427387904 ≤ j ∧ j < 4611686018427387904 then Out.ok ((List.range j.toNat).map fun (n : Nat) => .int n) τ1 else .bad
  | _ => .bad
theorem Zbe  {xs : List D} {τ1 : Tau} : kRng1  xs τ1 = match xs with
  | [.int j] => if -4611686018427387904 ≤ j ∧ j < 4611686018427387904 then Out.ok ((List.range j.toNat).map fun (n : Nat) => .int n) τ1 else .bad
  | _ => .bad := (rfl)
def kRng2  : List D → Tau → Out (List D) := fun xs τ1 => match xs with
  | [.int i, .int j] => if -4611686018427387904 ≤ i ∧ i < 4611686018427387904 ∧ -4611686018427387904 ≤ j ∧ j < 4611686018427387904 then Out.ok ((List.range (j - i).toNat).map fun (n : Nat) => .int (i + n)) τ1 else .bad
  | _ => .bad
theorem Zbf  {xs : List D} {τ1 : Tau} : kRng2  xs τ1 = match xs with
  | [.int i, .int j] => if -4611686018427387904 ≤ i ∧ i < 4611686018427387904 ∧ -4611686018427387904 ≤ j ∧ j < 4611686018427387904 then Out.ok ((List.range (j - i).toNat).map fun (n : Nat) => .int (i + n)) τ1 else .bad
  | _ => .bad := (rfl)
def kEn  : D → Tau → Out (List D) := fun x τ1 => match x with
  | .lst ds => Out.ok (ds.zipIdx.map fun p => .tup [.int p.2, p.1]) τ1
  | _ => .bad
theorem Zbg  {x : D} {τ1 : Tau} : kEn  x τ1 = match x with
  | .lst ds => Out.ok (ds.zipIdx.map fun p => .tup [.int p.2, p.1]) τ1
  | _ => .bad := (rfl)
def kZp2 (y : D) : D → Tau → Out (List D) := fun x τ1 => match y, x with
  | .lst ds, .lst es => Out.ok ((ds.zip es).map fun p => .tup [p.1, p.2]) τ1
  | _, _ => .bad
theorem Zbh (y : D) {x : D} {τ1 : Tau} : kZp2 y x τ1 = match y, x with
  | .lst ds, .lst es => Out.ok ((ds.zip es).map fun p => .tup [p.1, p.2]) τ1
  | _, _ => .bad := (rfl)
def kZp (b : SE) (ρ : Rho) : D → Tau → Out (List D) := fun x τ1 => (b ρ τ1).bind (kZp2 x)
theorem Zbi (b : SE) (ρ : Rho) {x : D} {τ1 : Tau} : kZp b ρ x τ1 = (b ρ τ1).bind (kZp2 x) := (rfl)
def kiLst  : D → Tau → Out (List D) := fun x τ1 => match x with
  | .lst ds => Out.ok ds τ1
  | _ => .bad
theorem Zbj  {x : D} {τ1 : Tau} : kiLst  x τ1 = match x with
  | .lst ds => Out.ok ds τ1
  | _ => .bad := (rfl)
def kLc2  : List D → Tau → Out D := fun xs τ1 => if xs.length ≤ sizeLine then Out.ok (.lst xs) τ1 else .bad
theorem Zbk  {xs : List D} {τ1 : Tau} : kLc2  xs τ1 = if xs.length ≤ sizeLine then Out.ok (.lst xs) τ1 else .bad := (rfl)
def kLc (g : SG) (t : ST) (m : SE) (ρ : Rho) (vs : List Nat) : List D → Tau → Out D := fun xs τ1 => (lcL g t m (wipeR ρ vs) xs τ1).bind kLc2
theorem Zbl (g : SG) (t : ST) (m : SE) (ρ : Rho) (vs : List Nat) {xs : List D} {τ1 : Tau} : kLc g t m ρ vs xs τ1 = (lcL g t m (wipeR ρ vs) xs τ1).bind kLc2 := (rfl)
def kMut (i : Nat) (f : D → List D → Option D) (ρ : Rho) : List D → Tau → Fl := fun xs τ1 => match getC i ρ τ1 with
  | none => Fl.bad
  | some c => match f c xs with
    | none => .bad
    | some c1 => .nx (setC i c1 ρ τ1).1 (setC i c1 ρ τ1).2
theorem Zbm (i : Nat) (f : D → List D → Option D) (ρ : Rho) {xs : List D} {τ1 : Tau} : kMut i f ρ xs τ1 = match getC i ρ τ1 with
  | none => Fl.bad
  | some c => match f c xs with
    | none => .bad
    | some c1 => .nx (setC i c1 ρ τ1).1 (setC i c1 ρ τ1).2 := (rfl)
def kPut2 (i : Nat) (ρ : Rho) (d : D) : D → Tau → Fl := fun x τ1 => match getC i ρ τ1 with
  | some (.lst ds) => match x with
    | .int n => match ixN ds.length n with
      | some l => Fl.nx (setC i (.lst (ds.set l d)) ρ τ1).1 (setC i (.lst (ds.set l d)) ρ τ1).2
      | none => .bad
    | _ => .bad
  | _ => .bad
theorem Zbn (i : Nat) (ρ : Rho) (d : D) {x : D} {τ1 : Tau} : kPut2 i ρ d x τ1 = match getC i ρ τ1 with
  | some (.lst ds) => match x with
    | .int n => match ixN ds.length n with
      | some l => Fl.nx (setC i (.lst (ds.set l d)) ρ τ1).1 (setC i (.lst (ds.set l d)) ρ τ1).2
      | none => .bad
    | _ => .bad
  | _ => .bad := (rfl)
def kPut (i : Nat) (ix : SE) (ρ : Rho) : D → Tau → Fl := fun x τ1 => match getC i ρ τ1 with
  | none => Fl.bad
  | some _ => (ix ρ τ1).andS ρ (kPut2 i ρ x)
theorem Zbo (i : Nat) (ix : SE) (ρ : Rho) {x : D} {τ1 : Tau} : kPut i ix ρ x τ1 = match getC i ρ τ1 with
  | none => Fl.bad
  | some _ => (ix ρ τ1).andS ρ (kPut2 i ρ x) := (rfl)
def kDPut2 (i : Nat) (ρ : Rho) (d : D) : D → Tau → Fl := fun x τ1 => match getC i ρ τ1 with
  | some (.dct t ks vs) => if isKey t x = true ∧ ks.length < sizeLine ∧ ks.length = vs.length then Fl.nx (setC i (putD t ks vs x d) ρ τ1).1 (setC i (putD t ks vs x d) ρ τ1).2 else .bad
  | _ => .bad
theorem Zbp (i : Nat) (ρ : Rho) (d : D) {x : D} {τ1 : Tau} : kDPut2 i ρ d x τ1 = match getC i ρ τ1 with
  | some (.dct t ks vs) => if isKey t x = true ∧ ks.length < sizeLine ∧ ks.length = vs.length then Fl.nx (setC i (putD t ks vs x d) ρ τ1).1 (setC i (putD t ks vs x d) ρ τ1).2 else .bad
  | _ => .bad := (rfl)
def kDPut (i : Nat) (ix : SE) (ρ : Rho) : D → Tau → Fl := fun x τ1 => match getC i ρ τ1 with
  | none => Fl.bad
  | some _ => (ix ρ τ1).andS ρ (kDPut2 i ρ x)
theorem Zbq (i : Nat) (ix : SE) (ρ : Rho) {x : D} {τ1 : Tau} : kDPut i ix ρ x τ1 = match getC i ρ τ1 with
  | none => Fl.bad
  | some _ => (ix ρ τ1).andS ρ (kDPut2 i ρ x) := (rfl)
def kFldS (i : Nat) (c f : Str) (ρ : Rho) : D → Tau → Fl := fun x τ1 => match getC i ρ τ1 with
  | some y => match dPutF c f y x with
    | some z => Fl.nx (setC i z ρ τ1).1 (setC i z ρ τ1).2
    | none => .bad
  | none => .bad
theorem Zbr (i : Nat) (c f : Str) (ρ : Rho) {x : D} {τ1 : Tau} : kFldS i c f ρ x τ1 = match getC i ρ τ1 with
  | some y => match dPutF c f y x with
    | some z => Fl.nx (setC i z ρ τ1).1 (setC i z ρ τ1).2
    | none => .bad
  | none => .bad := (rfl)
def kMake (c : Str) (mf : MF) : List Sv → Tau → Out D := fun xs τ1 => if noIo xs = true then (match mf (.io 0 :: xs) [.ins c [] []] with
  | .ok .non [d] => Out.ok d τ1
  | .exc e [_] => .exc e τ1
  | _ => .bad) else .bad
theorem Zbs (c : Str) (mf : MF) {xs : List Sv} {τ1 : Tau} : kMake c mf xs τ1 = if noIo xs = true then (match mf (.io 0 :: xs) [.ins c [] []] with
  | .ok .non [d] => Out.ok d τ1
  | .exc e [_] => .exc e τ1
  | _ => .bad) else .bad := (rfl)
def kLenO (c : Str) (mf : MF) : D → Tau → Out D := fun x τ1 => match x with
  | .ins c' fs ds => if c' = c then (match mf [.fz x] [] with
      | .ok (.int n) [] => if 0 ≤ n ∧ n < 9223372036854775808 then Out.ok (.int n) τ1 else .bad
      | _ => .bad) else .bad
  | _ => .bad
theorem Zbt (c : Str) (mf : MF) {x : D} {τ1 : Tau} : kLenO c mf x τ1 = match x with
  | .ins c' fs ds => if c' = c then (match mf [.fz x] [] with
      | .ok (.int n) [] => if 0 ≤ n ∧ n < 9223372036854775808 then Out.ok (.int n) τ1 else .bad
      | _ => .bad) else .bad
  | _ => .bad := (rfl)
def kPt2 (i : Nat) (ix1 ix2 : SE) (ρ : Rho) : D → Tau → Fl := fun x τ1 => match x with
  | .tup [a, b] => sSeq (putV i ix1 a) (putV i ix2 b) ρ τ1
  | _ => Fl.bad
theorem Zbu (i : Nat) (ix1 ix2 : SE) (ρ : Rho) {x : D} {τ1 : Tau} : kPt2 i ix1 ix2 ρ x τ1 = match x with
  | .tup [a, b] => sSeq (putV i ix1 a) (putV i ix2 b) ρ τ1
  | _ => Fl.bad := (rfl)
def kPar3c (i j l : Nat) (ρ : Rho) (y z : D) : D → Tau → Fl := fun x τ1 => Fl.nx (((ρ.set i (.fz y)).set j (.fz z)).set l (.fz x)) τ1
theorem Zbv (i j l : Nat) (ρ : Rho) (y z : D) {x : D} {τ1 : Tau} : kPar3c i j l ρ y z x τ1 = Fl.nx (((ρ.set i (.fz y)).set j (.fz z)).set l (.fz x)) τ1 := (rfl)
def kPar3b (i j l : Nat) (c : SE) (ρ : Rho) (y : D) : D → Tau → Fl := fun x τ1 => (c ρ τ1).andS ρ (kPar3c i j l ρ y x)
theorem Zbw (i j l : Nat) (c : SE) (ρ : Rho) (y : D) {x : D} {τ1 : Tau} : kPar3b i j l c ρ y x τ1 = (c ρ τ1).andS ρ (kPar3c i j l ρ y x) := (rfl)
def kPar3a (i j l : Nat) (b c : SE) (ρ : Rho) : D → Tau → Fl := fun x τ1 => (b ρ τ1).andS ρ (kPar3b i j l c ρ x)
theorem Zbx (i j l : Nat) (b c : SE) (ρ : Rho) {x : D} {τ1 : Tau} : kPar3a i j l b c ρ x τ1 = (b ρ τ1).andS ρ (kPar3b i j l c ρ x) := (rfl)
def kParK2 (o1 o2 : Bool) (i j : Nat) (ρ : Rho) (y : D) : D → Tau → Fl := fun x τ1 => Fl.nx ((ρ.set i (if o1 = true then .own y else .fz y)).set j (if o2 = true then .own x else .fz x)) τ1
theorem Zby (o1 o2 : Bool) (i j : Nat) (ρ : Rho) (y : D) {x : D} {τ1 : Tau} : kParK2 o1 o2 i j ρ y x τ1 = Fl.nx ((ρ.set i (if o1 = true then .own y else .fz y)).set j (if o2 = true then .own x else .fz x)) τ1 := (rfl)
def kParK1 (o1 o2 : Bool) (i j : Nat) (b : SE) (ρ : Rho) : D → Tau → Fl := fun x τ1 => (b ρ τ1).andS ρ (kParK2 o1 o2 i j ρ x)
theorem Zbz (o1 o2 : Bool) (i j : Nat) (b : SE) (ρ : Rho) {x : D} {τ1 : Tau} : kParK1 o1 o2 i j b ρ x τ1 = (b ρ τ1).andS ρ (kParK2 o1 o2 i j ρ x) := (rfl)
def kGet3 (t : Bool) (ks vs : List D) (c : D) : D → Tau → Out D := fun x τ1 => if isKey t c = true ∧ ks.length = vs.length then Out.ok ((getD2 t ks vs c).getD x) τ1 else .bad
theorem Zb0 (t : Bool) (ks vs : List D) (c : D) {x : D} {τ1 : Tau} : kGet3 t ks vs c x τ1 = if isKey t c = true ∧ ks.length = vs.length then Out.ok ((getD2 t ks vs c).getD x) τ1 else .bad := (rfl)
def kGet2 (t : Bool) (ks vs : List D) (m : SE) (ρ : Rho) : D → Tau → Out D := fun x τ1 => (m ρ τ1).bind (kGet3 t ks vs x)
theorem Zb1 (t : Bool) (ks vs : List D) (m : SE) (ρ : Rho) {x : D} {τ1 : Tau} : kGet2 t ks vs m ρ x τ1 = (m ρ τ1).bind (kGet3 t ks vs x) := (rfl)
def kGet1 (mi mx : SE) (ρ : Rho) : D → Tau → Out D := fun x τ1 => match x with
  | .dct t ks vs => (mi ρ τ1).bind (kGet2 t ks vs mx ρ)
  | _ => .bad
theorem Zb2 (mi mx : SE) (ρ : Rho) {x : D} {τ1 : Tau} : kGet1 mi mx ρ x τ1 = match x with
  | .dct t ks vs => (mi ρ τ1).bind (kGet2 t ks vs mx ρ)
  | _ => .bad := (rfl)
def krApp2 (ys : List Sv) : List Sv → Tau → Out (List Sv) := fun xs τ1 => Out.ok (ys ++ xs) τ1
theorem Zb3 (ys : List Sv) {xs : List Sv} {τ1 : Tau} : krApp2 ys xs τ1 = Out.ok (ys ++ xs) τ1 := (rfl)
def krApp (b : SR) (ρ : Rho) : List Sv → Tau → Out (List Sv) := fun xs τ1 => (b ρ τ1).bind (krApp2 xs)
theorem Zb4 (b : SR) (ρ : Rho) {xs : List Sv} {τ1 : Tau} : krApp b ρ xs τ1 = (b ρ τ1).bind (krApp2 xs) := (rfl)
def kLstR1  : D → Tau → Out D := fun x τ1 => match x with
  | .int j => if -4611686018427387904 ≤ j ∧ j ≤ 16777216 then Out.ok (.lst ((List.range j.toNat).map fun (n : Nat) => .int n)) τ1 else .bad
  | _ => .bad
theorem Zb5  {x : D} {τ1 : Tau} : kLstR1  x τ1 = match x with
  | .int j => if -4611686018427387904 ≤ j ∧ j ≤ 16777216 then Out.ok (.lst ((List.range j.toNat).map fun (n : Nat) => .int n)) τ1 else .bad
  | _ => .bad := (rfl)
end Hw
set_option maxHeartbeats 400000
namespace Hw
open PySem PySem.Spec L2
section
variable {ρ : Rho} {τ : Tau} {a b m : SE} {t u : ST} {i : Nat}
theorem Zb6 {r : Bool} {N : Nat} {mb : SS} : runB r N mb ρ τ = (mb (ρ ++ List.replicate (N - ρ.length) .no) τ).out r := (rfl)
theorem a_C {d : D} : eC d ρ τ = .ok d τ := (rfl)
theorem Zb7 {f : D → D → Option D} : eBin f a b ρ τ = (a ρ τ).bind (kBin f b ρ) := (rfl)
theorem Zb8 {f : D → Option D} : eUn f a ρ τ = (a ρ τ).bind (kUn f) := (rfl)
theorem Zb9  : eIf t a b ρ τ = (t ρ τ).bind (kIfE a b ρ) := (rfl)
theorem Zca  : Hw.tAnd t u ρ τ = (t ρ τ).bind (kAndT u ρ) := (rfl)
theorem Zcb  : Hw.tOr t u ρ τ = (t ρ τ).bind (kOrT u ρ) := (rfl)
theorem Zcc  : Hw.tNot t ρ τ = (t ρ τ).bind kNotT := (rfl)
theorem Zcd  : Hw.tYes ρ τ = .ok true τ := (rfl)
theorem Zce  : aNil ρ τ = .ok [] τ := (rfl)
theorem Zcf {r : SA} : aCons a r ρ τ = (a ρ τ).bind (kCons r ρ) := (rfl)
theorem Zcg {f : List D → Option D} {r : SA} : eCallB f r ρ τ = (r ρ τ).bind (kCallB f) := (rfl)
theorem Zch {r : SA} : eTup r ρ τ = (r ρ τ).bind kTup := (rfl)
theorem Zci {r : SA} : eLst r ρ τ = (r ρ τ).bind kLst := (rfl)
theorem Zcj  : sNext ρ τ = .nx ρ τ := (rfl)
theorem Zck  : sBrk ρ τ = .brk ρ τ := (rfl)
theorem Zcl  : sCnt ρ τ = .cnt ρ τ := (rfl)
theorem Zcm  : sBad ρ τ = .bad := (rfl)
theorem Zcn {x y : SS} : sSeq x y ρ τ = (x ρ τ).sq y := (rfl)
theorem Zco  : sDrop m ρ τ = (m ρ τ).andS ρ (kDrop ρ) := (rfl)
theorem Zcp  : sRet m ρ τ = (m ρ τ).andS ρ kRet := (rfl)
theorem Zcq {x y : SS} : sIf t x y ρ τ = (t ρ τ).andS ρ (kIfS x y ρ) := (rfl)
theorem Zcr  : sSet i m ρ τ = (m ρ τ).andS ρ (kSet i ρ) := (rfl)
theorem Zcs  : sSetF i m ρ τ = (m ρ τ).andS ρ (kSetF i ρ) := (rfl)
theorem Zct {x : SS} : sFrz i x ρ τ = x (frzR i ρ) τ := (rfl)
theorem Zcu {mi : SI} {g : SG} {x : SS} : sFor mi g x ρ τ = (mi ρ τ).andS ρ (kFor g x ρ) := (rfl)
theorem Zcv {j : Nat} : sPar i j a b ρ τ = (a ρ τ).andS ρ (kPar i j b ρ) := (rfl)
theorem Zcw  : eAnd a b ρ τ = (a ρ τ).bind (kAnd b ρ) := by
  show (a ρ τ).bind _ = _
  congr 1
  funext x τ1
  cases x with
  | bl b => cases b <;> rfl
  | _ => rfl
theorem Zcx  : eOr a b ρ τ = (a ρ τ).bind (kOr b ρ) := by
  show (a ρ τ).bind _ = _
  congr 1
  funext x τ1
  cases x with
  | bl b => cases b <;> rfl
  | _ => rfl
theorem Zcy  : eNot a ρ τ = (a ρ τ).bind kNot := (rfl)
theorem Zcz {f g : D → D → Option D} {c : SE} : eChain f g a b c ρ τ = (a ρ τ).bind (kCh1 f g b c ρ) := by
  show (a ρ τ).bind _ = _
  congr 1
  funext x τ1
  show (b ρ τ1).bind _ = (b ρ τ1).bind _
  congr 1
  funext y τ2
  show (Out.of (f x y) τ2).bind _ = (Out.of (f x y) τ2).bind _
  congr 1
  funext z τ3
  cases z with
  | bl b => cases b <;> rfl
  | _ => rfl
theorem Zc0 {f : D → Option Int → Option Int → Option D} {ml mh : SO} : eSl f m ml mh ρ τ = (m ρ τ).bind (kSl1 f ml mh ρ) := (rfl)
theorem Zc1  : oNo ρ τ = .ok none τ := (rfl)
theorem Zc2  : oSo m ρ τ = (m ρ τ).bind koSo := (rfl)
theorem Zc3  : iSqS m ρ τ = (m ρ τ).bind (kOfL sqS) := (rfl)
theorem Zc4  : iEnS m ρ τ = (m ρ τ).bind (kOfL enS) := (rfl)
theorem Zc5  : rNil ρ τ = .ok [] τ := (rfl)
theorem Zc6 {r : SR} : rCons a r ρ τ = (a ρ τ).bind (krC r ρ) := (rfl)
theorem Zc7 {r : SR} {ds : List D} : rDef r ds ρ τ = (r ρ τ).bind (krDef ds) := (rfl)
theorem Zc8 {r : SR} : rIo i r ρ τ = match ρ[i]? with
  | some (.io j) => (r ρ τ).bind (krIo j)
  | _ => .bad := (rfl)
theorem Zc9 {mf : MF} {r : SR} : eCallIo mf r ρ τ = (r ρ τ).bind (kCallIo mf) := (rfl)
theorem Zda {mf : MF} {r : SR} : eCall mf r ρ τ = (r ρ τ).bind (kCall mf) := (rfl)
theorem Zdb {c : Str} {n : Nat} {fs : List Str} {vals : List D → List D} {m : SA} : sRaise c n fs vals m ρ τ = (m ρ τ).andS ρ (kRaise c n fs vals ρ) := (rfl)
theorem Zdc  : eVar i ρ τ = match ρ[i]? with
  | some (.fz d) => .ok d τ
  | _ => .bad := (rfl)
theorem Zdd  : eVarB i ρ τ = match ρ[i]? with
  | some (.fz d) => .ok d τ
  | some (.own d) => .ok d τ
  | _ => .bad := (rfl)
theorem Zde  : tOf m ρ τ = (m ρ τ).bind ktOf := (rfl)
theorem Zdf {g : SG} : sTgt g m ρ τ = (m ρ τ).andS ρ (kTgt g ρ) := (rfl)
theorem Zdg  : sRetOwn i ρ τ = match ρ[i]? with
  | some (.own d) => .ret d τ
  | _ => .bad := (rfl)
theorem Zdh {n : Int} : eIoIx i n ρ τ = match ρ[i]? with
  | some (.io j) => match τ[j]? with
    | some (.lst ds) => .of (atI ds n) τ
    | _ => .bad
  | _ => .bad := (rfl)
theorem a_Lend {x : SS} : sLend i x ρ τ = match ρ[i]? with
  | some (.own d) => if isGrp d = true then .bad else match x (ρ.set i (.io τ.length)) (τ ++ [d]) with
    | .ret d' τ' => if τ'.length = τ.length + 1 then .ret d' (τ'.take τ.length) else .bad
    | _ => .bad
  | _ => .bad := (rfl)
theorem Zdi {r : SA} : iRng1 r ρ τ = (r ρ τ).bind kRng1 := (rfl)
theorem Zdj {r : SA} : iRng2 r ρ τ = (r ρ τ).bind kRng2 := (rfl)
theorem Zdk  : iEn m ρ τ = (m ρ τ).bind kEn := (rfl)
theorem Zdl  : iZp a b ρ τ = (a ρ τ).bind (kZp b ρ) := (rfl)
theorem Zdm  : iLst m ρ τ = (m ρ τ).bind kiLst := (rfl)
theorem Zdn {mi : SI} {g : SG} {vs : List Nat} : eLc mi g vs t m ρ τ = (mi ρ τ).bind (kLc g t m ρ vs) := (rfl)
theorem Zdo {f : D → List D → Option D} {r : SA} : sMut i f r ρ τ = match getC i ρ τ with
  | none => .bad
  | some c0 => if isLst c0 = true then (r ρ τ).andS ρ (kMut i f ρ) else .bad := (rfl)
theorem Zdp {ix : SE} : sPut i ix m ρ τ = (m ρ τ).andS ρ (kPut i ix ρ) := (rfl)
theorem Zdq {ix : SE} : sDPut' i ix m ρ τ = (m ρ τ).andS ρ (kDPut i ix ρ) := (rfl)
theorem Zdr {c f : Str} : sFldS i c f m ρ τ = (m ρ τ).andS ρ (kFldS i c f ρ) := (rfl)
theorem Zds {tab : List (Str × List Str)} {w1 w2 : Str} : eTried tab w1 w2 m ρ τ = match m ρ τ with
  | .ok d τ1 => .ok (.tup [.str w1, d]) τ1
  | .exc e τ1 => match tab.lookup e.c with
    | some fs => match tellD e fs with
      | some ds => if ds.length < 1000 then .ok (.tup (.str w2 :: ds)) τ1 else .bad
      | none => .bad
    | none => .bad
  | .bad => .bad := (rfl)
theorem Zdt {c : Str} {mf : MF} {r : SR} : eMake c mf r ρ τ = (r ρ τ).bind (kMake c mf) := (rfl)
theorem Zdu {c : Str} {mf : MF} : eLenO c mf m ρ τ = (m ρ τ).bind (kLenO c mf) := (rfl)
theorem Zdv  : sForD0 i ρ τ = match ρ[i]? with
  | some (.fz (.dct _ [] [])) => .nx ρ τ
  | _ => .bad := (rfl)
theorem Zdw  : getC i ρ τ = match ρ[i]? with
  | some (.own d) => some d
  | some (.io j) => τ[j]?
  | _ => none := (rfl)
theorem Zdx {ix1 ix2 : SE} : sPut2 i ix1 ix2 m ρ τ = (m ρ τ).andS ρ (kPt2 i ix1 ix2 ρ) := (rfl)
theorem Zdy {ix : SE} {d : D} : putV i ix d ρ τ = match getC i ρ τ with
  | none => .bad
  | some _ => (ix ρ τ).andS ρ (kPut2 i ρ d) := (rfl)
theorem Zdz {j l : Nat} {c : SE} : sPar3 i j l a b c ρ τ = (a ρ τ).andS ρ (kPar3a i j l b c ρ) := (rfl)
theorem Zd0 {o1 o2 : Bool} {j : Nat} : sParK o1 o2 i j a b ρ τ = (a ρ τ).andS ρ (kParK1 o1 o2 i j b ρ) := (rfl)
theorem Zd1  : eGet2 m a b ρ τ = (m ρ τ).bind (kGet1 a b ρ) := (rfl)
theorem Zd2 {r1 r2 : SR} : rApp r1 r2 ρ τ = (r1 ρ τ).bind (krApp r2 ρ) := (rfl)
theorem Zd3  : eLstR1 m ρ τ = (m ρ τ).bind kLstR1 := (rfl)
theorem Zd4 {d : D} : setC i d ρ τ = match ρ[i]? with
  | some (.own _) => (ρ.set i (.own d), τ)
  | some (.io j) => (ρ, τ.set j d)
  | _ => (ρ, τ) := (rfl)
theorem Zd5 : frzR i ρ = match ρ[i]? with
  | some (.own d) => ρ.set i (.fz d)
  | _ => ρ := (rfl)
theorem g_N {d : D} : gN i d ρ = some (ρ.set i (.fz d)) := (rfl)
theorem Zex {g : SGs} {ds : List D} : gT g (.tup ds) ρ = g ds ρ := (rfl)
theorem Zey {g : SGs} {ds : List D} : gT g (.lst ds) ρ = g ds ρ := (rfl)
theorem Zez : gsNil [] ρ = some ρ := (rfl)
theorem Ze0 {g : SG} {r : SGs} {d : D} {ds : List D} : gsCons g r (d :: ds) ρ = match g d ρ with
  | some ρ1 => r ds ρ1
  | none => none := (rfl)
def Fl.lp (o : Fl) (g : SG) (x : SS) (ds : List D) : Fl := match o with
  | .nx ρ τ => forL g x ds ρ τ
  | .cnt ρ τ => forL g x ds ρ τ
  | .brk ρ τ => .nx ρ τ
  | .ret d τ => .ret d τ
  | .exc e ρ τ => .exc e ρ τ
  | .bad => .bad
theorem for_cons {g : SG} {x : SS} {d : D} {ds : List D} : forL g x (d :: ds) ρ τ = match g d ρ with
  | none => .bad
  | some ρ1 => (x ρ1 τ).lp g x ds := (rfl)
theorem Zhb {g : SG} {x : SS} {ds : List D} : (Fl.nx ρ τ).lp g x ds = forL g x ds ρ τ := (rfl)
theorem Zhc {g : SG} {x : SS} {ds : List D} : (Fl.cnt ρ τ).lp g x ds = forL g x ds ρ τ := (rfl)
theorem Zhd {g : SG} {x : SS} {ds : List D} : (Fl.brk ρ τ).lp g x ds = .nx ρ τ := (rfl)
theorem Zhe {g : SG} {x : SS} {ds : List D} {d : D} : (Fl.ret d τ).lp g x ds = .ret d τ := (rfl)
theorem Zhf {g : SG} {x : SS} {ds : List D} {e : Exc} : (Fl.exc e ρ τ).lp g x ds = .exc e ρ τ := (rfl)
theorem Zhg {c : Prop} [Decidable c] {o o' : Fl} {g : SG} {x : SS} {ds : List D} : (if c then o else o').lp g x ds = if c then o.lp g x ds else o'.lp g x ds := by split <;> rfl
theorem lc_map {α : Type} {g : SG} {e : α → D} (f : α → D) : ∀ {xs : List α}, (∀ x ∈ xs, ∃ ρ1, g (e x) ρ = some ρ1 ∧ m ρ1 τ = .ok (f x) τ) → lcL g tYes m ρ (xs.map e) τ = .ok (xs.map f) τ
  | [], _ => rfl
  | x :: xs, h => by
    obtain ⟨ρ1, h1, h2⟩ := h x (List.mem_cons_self ..)
    have ih := lc_map (xs := xs) f fun y hy => h y (List.mem_cons_of_mem _ hy)
    simp only [List.map_cons, lcL, h1, Zcd, noX, Zd6, h2, if_pos, ih]
end
end Hw
set_option maxHeartbeats 400000
namespace Hw
open PySem PySem.Spec L2
noncomputable instance decD : DecidableEq D := fun _ _ => Classical.propDecidable _
def plB : Nat → D → Bool
  | _, .non => true
  | _, .int _ => true
  | _, .str x => PyData.strOk x
  | n + 1, .lst ds => ds.all (plB n)
  | n + 1, .tup ds => ds.all (plB n)
  | _, _ => false
theorem plB_pd : ∀ (n : Nat) (d : D), plB n d = true → isPd d = true ∧ (pd d).canLay0 = true ∧ (pd d).depth ≤ n := by
  intro n
  induction n with
  | zero =>
    intro d h
    cases d with
    | non => exact ⟨rfl, rfl, Nat.le_refl _⟩
    | int i => exact ⟨rfl, rfl, Nat.le_refl _⟩
    | str x => exact ⟨rfl, h, Nat.le_refl _⟩
    | _ => cases h
  | succ n ih =>
    have two : ∀ ds : List D, ds.all (plB n) = true → isPds ds = true ∧ PyData.canLayAll0 (pds ds) = true ∧ PyData.depthAll (pds ds) ≤ n := by
      intro ds
      induction ds with
      | nil => intro _; exact ⟨rfl, rfl, Nat.zero_le _⟩
      | cons d ds ihd =>
        intro h
        rw [List.all_cons, Bool.and_eq_true] at h
        obtain ⟨a1, a2, a3⟩ := ih d h.1
        obtain ⟨b1, b2, b3⟩ := ihd h.2
        refine ⟨?_, ?_, ?_⟩
        · rw [isPds, a1, b1]; rfl
        · rw [pds, PyData.canLayAll0, a2, b2]; rfl
        · rw [pds, PyData.depthAll]; exact Nat.max_le.mpr ⟨a3, b3⟩
    intro d h
    cases d with
    | non => exact ⟨rfl, rfl, Nat.zero_le _⟩
    | int i => exact ⟨rfl, rfl, Nat.zero_le _⟩
    | str x => exact ⟨rfl, h, Nat.zero_le _⟩
    | lst ds =>
      obtain ⟨a, b, c⟩ := two ds h
      exact ⟨a, b, Nat.succ_le_succ c⟩
    | tup ds =>
      obtain ⟨a, b, c⟩ := two ds h
      exact ⟨a, b, Nat.succ_le_succ c⟩
    | _ => cases h
theorem plB_ok {n : Nat} {d : D} (h : plB n d = true) (hn : n ≤ 64) : okPd d = true := by
  obtain ⟨a, b, c⟩ := plB_pd n d h
  unfold okPd SeqAt.shaped
  rw [a, b, Bool.true_and, Bool.true_and]
  exact decide_eq_true (Nat.le_trans c hn)
theorem plB_eqv : ∀ (n : Nat) (d e : D) (m : Nat), plB n d = true → plB m e = true → PyData.eqv (pd d) (pd e) = decide (d = e) := by
  intro n
  induction n with
  | zero =>
    intro d e m h g
    cases d with
    | non => cases e <;> first | (cases m <;> cases g; done) | (simp [pd, PyData.eqv]; done) | (simp only [pd, PyData.eqv]; rw [Bool.eq_iff_iff]; simp; done)
    | int i =>
      cases e <;> first | (cases m <;> cases g; done) | (simp [pd, PyData.eqv]; done) | (simp only [pd, PyData.eqv]; rw [Bool.eq_iff_iff]; simp; done)
    | str x =>
      cases e <;> first | (cases m <;> cases g; done) | (simp [pd, PyData.eqv]; done) | (simp only [pd, PyData.eqv]; rw [Bool.eq_iff_iff]; simp; done)
    | _ => cases h
  | succ n ih =>
    have two : ∀ (ds es : List D) (m : Nat), ds.all (plB n) = true → es.all (plB m) = true → PyData.eqvAll (pds ds) (pds es) = decide (ds = es) := by
      intro ds
      induction ds with
      | nil =>
        intro es m _ _
        cases es with
        | nil => simp [pds, PyData.eqvAll]
        | cons => simp [pds, PyData.eqvAll]
      | cons d ds ihd =>
        intro es m h g
        cases es with
        | nil => simp [pds, PyData.eqvAll]
        | cons e es =>
          rw [List.all_cons, Bool.and_eq_true] at h g
          rw [pds, pds, PyData.eqvAll, ih d e m h.1 g.1, ihd es m h.2 g.2]
          simp
    intro d e m h g
    cases d with
    | non => cases e <;> first | (cases m <;> cases g; done) | (simp [pd, PyData.eqv]; done) | (simp only [pd, PyData.eqv]; rw [Bool.eq_iff_iff]; simp; done)
    | int i =>
      cases e <;> first | (cases m <;> cases g; done) | (simp [pd, PyData.eqv]; done) | (simp only [pd, PyData.eqv]; rw [Bool.eq_iff_iff]; simp; done)
    | str x =>
      cases e <;> first | (cases m <;> cases g; done) | (simp [pd, PyData.eqv]; done) | (simp only [pd, PyData.eqv]; rw [Bool.eq_iff_iff]; simp; done)
    | lst ds =>
      cases e with
      | lst es =>
        cases m with
        | zero => cases g
        | succ m =>
          show PyData.eqvAll (pds ds) (pds es) = _
          rw [two ds es m h g]; simp
      | _ => first | (cases m <;> cases g; done) | (simp [pd, PyData.eqv]; done) | (simp only [pd, PyData.eqv]; rw [Bool.eq_iff_iff]; simp; done)
    | tup ds =>
      cases e with
      | tup es =>
        cases m with
        | zero => cases g
        | succ m =>
          show PyData.eqvAll (pds ds) (pds es) = _
          rw [two ds es m h g]; simp
      | _ => first | (cases m <;> cases g; done) | (simp [pd, PyData.eqv]; done) | (simp only [pd, PyData.eqv]; rw [Bool.eq_iff_iff]; simp; done)
    | _ => cases h
class Pln (n : Nat) (d : D) : Prop where
  ok : plB n d = true
class PlnL (n : Nat) (ds : List D) : Prop where
  ok : ds.all (plB n) = true
class StrOk (x : Str) : Prop where
  ok : PyData.strOk x = true
section
variable {n : Nat} {d : D} {ds es : List D}
instance : Pln n .non := ⟨by cases n <;> rfl⟩
instance {i : Int} : Pln n (.int i) := ⟨by cases n <;> rfl⟩
instance {x : Str} [h : StrOk x] : Pln n (.str x) := ⟨by cases n <;> exact h.ok⟩
instance [h : PlnL n ds] : Pln (n + 1) (.lst ds) := ⟨h.ok⟩
instance [h : PlnL n ds] : Pln (n + 1) (.tup ds) := ⟨h.ok⟩
instance : PlnL n [] := ⟨rfl⟩
instance [h : Pln n d] [g : PlnL n ds] : PlnL n (d :: ds) := ⟨by rw [List.all_cons, h.ok, g.ok]; rfl⟩
instance [h : PlnL n ds] [g : PlnL n es] : PlnL n (ds ++ es) := ⟨by rw [List.all_append, h.ok, g.ok]; rfl⟩
instance {α : Type} {f : α → D} {xs : List α} [h : ∀ x, Pln n (f x)] : PlnL n (xs.map f) := ⟨by
  rw [List.all_map]
  exact List.all_eq_true.mpr fun x _ => (h x).ok⟩
instance {k : Nat} [h : Pln n d] : PlnL n (List.replicate k d) := ⟨List.all_eq_true.mpr fun x hx => by rw [List.eq_of_mem_replicate hx]; exact h.ok⟩
instance {k : Nat} [h : PlnL n ds] : PlnL n (ds.take k) := ⟨List.all_eq_true.mpr fun x hx => List.all_eq_true.mp h.ok x (List.mem_of_mem_take hx)⟩
instance {k : Nat} [h : PlnL n ds] : PlnL n (ds.drop k) := ⟨List.all_eq_true.mpr fun x hx => List.all_eq_true.mp h.ok x (List.mem_of_mem_drop hx)⟩
theorem Zfq {d e : D} [h : Pln 64 d] [g : Pln 64 e] : dEq d e = some (.bl (decide (d = e))) := by
  unfold dEq
  rw [plB_ok h.ok (Nat.le_refl _), plB_ok g.ok (Nat.le_refl _), Bool.and_self, if_pos rfl, plB_eqv _ _ _ _ h.ok g.ok]
theorem Zfr {d e : D} [h : Pln 64 d] [g : Pln 64 e] : dNe d e = some (.bl (!decide (d = e))) := by
  unfold dNe
  rw [plB_ok h.ok (Nat.le_refl _), plB_ok g.ok (Nat.le_refl _), Bool.and_self, if_pos rfl, plB_eqv _ _ _ _ h.ok g.ok]
theorem Zfs {b c : Bool} : dEq (.bl b) (.bl c) = some (.bl (b == c)) := (rfl)
theorem Zft {b c : Bool} : dNe (.bl b) (.bl c) = some (.bl (!(b == c))) := (rfl)
end
section
variable {i j : Int}
theorem Ze1 : dLt (.int i) (.int j) = some (.bl (decide (i < j))) := (rfl)
theorem Ze2 : dLe (.int i) (.int j) = some (.bl (decide (i ≤ j))) := (rfl)
theorem Ze3 : dGt (.int i) (.int j) = some (.bl (decide (j < i))) := (rfl)
theorem Ze4 : dGe (.int i) (.int j) = some (.bl (decide (j ≤ i))) := (rfl)
theorem Ze5 : dAdd (.int i) (.int j) = some (.int (i + j)) := (rfl)
theorem Ze6 : dSub (.int i) (.int j) = some (.int (i - j)) := (rfl)
theorem Ze7 : dNeg (.int i) = some (.int (-i)) := (rfl)
theorem Ze8 {ds : List D} : dIx (.lst ds) (.int i) = atI ds i := (rfl)
theorem Ze9 {ds : List D} : dIx (.tup ds) (.int i) = atI ds i := (rfl)
theorem Zfa {ds : List D} : cLen [.lst ds] = some (.int ds.length) := (rfl)
theorem Zfb {ds : List D} : cLen [.tup ds] = some (.int ds.length) := (rfl)
theorem Zfc {ds : List D} : cList [.lst ds] = some (.lst ds) := (rfl)
theorem Zfd {ds : List D} : cList [.tup ds] = some (.lst ds) := (rfl)
theorem Zfe {ds : List D} : cTuple [.lst ds] = some (.tup ds) := (rfl)
theorem Zff {ds : List D} : cTuple [.tup ds] = some (.tup ds) := (rfl)
theorem Zfg : cMin [.int i, .int j] = some (.int (if j < i then j else i)) := (rfl)
theorem Zfh : cMax [.int i, .int j] = some (.int (if j > i then j else i)) := (rfl)
theorem Zfo {α : Type} {xs : List α} (n : Nat) : atI xs (n : Int) = xs[n]? := by
  unfold atI ixN
  by_cases h : n < xs.length
  · rw [if_pos (by omega), if_pos (by omega)]; rfl
  · rw [if_pos (by omega), if_neg (by omega), List.getElem?_eq_none (by omega)]; rfl
theorem Zfk {α : Type} {xs : List α} : atI xs 2 = xs[2]? := Zfo 2
theorem Zfl {α : Type} {xs : List α} : atI xs 3 = xs[3]? := Zfo 3
theorem Zfm {α : Type} {xs : List α} : atI xs 4 = xs[4]? := Zfo 4
theorem Zfn {α : Type} {xs : List α} : atI xs 5 = xs[5]? := Zfo 5
theorem Zfi {α : Type} {xs : List α} : atI xs 0 = xs[0]? := Zfo 0
theorem Zfj {α : Type} {xs : List α} : atI xs 1 = xs[1]? := Zfo 1
theorem Zfp {α : Type} {xs : List α} : atI xs (-1) = xs.getLast? := by
  cases xs with
  | nil => rfl
  | cons x xs =>
    unfold atI ixN
    rw [if_neg (by omega), if_pos (by simp only [List.length_cons]; omega)]
    simp only [Option.bind_some, List.length_cons]
    rw [show ((-1 : Int) + ((xs.length + 1 : Nat) : Int)).toNat = xs.length by omega, List.getLast?_eq_getElem?, List.length_cons, Nat.add_sub_cancel]
theorem Zfu : dIsN .non .non = some (.bl true) := (rfl)
theorem Zfv : dIsN (.int i) .non = some (.bl false) := (rfl)
theorem Zfw {x : Str} : dIsN (.str x) .non = some (.bl false) := (rfl)
theorem Zfx {ds : List D} : dIsN (.lst ds) .non = some (.bl false) := (rfl)
theorem Zfy {ds : List D} : dIsN (.tup ds) .non = some (.bl false) := (rfl)
theorem Zfz {b : Bool} : dIsN (.bl b) .non = some (.bl false) := (rfl)
theorem Zf0 : dNotN .non .non = some (.bl false) := (rfl)
theorem Zf1 : dNotN (.int i) .non = some (.bl true) := (rfl)
theorem Zf2 {x : Str} : dNotN (.str x) .non = some (.bl true) := (rfl)
theorem Zf3 {ds : List D} : dNotN (.lst ds) .non = some (.bl true) := (rfl)
theorem Zf4 {ds : List D} : dNotN (.tup ds) .non = some (.bl true) := (rfl)
theorem Zf5 {b : Bool} : dNotN (.bl b) .non = some (.bl true) := (rfl)
theorem Zf6 {ds : List D} : sqS (.lst ds) = some ds := (rfl)
theorem Zf7 {ds : List D} : sqS (.tup ds) = some ds := (rfl)
theorem Zf8 {ds : List D} : enS (.lst ds) = some (ds.zipIdx.map fun p => .tup [.int p.2, p.1]) := (rfl)
theorem Zf9 {ds : List D} : enS (.tup ds) = some (ds.zipIdx.map fun p => .tup [.int p.2, p.1]) := (rfl)
theorem blsOf_map {α : Type} {p : α → Bool} : ∀ {xs : List α}, blsOf (xs.map fun x => D.bl (p x)) = some (xs.map p)
  | [] => rfl
  | x :: xs => by rw [List.map_cons, blsOf, blsOf_map]; rfl
theorem cAll_map {α : Type} {p : α → Bool} {xs : List α} : cAll [.lst (xs.map fun x => D.bl (p x))] = some (.bl (xs.all p)) := by
  unfold cAll
  simp only [blsOf_map, Option.map_some, List.all_map] <;> rfl
theorem intsOf_map : ∀ {xs : List Int}, intsOf (xs.map D.int) = some xs
  | [] => rfl
  | x :: xs => by rw [List.map_cons, intsOf, intsOf_map]; rfl
theorem Zg4 : sizeLine = 16777216 := (rfl)
end
section
variable {i : Int} {b : Bool} {x : Str} {ds : List D}
theorem Zga : isiD "list" .non = some (.bl false) := (rfl)
theorem Zgb : isiD "list" (.bl b) = some (.bl false) := (rfl)
theorem Zgc : isiD "list" (.int i) = some (.bl false) := (rfl)
theorem Zgd : isiD "list" (.str x) = some (.bl false) := (rfl)
theorem Zge : isiD "list" (.lst ds) = some (.bl true) := (rfl)
theorem Zgf : isiD "list" (.tup ds) = some (.bl false) := (rfl)
theorem Zgg : isiD "tuple" .non = some (.bl false) := (rfl)
theorem Zgh : isiD "tuple" (.bl b) = some (.bl false) := (rfl)
theorem Zgi : isiD "tuple" (.int i) = some (.bl false) := (rfl)
theorem Zgj : isiD "tuple" (.str x) = some (.bl false) := (rfl)
theorem Zgk : isiD "tuple" (.lst ds) = some (.bl false) := (rfl)
theorem Zgl : isiD "tuple" (.tup ds) = some (.bl true) := (rfl)
theorem Zgm : isiD "bool" .non = some (.bl false) := (rfl)
theorem Zgn : isiD "bool" (.bl b) = some (.bl true) := (rfl)
theorem Zgo : isiD "bool" (.int i) = some (.bl false) := (rfl)
theorem Zgp : isiD "bool" (.str x) = some (.bl false) := (rfl)
theorem Zgq : isiD "bool" (.lst ds) = some (.bl false) := (rfl)
theorem Zgr : isiD "bool" (.tup ds) = some (.bl false) := (rfl)
theorem Zgs : isiD "int" .non = some (.bl false) := (rfl)
theorem Zgt : isiD "int" (.bl b) = some (.bl true) := (rfl)
theorem Zgu : isiD "int" (.int i) = some (.bl true) := (rfl)
theorem Zgv : isiD "int" (.str x) = some (.bl false) := (rfl)
theorem Zgw : isiD "int" (.lst ds) = some (.bl false) := (rfl)
theorem Zgx : isiD "int" (.tup ds) = some (.bl false) := (rfl)
theorem Zgy : isiD "str" .non = some (.bl false) := (rfl)
theorem Zgz : isiD "str" (.bl b) = some (.bl false) := (rfl)
theorem Zg0 : isiD "str" (.int i) = some (.bl false) := (rfl)
theorem Zg1 : isiD "str" (.str x) = some (.bl true) := (rfl)
theorem Zg2 : isiD "str" (.lst ds) = some (.bl false) := (rfl)
theorem Zg3 : isiD "str" (.tup ds) = some (.bl false) := (rfl)
end
end Hw
namespace Hw
open PySem PySem.Spec L2
theorem Zha {n k : Nat} : ixN n (k : Int) = if k < n then some k else none := by
  unfold ixN
  by_cases h : k < n
  · rw [if_pos (by omega), if_pos (by omega), if_pos h]; rfl
  · rw [if_pos (by omega), if_neg (by omega), if_neg h]
theorem Zg5 {n : Nat} : ixN n 0 = if 0 < n then some 0 else none := Zha (k := 0)
theorem Zg6 {n : Nat} : ixN n 1 = if 1 < n then some 1 else none := Zha (k := 1)
theorem Zg7 {n : Nat} : ixN n 2 = if 2 < n then some 2 else none := Zha (k := 2)
theorem Zg8 {n : Nat} : ixN n 3 = if 3 < n then some 3 else none := Zha (k := 3)
theorem Zg9 {n : Nat} : ixN n 4 = if 4 < n then some 4 else none := Zha (k := 4)
end Hw
set_option maxHeartbeats 400000
namespace Hw
open PySem PySem.Spec L2
section
variable {α : Type} {g : SG} {body : SS} {τ : Tau}
def turn (g : SG) (body : SS) (d : D) (ρ : Rho) (τ : Tau) : Fl := match g d ρ with
  | none => .bad
  | some ρ1 => body ρ1 τ
theorem Zhh {d : D} {ρ : Rho} : turn g body d ρ τ = match g d ρ with
  | none => .bad
  | some ρ1 => body ρ1 τ := (rfl)
theorem for_turn {d : D} {ds : List D} {ρ : Rho} : forL g body (d :: ds) ρ τ = (turn g body d ρ τ).lp g body ds := by
  rw [for_cons, Zhh]
  cases g d ρ <;> rfl
def Fl.nxP (o : Fl) (P : Rho → Tau → Prop) : Prop := match o with
  | .nx ρ τ => P ρ τ
  | .cnt ρ τ => P ρ τ
  | _ => False
theorem Zhi {P : Rho → Tau → Prop} {ρ : Rho} : (Fl.nx ρ τ).nxP P = P ρ τ := (rfl)
theorem Zhj {P : Rho → Tau → Prop} {ρ : Rho} : (Fl.cnt ρ τ).nxP P = P ρ τ := (rfl)
theorem Zhk {c : Prop} [Decidable c] {x y : Fl} {P : Rho → Tau → Prop} : (if c then x else y).nxP P = if c then x.nxP P else y.nxP P := by split <;> rfl
theorem nxP_lp {o : Fl} {P : Rho → Tau → Prop} {ds : List D} (h : o.nxP P) : ∃ ρ τ, P ρ τ ∧ o.lp g body ds = forL g body ds ρ τ := by
  cases o with
  | nx ρ τ => exact ⟨ρ, τ, h, rfl⟩
  | cnt ρ τ => exact ⟨ρ, τ, h, rfl⟩
  | _ => exact h.elim
theorem for_fold {S : Type} (e : α → D) (step : S → α → S) (J : S → Rho → Tau → Prop) : ∀ (xs : List α) (s : S) (ρ : Rho) (τ : Tau), J s ρ τ →
    (∀ x ∈ xs, ∀ s ρ τ, J s ρ τ → (turn g body (e x) ρ τ).nxP (J (step s x))) →
    ∃ ρ2 τ2, forL g body (xs.map e) ρ τ = .nx ρ2 τ2 ∧ J (xs.foldl step s) ρ2 τ2
  | [], s, ρ, τ, h0, _ => ⟨ρ, τ, rfl, h0⟩
  | x :: xs, s, ρ, τ, h0, h => by
    obtain ⟨ρ2, τ2, h3, h2⟩ := nxP_lp (g := g) (body := body) (ds := xs.map e) (h x (List.mem_cons_self ..) s ρ τ h0)
    obtain ⟨ρ3, τ3, h4, h5⟩ := for_fold e step J xs (step s x) ρ2 τ2 h3 fun y hy => h y (List.mem_cons_of_mem _ hy)
    exact ⟨ρ3, τ3, by rw [List.map_cons, for_turn, h2, h4], h5⟩
end
theorem rng_if {α : Type} {n : Nat} {x y : α} (h : n ≤ 16777216) : (if -4611686018427387904 ≤ (n : Int) ∧ (n : Int) < 4611686018427387904 then x else y) = x := if_pos (by omega)
end Hw
set_option maxHeartbeats 400000
namespace Hw
open PySem PySem.Spec L2
section
variable {α : Type} {g : SG} {body : SS} {τ : Tau}
end
instance {n : Nat} {x : List Int} : Pln (n + 1) (tupI x) := by unfold tupI; exact inferInstance
end Hw
namespace Hw
open PySem PySem.Spec L2
variable {is : List Nat} {i : Nat} {m : SE} {ρ : Rho} {τ : Tau}
def scO (τ : Tau) : Out D → Out D
  | .ok z [] => if isFl z = true then .ok z τ else .bad
  | _ => .bad
theorem Zhl : eScal is m ρ τ = scO τ (m ((frzL is ρ).map noIo1) []) := by
  unfold eScal
  generalize m ((frzL is ρ).map noIo1) [] = o
  cases o with
  | ok z t => cases t with
    | nil => rfl
    | cons _ _ => rfl
  | exc e t => rfl
  | bad => rfl
theorem Zhm : frzL (i :: is) ρ = frzL is (frzR i ρ) := (rfl)
theorem Zhn : frzL [] ρ = ρ := (rfl)
theorem Zho {j : Nat} : noIo1 (.io j) = .no := (rfl)
theorem Zhp : noIo1 .no = .no := (rfl)
theorem Zhq {d : D} : noIo1 (.fz d) = .fz d := (rfl)
theorem Zhr {d : D} : noIo1 (.own d) = .own d := (rfl)
theorem Zhs {z : Int} : scO τ (.ok (.int z) []) = .ok (.int z) τ := (rfl)
theorem Zht {z : Bool} : scO τ (.ok (.bl z) []) = .ok (.bl z) τ := (rfl)
theorem Zhu : scO τ (.ok .non []) = .ok .non τ := (rfl)
theorem Zhv {z : Str} : scO τ (.ok (.str z) []) = .ok (.str z) τ := (rfl)
end Hw
namespace Hw
open PySem PySem.Spec L2
end Hw
namespace Hw
open PySem PySem.Spec L2
section
variable {ρ : Rho} {τ τ1 τ2 : Tau} {f : D → D → Option D} {m my a b c : SE} {x y z : D} {ds es : List D} {i j l : Nat} {o1 o2 o3 : Bool}
def kMt1 (f : D → D → Option D) (my : SE) (ρ : Rho) : D → Tau → Out D := fun d τ1 => match d with
  | .lst ds => (my ρ τ1).bind (kBin2 f (.lst ds))
  | _ => .bad
theorem Zhx : kMt1 f my ρ (.lst ds) τ1 = (my ρ τ1).bind (kBin2 f (.lst ds)) := (rfl)
theorem Zhw : eMt1 f m my ρ τ = (m ρ τ).bind (kMt1 f my ρ) := (rfl)
theorem Zhy : kX true x = .own x := (rfl)
theorem Zhz : kX false x = .fz x := (rfl)
def kP3c (o1 o2 o3 : Bool) (i j l : Nat) (ρ : Rho) (x y : D) : D → Tau → Fl := fun z τ3 => .nx (((ρ.set i (kX o1 x)).set j (kX o2 y)).set l (kX o3 z)) τ3
theorem Zh0 : kP3c o1 o2 o3 i j l ρ x y z τ = .nx (((ρ.set i (kX o1 x)).set j (kX o2 y)).set l (kX o3 z)) τ := (rfl)
def kP3b (o1 o2 o3 : Bool) (i j l : Nat) (c : SE) (ρ : Rho) (x : D) : D → Tau → Fl := fun y τ2 => (c ρ τ2).andS ρ (kP3c o1 o2 o3 i j l ρ x y)
theorem Zh1 : kP3b o1 o2 o3 i j l c ρ x y τ = (c ρ τ).andS ρ (kP3c o1 o2 o3 i j l ρ x y) := (rfl)
def kP3a (o1 o2 o3 : Bool) (i j l : Nat) (b c : SE) (ρ : Rho) : D → Tau → Fl := fun x τ1 => (b ρ τ1).andS ρ (kP3b o1 o2 o3 i j l c ρ x)
theorem Zh2 : kP3a o1 o2 o3 i j l b c ρ x τ = (b ρ τ).andS ρ (kP3b o1 o2 o3 i j l c ρ x) := (rfl)
theorem Zh3 : sPar3K o1 o2 o3 i j l a b c ρ τ = (a ρ τ).andS ρ (kP3a o1 o2 o3 i j l b c ρ) := (rfl)
def kZx2 (x : D) : D → Tau → Out (List D) := fun y τ2 => .of (fZp x y) τ2
theorem Zh4 : kZx2 x y τ = .of (fZp x y) τ := (rfl)
def kZx1 (b : SE) (ρ : Rho) : D → Tau → Out (List D) := fun x τ1 => (b ρ τ1).bind (kZx2 x)
theorem Zh5 : kZx1 b ρ x τ = (b ρ τ).bind (kZx2 x) := (rfl)
theorem Zh6 : iZpX a b ρ τ = (a ρ τ).bind (kZx1 b ρ) := (rfl)
theorem Zh7 : fZp (.tup ds) (.tup es) = some (zipD ds es) := (rfl)
theorem Zh8 : fZp (.tup ds) (.lst es) = some (zipD ds es) := (rfl)
theorem Zh9 : fZp (.lst ds) (.tup es) = some (zipD ds es) := (rfl)
theorem Zia : fZp (.lst ds) (.lst es) = some (zipD ds es) := (rfl)
theorem Zib : fRevL (.lst ds) = some (.lst ds.reverse) := (rfl)
theorem Zic {p q : Bool} : dIsB (.bl p) (.bl q) = some (.bl (decide (p = q))) := (rfl)
theorem Zid {p q : Bool} : dNotB (.bl p) (.bl q) = some (.bl (!decide (p = q))) := (rfl)
end
theorem Zie (ns : List Int) (k : Int) : fCnt (.lst (ns.map .int)) (.int k) = some (.int (ns.count k : Nat)) := by
  show (intsOf (ns.map D.int)).map _ = _
  rw [intsOf_map]
  rfl
section
variable {t : ST} {b : SS} {n : Nat} {ρ ρ2 : Rho} {τ τ1 τ2 : Tau}
end
end Hw
open PySem PySem.Spec L2 Hw
local macro_rules
  | `(tactic| simp! +contextual $[$d:discharger]? [$args,*]) => `(tactic| simp $[$d]? only [$args,*, Zaa,Zab,Zac,Zad,Zae,Zaf,Zag,Zah,Zai,Zaj,Zak,Zal,Zam,Zan,Zao,Zap,Zaq,Zar,Zas,Zat,Zau,Zav,Zaw,Zax,Zay,Zaz,Za0,Za1,Za2,Za3,Za4,Za5,Za6,Za7,Za8,Za9,Zba,Zbb,Zbc,Zbd,Zbe,Zbf,Zbg,Zbh,Zbi,Zbj,Zbk,Zbl,Zbm,Zbn,Zbo,Zbp,Zbq,Zbr,Zbs,Zbt,Zbu,Zbv,Zbw,Zbx,Zby,Zbz,Zb0,Zb1,Zb2,Zb3,Zb4,Zb5,Zb6,a_C, Zb7,Zb8,Zb9,Zca,Zcb,Zcc,Zcd,Zce,Zcf,Zcg,Zch,Zci,Zcj,Zck,Zcl,Zcm,Zcn,Zco,Zcp,Zcq,Zcr,Zcs,Zct,Zcu,Zcv,Zcw,Zcx,Zcy,Zcz,Zc0,Zc1,Zc2,Zc3,Zc4,Zc5,Zc6,Zc7,Zc8,Zc9,Zda,Zdb,Zdc,Zdd,Zde,Zdf,Zdg,Zdh,Zdi,Zdj,Zdk,Zdl,Zdm,Zdn,Zdo,Zdp,Zdq,Zdr,Zds,Zdt,Zdu,Zdv,Zdw,Zdx,Zdy,Zdz,Zd0,Zd1,Zd2,Zd3,Zd4,Zd5,Zd6,Zd7,Zd8,Zd9,Zea,Zeb,Zec,Zed,Zee,Zef,Zeg,Zeh,Zei,Zej,Zek,Zel,Zem,Zen,Zeo,Zep,Zeq,Zer,Zes,Zet,Zeu,Zev,Zew,g_N, Zex,Zey,Zez,Ze0,Ze1,Ze2,Ze3,Ze4,Ze6,Ze7,Ze8,Ze9,Zfa,Zfb,Zfc,Zfd,Zfe,Zff,Zfg,Zfh,Zfi,Zfj,Zfk,Zfl,Zfm,Zfn,Zfo,Zfp,Zfq,Zfr,Zfs,Zft,Zfu,Zfv,Zfw,Zfx,Zfy,Zfz,Zf0,Zf1,Zf2,Zf3,Zf4,Zf5,Zf6,Zf7,Zf8,Zf9,noIo, isLst, wipeR, Zga,Zgb,Zgc,Zgd,Zge,Zgf,Zgg,Zgh,Zgi,Zgj,Zgk,Zgl,Zgm,Zgn,Zgo,Zgp,Zgq,Zgr,Zgs,Zgt,Zgu,Zgv,Zgw,Zgx,Zgy,Zgz,Zg0,Zg1,Zg2,Zg3,List.foldr_cons, List.foldr_nil, List.getElem?_cons_zero, List.getElem?_cons_succ, List.set_cons_zero, List.set_cons_succ, List.length_cons, List.length_nil, List.replicate_succ, List.replicate_zero, List.cons_append, List.nil_append, List.map_cons, List.map_nil, Nat.reduceAdd, Nat.reduceSub, Nat.reduceLeDiff, Nat.reduceLT, Zg4, ite_true, ite_false, if_true, if_false, Bool.false_eq_true, Bool.true_eq_false, decide_eq_true_eq, Bool.not_eq_true', Bool.not_true, Bool.not_false, decide_true, decide_false, decide_eq_false_iff_not, D.int.injEq, D.str.injEq, D.bl.injEq, reduceCtorEq, Int.cast_ofNat_Int, Int.reduceNeg, Int.reducePow, Int.reduceLE, Int.reduceLT, Int.reduceToNat, and_self, Int.reduceEq, Int.reduceNe, Nat.reduceEqDiff, not_false_eq_true, not_true_eq_false, Int.toNat_natCast, Zg5,Zg6,Zg7,Zg8,Zg9,Zha,Zhb,Zhc,Zhd,Zhe,Zhf,Zhg,Zhh,Zhi,Zhj,Zhk,↓reduceIte, Zhl,Zhm,Zhn,Zho,Zhp,Zhq,Zhr,Zhs,Zht,Zhu,Zhv,Zhw,Zhx,Zhy,Zhz,Zh0,Zh1,Zh2,Zh3,Zh4,Zh5,Zh6,Zh7,Zh8,Zh9,Zia,Zib,Zic,Zid,Zie])
  | `(tactic| simp! +arith $[$d:discharger]? [$args,*]) => `(tactic| simp $[$d]? only [$args,*, Zaa,Zab,Zac,Zad,Zae,Zaf,Zag,Zah,Zai,Zaj,Zak,Zal,Zam,Zan,Zao,Zap,Zaq,Zar,Zas,Zat,Zau,Zav,Zaw,Zax,Zay,Zaz,Za0,Za1,Za2,Za3,Za4,Za5,Za6,Za7,Za8,Za9,Zba,Zbb,Zbc,Zbd,Zbe,Zbf,Zbg,Zbh,Zbi,Zbj,Zbk,Zbl,Zbm,Zbn,Zbo,Zbp,Zbq,Zbr,Zbs,Zbt,Zbu,Zbv,Zbw,Zbx,Zby,Zbz,Zb0,Zb1,Zb2,Zb3,Zb4,Zb5,Zb6,a_C, Zb7,Zb8,Zb9,Zca,Zcb,Zcc,Zcd,Zce,Zcf,Zcg,Zch,Zci,Zcj,Zck,Zcl,Zcm,Zcn,Zco,Zcp,Zcq,Zcr,Zcs,Zct,Zcu,Zcv,Zcw,Zcx,Zcy,Zcz,Zc0,Zc1,Zc2,Zc3,Zc4,Zc5,Zc6,Zc7,Zc8,Zc9,Zda,Zdb,Zdc,Zdd,Zde,Zdf,Zdg,Zdh,Zdi,Zdj,Zdk,Zdl,Zdm,Zdn,Zdo,Zdp,Zdq,Zdr,Zds,Zdt,Zdu,Zdv,Zdw,Zdx,Zdy,Zdz,Zd0,Zd1,Zd2,Zd3,Zd4,Zd5,Zd6,Zd7,Zd8,Zd9,Zea,Zeb,Zec,Zed,Zee,Zef,Zeg,Zeh,Zei,Zej,Zek,Zel,Zem,Zen,Zeo,Zep,Zeq,Zer,Zes,Zet,Zeu,Zev,Zew,g_N, Zex,Zey,Zez,Ze0,Ze1,Ze2,Ze3,Ze4,Ze5,Ze6,Ze7,Ze8,Ze9,Zfa,Zfb,Zfc,Zfd,Zfe,Zff,Zfg,Zfh,Zfi,Zfj,Zfk,Zfl,Zfm,Zfn,Zfo,Zfp,Zfq,Zfr,Zfs,Zft,Zfu,Zfv,Zfw,Zfx,Zfy,Zfz,Zf0,Zf1,Zf2,Zf3,Zf4,Zf5,Zf6,Zf7,Zf8,Zf9,noIo, isLst, wipeR, Zga,Zgb,Zgc,Zgd,Zge,Zgf,Zgg,Zgh,Zgi,Zgj,Zgk,Zgl,Zgm,Zgn,Zgo,Zgp,Zgq,Zgr,Zgs,Zgt,Zgu,Zgv,Zgw,Zgx,Zgy,Zgz,Zg0,Zg1,Zg2,Zg3,List.foldr_cons, List.foldr_nil, List.getElem?_cons_zero, List.getElem?_cons_succ, List.set_cons_zero, List.set_cons_succ, List.length_cons, List.length_nil, List.replicate_succ, List.replicate_zero, List.cons_append, List.nil_append, List.map_cons, List.map_nil, Nat.reduceAdd, Nat.reduceSub, Nat.reduceLeDiff, Nat.reduceLT, Zg4, ite_true, ite_false, if_true, if_false, Bool.false_eq_true, Bool.true_eq_false, decide_eq_true_eq, Bool.not_eq_true', Bool.not_true, Bool.not_false, decide_true, decide_false, decide_eq_false_iff_not, D.int.injEq, D.str.injEq, D.bl.injEq, reduceCtorEq, Int.cast_ofNat_Int, Int.reduceNeg, Int.reducePow, Int.reduceLE, Int.reduceLT, Int.reduceToNat, and_self, Int.reduceEq, Int.reduceNe, Nat.reduceEqDiff, not_false_eq_true, not_true_eq_false, Int.toNat_natCast, Zg5,Zg6,Zg7,Zg8,Zg9,Zha,Zhb,Zhc,Zhd,Zhe,Zhf,Zhg,Zhh,Zhi,Zhj,Zhk,↓reduceIte, Zhl,Zhm,Zhn,Zho,Zhp,Zhq,Zhr,Zhs,Zht,Zhu,Zhv,Zhw,Zhx,Zhy,Zhz,Zh0,Zh1,Zh2,Zh3,Zh4,Zh5,Zh6,Zh7,Zh8,Zh9,Zia,Zib,Zic,Zid,Zie])
  | `(tactic| simp! +ground $[$d:discharger]? [$args,*]) => `(tactic| simp $[$d]? only [$args,*, Zaa,Zab,Zac,Zad,Zae,Zaf,Zag,Zah,Zai,Zaj,Zak,Zal,Zam,Zan,Zao,Zap,Zaq,Zar,Zas,Zat,Zau,Zav,Zaw,Zax,Zay,Zaz,Za0,Za1,Za2,Za3,Za4,Za5,Za6,Za7,Za8,Za9,Zba,Zbb,Zbc,Zbd,Zbe,Zbf,Zbg,Zbh,Zbi,Zbj,Zbk,Zbl,Zbm,Zbn,Zbo,Zbp,Zbq,Zbr,Zbs,Zbt,Zbu,Zbv,Zbw,Zbx,Zby,Zbz,Zb0,Zb1,Zb2,Zb3,Zb4,Zb5,Zb6,a_C, Zb7,Zb8,Zb9,Zca,Zcb,Zcc,Zcd,Zce,Zcf,Zcg,Zch,Zci,Zcj,Zck,Zcl,Zcm,Zcn,Zco,Zcp,Zcq,Zcr,Zcs,Zct,Zcu,Zcv,Zcw,Zcx,Zcy,Zcz,Zc0,Zc1,Zc2,Zc3,Zc4,Zc5,Zc6,Zc7,Zc8,Zc9,Zda,Zdb,Zdc,Zdd,Zde,Zdf,Zdg,Zdh,Zdi,Zdj,Zdk,Zdl,Zdm,Zdo,Zdp,Zdq,Zdr,Zds,Zdt,Zdu,Zdv,Zdw,Zdx,Zdy,Zdz,Zd0,Zd1,Zd2,Zd3,Zd4,Zd5,Zd6,Zd7,Zd8,Zd9,Zea,Zeb,Zec,Zed,Zee,Zef,Zeg,Zeh,Zei,Zej,Zek,Zel,Zem,Zen,Zeo,Zep,Zeq,Zer,Zes,Zet,Zeu,Zev,Zew,g_N, Zex,Zey,Zez,Ze0,Ze1,Ze2,Ze3,Ze4,Ze5,Ze6,Ze7,Ze8,Ze9,Zfa,Zfb,Zfc,Zfd,Zfe,Zff,Zfg,Zfh,Zfi,Zfj,Zfk,Zfl,Zfm,Zfn,Zfo,Zfp,Zfq,Zfr,Zfs,Zft,Zfu,Zfv,Zfw,Zfx,Zfy,Zfz,Zf0,Zf1,Zf2,Zf3,Zf4,Zf5,Zf6,Zf7,Zf8,Zf9,noIo, isLst, wipeR, Zga,Zgb,Zgc,Zgd,Zge,Zgf,Zgg,Zgh,Zgi,Zgj,Zgk,Zgl,Zgm,Zgn,Zgo,Zgp,Zgq,Zgr,Zgs,Zgt,Zgu,Zgv,Zgw,Zgx,Zgy,Zgz,Zg0,Zg1,Zg2,Zg3,List.foldr_cons, List.foldr_nil, List.getElem?_cons_zero, List.getElem?_cons_succ, List.set_cons_zero, List.set_cons_succ, List.length_cons, List.length_nil, List.replicate_succ, List.replicate_zero, List.cons_append, List.nil_append, List.map_cons, List.map_nil, Nat.reduceAdd, Nat.reduceSub, Nat.reduceLeDiff, Nat.reduceLT, Zg4, ite_true, ite_false, if_true, if_false, Bool.false_eq_true, Bool.true_eq_false, decide_eq_true_eq, Bool.not_eq_true', Bool.not_true, Bool.not_false, decide_true, decide_false, decide_eq_false_iff_not, D.int.injEq, D.str.injEq, D.bl.injEq, reduceCtorEq, Int.cast_ofNat_Int, Int.reduceNeg, Int.reducePow, Int.reduceLE, Int.reduceLT, Int.reduceToNat, and_self, Int.reduceEq, Int.reduceNe, Nat.reduceEqDiff, not_false_eq_true, not_true_eq_false, Int.toNat_natCast, List.range_succ, List.range_zero, Zg5,Zg6,Zg7,Zg8,Zg9,Zha,Zhb,Zhc,Zhd,Zhe,Zhf,Zhg,Zhh,Zhi,Zhj,Zhk,↓reduceIte, Zhl,Zhm,Zhn,Zho,Zhp,Zhq,Zhr,Zhs,Zht,Zhu,Zhv,Zhw,Zhx,Zhy,Zhz,Zh0,Zh1,Zh2,Zh3,Zh4,Zh5,Zh6,Zh7,Zh8,Zh9,Zia,Zib,Zic,Zid,Zie])
  | `(tactic| simp! +decide $[$d:discharger]? [$args,*]) => `(tactic| simp $[$d]? only [$args,*, Zaa,Zab,Zac,Zad,Zae,Zaf,Zag,Zah,Zai,Zaj,Zak,Zal,Zam,Zan,Zao,Zap,Zaq,Zar,Zas,Zat,Zau,Zav,Zaw,Zax,Zay,Zaz,Za0,Za1,Za2,Za3,Za4,Za5,Za6,Za7,Za8,Za9,Zba,Zbb,Zbc,Zbd,Zbe,Zbf,Zbg,Zbh,Zbi,Zbj,Zbk,Zbl,Zbm,Zbn,Zbo,Zbp,Zbq,Zbr,Zbs,Zbt,Zbu,Zbv,Zbw,Zbx,Zby,Zbz,Zb0,Zb1,Zb2,Zb3,Zb4,Zb5,Zb6,a_C, Zb7,Zb8,Zb9,Zca,Zcb,Zcc,Zcd,Zce,Zcf,Zcg,Zch,Zci,Zcj,Zck,Zcl,Zcm,Zco,Zcp,Zcq,Zcs,Zct,Zcv,Zcw,Zcx,Zcy,Zcz,Zc0,Zc1,Zc2,Zc3,Zc4,Zc5,Zc6,Zc7,Zc8,Zc9,Zdb,Zdc,Zdd,Zde,Zdf,Zdg,Zdh,Zdi,Zdj,Zdk,Zdl,Zdm,Zdn,Zdo,Zdp,Zdq,Zdr,Zds,Zdt,Zdu,Zdv,Zdw,Zdx,Zdy,Zdz,Zd0,Zd1,Zd2,Zd3,Zd4,Zd5,Zd6,Zd7,Zd8,Zd9,Zea,Zeb,Zec,Zed,Zee,Zef,Zeg,Zeh,Zei,Zej,Zek,Zel,Zem,Zen,Zeo,Zep,Zeq,Zer,Zes,Zet,Zeu,Zev,Zew,g_N, Zex,Zey,Zez,Ze0,Ze1,Ze2,Ze3,Ze4,Ze5,Ze6,Ze7,Ze8,Ze9,Zfa,Zfb,Zfc,Zfd,Zfe,Zff,Zfg,Zfh,Zfi,Zfj,Zfk,Zfl,Zfm,Zfn,Zfo,Zfp,Zfq,Zfr,Zfs,Zft,Zfu,Zfv,Zfw,Zfx,Zfy,Zfz,Zf0,Zf1,Zf2,Zf3,Zf4,Zf5,Zf6,Zf7,Zf8,Zf9,noIo, isLst, wipeR, Zga,Zgb,Zgc,Zgd,Zge,Zgf,Zgg,Zgh,Zgi,Zgj,Zgk,Zgl,Zgm,Zgn,Zgo,Zgp,Zgq,Zgr,Zgs,Zgt,Zgu,Zgv,Zgw,Zgx,Zgy,Zgz,Zg0,Zg1,Zg2,Zg3,List.foldr_cons, List.foldr_nil, List.getElem?_cons_zero, List.getElem?_cons_succ, List.set_cons_zero, List.set_cons_succ, List.length_cons, List.length_nil, List.replicate_succ, List.replicate_zero, List.cons_append, List.nil_append, List.map_cons, List.map_nil, Nat.reduceAdd, Nat.reduceSub, Nat.reduceLeDiff, Nat.reduceLT, Zg4, ite_true, ite_false, if_true, if_false, Bool.false_eq_true, Bool.true_eq_false, decide_eq_true_eq, Bool.not_eq_true', Bool.not_true, Bool.not_false, decide_true, decide_false, decide_eq_false_iff_not, D.int.injEq, D.str.injEq, D.bl.injEq, reduceCtorEq, Int.cast_ofNat_Int, Int.reduceNeg, Int.reducePow, Int.reduceLE, Int.reduceLT, Int.reduceToNat, and_self, Int.reduceEq, Int.reduceNe, Nat.reduceEqDiff, not_false_eq_true, not_true_eq_false, Int.toNat_natCast, List.range_succ, List.range_zero, Zg5,Zg6,Zg7,Zg8,Zg9,Zha,Zhb,Zhc,Zhd,Zhe,Zhf,Zhg,Zhh,Zhi,Zhj,Zhk,↓reduceIte, Zhl,Zhm,Zhn,Zho,Zhp,Zhq,Zhr,Zhs,Zht,Zhu,Zhv,Zhw,Zhx,Zhy,Zhz,Zh0,Zh1,Zh2,Zh3,Zh4,Zh5,Zh6,Zh7,Zh8,Zh9,Zia,Zib,Zic,Zid,Zie])
  | `(tactic| simp! +zeta $[$d:discharger]? [$args,*]) => `(tactic| simp $[$d]? only [$args,*, Zaa,Zab,Zac,Zad,Zae,Zaf,Zag,Zah,Zai,Zaj,Zak,Zal,Zam,Zan,Zao,Zap,Zaq,Zar,Zas,Zat,Zau,Zav,Zaw,Zax,Zay,Zaz,Za0,Za1,Za2,Za3,Za4,Za5,Za6,Za7,Za8,Za9,Zba,Zbb,Zbc,Zbd,Zbe,Zbf,Zbg,Zbh,Zbi,Zbj,Zbk,Zbl,Zbm,Zbn,Zbo,Zbp,Zbq,Zbr,Zbs,Zbt,Zbu,Zbv,Zbw,Zbx,Zby,Zbz,Zb0,Zb1,Zb2,Zb3,Zb4,Zb5,Zb6,a_C, Zb7,Zb8,Zb9,Zca,Zcb,Zcc,Zcd,Zce,Zcf,Zcg,Zch,Zci,Zcj,Zck,Zcl,Zcm,Zcn,Zco,Zcp,Zcq,Zcr,Zcs,Zct,Zcu,Zcv,Zcw,Zcx,Zcy,Zcz,Zc0,Zc1,Zc2,Zc3,Zc4,Zc5,Zc6,Zc7,Zc8,Zc9,Zda,Zdb,Zdc,Zdd,Zde,Zdf,Zdg,Zdh,Zdi,Zdj,Zdk,Zdl,Zdm,Zdn,Zdo,Zdp,Zdq,Zdr,Zds,Zdt,Zdu,Zdv,Zdw,Zdx,Zdy,Zdz,Zd0,Zd1,Zd2,Zd3,Zd4,Zd5,Zd6,Zd7,Zd8,Zd9,Zea,Zeb,Zec,Zed,Zee,Zef,Zeg,Zeh,Zei,Zej,Zek,Zel,Zem,Zen,Zeo,Zep,Zeq,Zer,Zes,Zet,Zeu,Zev,Zew,g_N, Zex,Zey,Zez,Ze0,Ze1,Ze2,Ze3,Ze4,Ze6,Ze7,Ze8,Ze9,Zfa,Zfb,Zfc,Zfd,Zfe,Zff,Zfg,Zfh,Zfi,Zfj,Zfk,Zfl,Zfm,Zfn,Zfo,Zfp,Zfq,Zfr,Zfs,Zft,Zfu,Zfv,Zfw,Zfx,Zfy,Zfz,Zf0,Zf1,Zf2,Zf3,Zf4,Zf5,Zf6,Zf7,Zf8,Zf9,noIo, isLst, wipeR, Zga,Zgb,Zgc,Zgd,Zge,Zgf,Zgg,Zgh,Zgi,Zgj,Zgk,Zgl,Zgm,Zgn,Zgo,Zgp,Zgq,Zgr,Zgs,Zgt,Zgu,Zgv,Zgw,Zgx,Zgy,Zgz,Zg0,Zg1,Zg2,Zg3,List.foldr_cons, List.foldr_nil, List.getElem?_cons_zero, List.getElem?_cons_succ, List.set_cons_zero, List.set_cons_succ, List.length_cons, List.length_nil, List.replicate_succ, List.replicate_zero, List.cons_append, List.nil_append, List.map_cons, List.map_nil, Nat.reduceAdd, Nat.reduceSub, Nat.reduceLeDiff, Nat.reduceLT, Zg4, ite_true, ite_false, if_true, if_false, Bool.false_eq_true, Bool.true_eq_false, decide_eq_true_eq, Bool.not_eq_true', Bool.not_true, Bool.not_false, decide_true, decide_false, decide_eq_false_iff_not, D.int.injEq, D.str.injEq, D.bl.injEq, reduceCtorEq, Int.cast_ofNat_Int, Int.reduceNeg, Int.reducePow, Int.reduceLE, Int.reduceLT, Int.reduceToNat, and_self, Int.reduceEq, Int.reduceNe, Nat.reduceEqDiff, not_false_eq_true, not_true_eq_false, Int.toNat_natCast, List.range_succ, List.range_zero, Zg5,Zg6,Zg7,Zg8,Zg9,Zha,Zhb,Zhc,Zhd,Zhe,Zhf,Zhg,Zhh,Zhi,Zhj,Zhk,↓reduceIte, Zhl,Zhm,Zhn,Zho,Zhp,Zhq,Zhr,Zhs,Zht,Zhu,Zhv,Zhw,Zhx,Zhy,Zhz,Zh0,Zh1,Zh2,Zh3,Zh4,Zh5,Zh6,Zh7,Zh8,Zh9,Zia,Zib,Zic,Zid,Zie])
  | `(tactic| simp! +beta $[$d:discharger]? [$args,*]) => `(tactic| simp $[$d]? only [$args,*, Zaa,Zab,Zac,Zad,Zae,Zaf,Zag,Zah,Zai,Zaj,Zak,Zal,Zam,Zan,Zao,Zap,Zaq,Zar,Zas,Zat,Zau,Zav,Zaw,Zax,Zay,Zaz,Za0,Za1,Za2,Za3,Za4,Za5,Za6,Za7,Za8,Za9,Zba,Zbb,Zbc,Zbd,Zbe,Zbf,Zbg,Zbh,Zbi,Zbj,Zbk,Zbl,Zbm,Zbn,Zbo,Zbp,Zbq,Zbr,Zbs,Zbt,Zbu,Zbv,Zbw,Zbx,Zby,Zbz,Zb0,Zb1,Zb2,Zb3,Zb4,Zb5,Zb6,a_C, Zb7,Zb8,Zb9,Zca,Zcb,Zcc,Zcd,Zce,Zcf,Zcg,Zch,Zci,Zcj,Zck,Zcl,Zcm,Zcn,Zco,Zcp,Zcq,Zcr,Zcs,Zct,Zcu,Zcv,Zcw,Zcx,Zcy,Zcz,Zc0,Zc1,Zc2,Zc3,Zc4,Zc5,Zc6,Zc7,Zc8,Zc9,Zda,Zdb,Zdc,Zdd,Zde,Zdf,Zdg,Zdh,Zdi,Zdj,Zdk,Zdl,Zdm,Zdn,Zdo,Zdp,Zdq,Zdr,Zdt,Zdu,Zdv,Zdw,Zdx,Zdy,Zdz,Zd0,Zd1,Zd2,Zd3,Zd4,Zd5,Zd6,Zd7,Zd8,Zd9,Zea,Zeb,Zec,Zed,Zee,Zef,Zeg,Zeh,Zei,Zej,Zek,Zel,Zem,Zen,Zeo,Zep,Zeq,Zer,Zes,Zet,Zeu,Zev,Zew,g_N, Zex,Zey,Zez,Ze0,Ze1,Ze2,Ze3,Ze4,Ze5,Ze6,Ze7,Ze8,Ze9,Zfa,Zfb,Zfc,Zfd,Zfe,Zff,Zfg,Zfh,Zfi,Zfj,Zfk,Zfl,Zfm,Zfn,Zfo,Zfp,Zfq,Zfr,Zfs,Zft,Zfu,Zfv,Zfw,Zfx,Zfy,Zfz,Zf0,Zf1,Zf2,Zf3,Zf4,Zf5,Zf6,Zf7,Zf8,Zf9,noIo, isLst, wipeR, Zga,Zgb,Zgc,Zgd,Zge,Zgf,Zgg,Zgh,Zgi,Zgj,Zgk,Zgl,Zgm,Zgn,Zgo,Zgp,Zgq,Zgr,Zgs,Zgt,Zgu,Zgv,Zgw,Zgx,Zgy,Zgz,Zg0,Zg1,Zg2,Zg3,List.foldr_cons, List.foldr_nil, List.getElem?_cons_zero, List.getElem?_cons_succ, List.set_cons_zero, List.set_cons_succ, List.length_cons, List.length_nil, List.replicate_succ, List.replicate_zero, List.cons_append, List.nil_append, List.map_cons, List.map_nil, Nat.reduceAdd, Nat.reduceSub, Nat.reduceLeDiff, Nat.reduceLT, Zg4, ite_true, ite_false, if_true, if_false, Bool.false_eq_true, Bool.true_eq_false, decide_eq_true_eq, Bool.not_eq_true', Bool.not_true, Bool.not_false, decide_true, decide_false, decide_eq_false_iff_not, D.int.injEq, D.str.injEq, D.bl.injEq, reduceCtorEq, Int.cast_ofNat_Int, Int.reduceNeg, Int.reducePow, Int.reduceLE, Int.reduceLT, Int.reduceToNat, and_self, Int.reduceEq, Int.reduceNe, Nat.reduceEqDiff, not_false_eq_true, not_true_eq_false, Int.toNat_natCast, List.range_succ, List.range_zero, Zg5,Zg6,Zg7,Zg8,Zg9,Zha,Zhb,Zhc,Zhd,Zhe,Zhf,Zhg,Zhh,Zhi,Zhj,Zhk,↓reduceIte, Zhl,Zhm,Zhn,Zho,Zhp,Zhq,Zhr,Zhs,Zht,Zhu,Zhv,Zhw,Zhx,Zhy,Zhz,Zh0,Zh1,Zh2,Zh3,Zh4,Zh5,Zh6,Zh7,Zh8,Zh9,Zia,Zib,Zic,Zid,Zie])
  | `(tactic| simp! $[$d:discharger]? [$args,*]) => `(tactic| simp $[$d]? only [$args,*, Zaa,Zab,Zac,Zad,Zae,Zaf,Zag,Zah,Zai,Zaj,Zak,Zal,Zam,Zan,Zao,Zap,Zaq,Zar,Zas,Zat,Zau,Zav,Zaw,Zax,Zay,Zaz,Za0,Za1,Za2,Za3,Za4,Za5,Za6,Za7,Za8,Za9,Zba,Zbb,Zbc,Zbd,Zbe,Zbf,Zbg,Zbh,Zbi,Zbj,Zbk,Zbl,Zbm,Zbn,Zbo,Zbp,Zbq,Zbr,Zbs,Zbt,Zbu,Zbv,Zbw,Zbx,Zby,Zbz,Zb0,Zb1,Zb2,Zb3,Zb4,Zb5,Zb6,a_C, Zb7,Zb8,Zb9,Zca,Zcb,Zcc,Zcd,Zce,Zcf,Zcg,Zch,Zci,Zcj,Zck,Zcl,Zcm,Zcn,Zco,Zcp,Zcq,Zcr,Zcs,Zct,Zcu,Zcv,Zcw,Zcx,Zcy,Zcz,Zc0,Zc1,Zc2,Zc3,Zc4,Zc5,Zc6,Zc7,Zc8,Zc9,Zda,Zdb,Zdc,Zdd,Zde,Zdf,Zdg,Zdh,Zdi,Zdj,Zdk,Zdl,Zdm,Zdn,Zdo,Zdp,Zdq,Zdr,Zds,Zdt,Zdu,Zdv,Zdw,Zdx,Zdy,Zdz,Zd0,Zd1,Zd2,Zd3,Zd4,Zd5,Zd6,Zd7,Zd8,Zd9,Zea,Zeb,Zec,Zed,Zee,Zef,Zeg,Zeh,Zei,Zej,Zek,Zel,Zem,Zen,Zeo,Zep,Zeq,Zer,Zes,Zet,Zeu,Zev,Zew,g_N, Zex,Zey,Zez,Ze0,Ze1,Ze2,Ze3,Ze4,Ze5,Ze6,Ze7,Ze8,Ze9,Zfa,Zfb,Zfc,Zfd,Zfe,Zff,Zfg,Zfh,Zfi,Zfj,Zfk,Zfl,Zfm,Zfn,Zfo,Zfp,Zfq,Zfr,Zfs,Zft,Zfu,Zfv,Zfw,Zfx,Zfy,Zfz,Zf0,Zf1,Zf2,Zf3,Zf4,Zf5,Zf6,Zf7,Zf8,Zf9,noIo, isLst, wipeR, Zga,Zgb,Zgc,Zgd,Zge,Zgf,Zgg,Zgh,Zgi,Zgj,Zgk,Zgl,Zgm,Zgn,Zgo,Zgp,Zgq,Zgr,Zgs,Zgt,Zgu,Zgv,Zgw,Zgx,Zgy,Zgz,Zg0,Zg1,Zg2,Zg3,List.foldr_cons, List.foldr_nil, List.getElem?_cons_zero, List.getElem?_cons_succ, List.set_cons_zero, List.set_cons_succ, List.length_cons, List.length_nil, List.replicate_succ, List.replicate_zero, List.cons_append, List.nil_append, List.map_cons, List.map_nil, Nat.reduceAdd, Nat.reduceSub, Nat.reduceLeDiff, Nat.reduceLT, Zg4, ite_true, ite_false, if_true, if_false, Bool.false_eq_true, Bool.true_eq_false, decide_eq_true_eq, Bool.not_eq_true', Bool.not_true, Bool.not_false, decide_true, decide_false, decide_eq_false_iff_not, D.int.injEq, D.str.injEq, D.bl.injEq, reduceCtorEq, Int.cast_ofNat_Int, Int.reduceNeg, Int.reducePow, Int.reduceLE, Int.reduceLT, Int.reduceToNat, and_self, Int.reduceEq, Int.reduceNe, Nat.reduceEqDiff, not_false_eq_true, not_true_eq_false, Int.toNat_natCast, List.range_succ, List.range_zero, Zg5,Zg6,Zg7,Zg8,Zg9,Zha,Zhb,Zhc,Zhd,Zhe,Zhf,Zhg,Zhh,Zhi,Zhj,Zhk,↓reduceIte, Zhl,Zhm,Zhn,Zho,Zhp,Zhq,Zhr,Zhs,Zht,Zhu,Zhv,Zhw,Zhx,Zhy,Zhz,Zh0,Zh1,Zh2,Zh3,Zh4,Zh5,Zh6,Zh7,Zh8,Zh9,Zia,Zib,Zic,Zid,Zie])
set_option maxHeartbeats 2000000
namespace Hw
open PySem PySem.Spec L2
open PyProof.Rows
variable [Tb]
end Hw
set_option maxHeartbeats 1000000
namespace Hw
open PySem PySem.Spec L2
open PyProof.Rows (envOfC)
variable [Tb]
section
variable {X : Cx} {W : WX} {e o : Expr} {es : List Expr} {mr : SR} {m : SE} {pos apos : Pos} {nm : Str} {f C : Addr} {fd : FuncData} {ps : List Str} {k j n : Nat} {mf : MF} {dds : List D} {dvs : List V} {ds : List Value}
end
end Hw
set_option maxHeartbeats 1000000
namespace Hw
open PySem PySem.Spec L2
open PyProof.Rows (envOfC)
open He
section
variable {prog : Program} {w : World} {A : Around} {E : Value → Shared → Prop} {s : Shared} {K : PySem.W.Frag} {x y C f : Addr} {ox : Obj} {od : Option Obj}
end
variable [Tb]
section
variable {X : Cx} {W : WX} {a b : Expr} {ma mb : SE} {pos : Pos} {c : Str} {f C : Addr} {fd : FuncData} {ps : List Str} {k j : Nat} {mf : MF} {sp : Sp}
end
end Hw
set_option maxHeartbeats 1000000
namespace Hw
open PySem PySem.Spec PySem.Calls L2
open PyProof.Rows
section
variable {prog : Program} {w : World} {A : Around} {E : Value → Shared → Prop} {s : Shared}
end
section
end
variable [Tb]
end Hw
set_option maxHeartbeats 1000000
namespace Hw
open PySem PySem.Spec L2
variable [Tb]
section
variable {X : Cx} {W : WX} {r : Rk} {e : Expr} {m : SE} {pos p2 : Pos} {x : Str}
end
section
variable {k : Kx} {A ps : List Addr} {F0 F H Z : Hp} {ρ : Rho} {σ : L2.St} {τ : Tau}
theorem Wd.row (w : Wd k (A ++ ps) F τ H Z) : ∃ Z', Wd k A F (τ.take A.length) H Z' ∧ Same Z Z' ∧ Reps k Z' (τ.drop A.length) (ps.map V.ref) := by
  induction ps generalizing A Z with
  | nil =>
    rw [List.append_nil] at w
    refine ⟨Z, by rw [List.take_of_length_le (by rw [w.len]; exact Nat.le_refl _)]; exact w, Same.refl Z, ?_⟩
    rw [List.drop_of_length_le (by rw [w.len]; exact Nat.le_refl _)]
    exact Reps.nil
  | cons p ps ih =>
    have w' : Wd k ((A ++ [p]) ++ ps) F τ H Z := by rw [List.append_assoc]; exact w
    obtain ⟨Z1, w1, e1, r1⟩ := ih w'
    have hl := w.len
    rw [List.length_append, List.length_cons] at hl
    have hA : (A ++ [p]).length = A.length + 1 := by rw [List.length_append]; rfl
    rw [hA] at w1 r1
    have hp : (A ++ [p])[A.length]? = some p := by rw [List.getElem?_append_right (Nat.le_refl _), Nat.sub_self]; rfl
    have hlt : A.length < τ.length := by omega
    have hd : (τ.take (A.length + 1))[A.length]? = some τ[A.length] := by
      rw [List.getElem?_take, if_pos (by omega)]
      exact List.getElem?_eq_getElem hlt
    obtain ⟨o, h1, h2⟩ := w1.io _ _ _ hp hd
    have hpz := (w1.out p (by simp)).1
    have hpf := (w1.out p (by simp)).2
    have w2 : Wd k A F (τ.take A.length) H Z1 := by
      have := w1.unlendL
      rw [List.take_take, Nat.min_eq_left (by omega)] at this
      exact this
    have npA : p ∉ A := fun hm => by
      have := w1.nd
      rw [List.nodup_append] at this
      exact this.2.2 p hm p (by simp) rfl
    have w3 : Wd k A (upd F p o) (τ.take A.length) H Z1 := by
      refine ⟨w2.zh, fun b u hb => ?_, fun b => ?_, w2.len, w2.io, fun b hb => ?_, w2.nd, w2.tabs, fun b u hb => ?_, fun b vs hb => ?_, ?_⟩
      rotate_right
      · have g := w1.gr.take2 (F' := upd F p o) A.length fun b f hb => by rw [upd_ne (fun z => hb (by rw [z]; exact List.mem_singleton_self _))]; exact f
        rw [List.take_take, Nat.min_eq_left (by omega)] at g
        exact g
      · by_cases h : b = p
        · subst h; rw [upd_same] at hb; cases hb; exact h1
        · rw [upd_ne h] at hb; exact w2.fh b u hb
      · by_cases h : b = p
        · subst h; exact .inr hpz
        · rw [upd_ne h]; exact w2.zf b
      · rw [upd_ne (fun z => npA (by rw [← z]; exact hb))]; exact w2.out b hb
      · by_cases h : b = p
        · subst h
          rw [upd_same] at hb
          rcases hb with hb | hb
          · rw [hpz] at hb; cases hb
          · cases hb; exact h2.pl
        · rw [upd_ne h] at hb; exact w2.pl b u hb
      · by_cases h : b = p
        · subst h; rw [upd_same] at hb; cases hb; exact h2.nt vs rfl
        · rw [upd_ne h] at hb; exact w2.nt b vs hb
    have w4 := w3.freeze hpf
    refine ⟨upd Z1 p o, w4, e1.trans (same_new hpz), ?_⟩
    rw [List.drop_eq_getElem_cons hlt, List.map_cons]
    exact Reps.cons (rep_of_own h2 hpz) (r1.mono (same_new hpz))
end
section
variable {X : Cx} {W : WX} {A : List Addr}
end
section
variable {X : Cx} {W : WX} {r : Rk} {st : Stmt} {sts rest : List Stmt} {m mb n : SS}
end
section
variable {X : Cx} {W : WX} {r : Rk} {sts : List Stmt} {m : SE} {mb n : SS} {elt tg iter : Expr} {scope : Scope} {pos : Pos} {mi : SI} {g : SG} {is : List Nat}
end
end Hw
set_option maxHeartbeats 1000000
namespace Hw
open PySem PySem.Spec L2
variable [Tb]
section
variable {k : Kx} {A : List Addr} {F0 F H Z : Hp} {ρ : Rho} {σ : L2.St} {τ : Tau}
end
section
variable {X : Cx} {W : WX} {r : Rk} {S T E : Expr} {mS mT mE : SE} {x : Str} {pos p1 p2 p3 p4 p5 p6 : Pos}
end
end Hw
set_option maxHeartbeats 1000000
namespace Hw
open PySem PySem.Spec L2
variable [Tb]
section
variable {X : Cx}
end
section
variable {k : Kx}
end
section
variable {X : Cx} {W : WX} {pos : Pos}
end
end Hw
set_option maxHeartbeats 1000000
namespace Hw
open PySem PySem.Spec L2
section
variable {prog : Program} {w : World} {A : Around} {E : Value → Shared → Prop} {s : Shared} {K : PySem.W.Frag} {x C f : Addr} {ox : Obj} {od : Option Obj}
end
variable [Tb]
section
variable {X : Cx} {W : WX} {a e : Expr} {ma m : SE} {pos p : Pos} {c : Str} {f C : Addr} {fd : FuncData} {ps : List Str} {k j : Nat} {mf : MF} {sp : Sp}
end
end Hw
set_option maxHeartbeats 4000000
namespace Hw
open PySem PySem.Spec L2
open PySem.W (Frag InstAt Looks clsIn findIn mroIn subIn typeIn keepIn looks_clsIn looks_findIn looks_mroIn)
open Builtin Builtin.ObjectAttr
def lkRow (l : List Value) : Prop := ∃ rs : List Addr, l = rs.map Value.ref ++ lkTail
theorem lkB_ok : ∀ l : List Value, lkB l = true → lkRow l
  | [], h => ⟨[], of_decide_eq_true h⟩
  | v :: r, h => by
    cases v with
    | ref a =>
      obtain ⟨rs, e⟩ := lkB_ok r h
      exact ⟨a :: rs, by rw [e]; rfl⟩
    | _ => exact ⟨[], of_decide_eq_true h⟩
theorem lk_pass (self : Value) {l : List Value} (h : lkRow l) : refuseLoop self "__setattr__" l = pure () := by
  obtain ⟨rs, rfl⟩ := h
  induction rs with
  | nil => kernel_rfl
  | cons a rs ih =>
    rw [List.map_cons, List.cons_append, refuseLoop_ref]
    exact ih
theorem lk_has (X : String) {l : List Value} (h : lkRow l) : l.contains (.type X) = lkTail.contains (.type X) := by
  obtain ⟨rs, rfl⟩ := h
  induction rs with
  | nil => rfl
  | cons a rs ih =>
    rw [List.map_cons, List.cons_append, List.contains_cons, ih]
    rfl
theorem lk_full {l : List Value} (h : lkRow l) : l.isEmpty = false := by
  obtain ⟨rs, rfl⟩ := h
  cases rs <;> rfl
structure LkC (K : Frag) (C : Addr) : Prop where
  cls : ∃ nm q N bs bm sn sub ab col dd k0 k1 k2 k3 k5, K.lookup C = some (excClassObj nm q C N bs bm true sn sub ab col dd k0 k1 k2 k3 k5 "LookupError.__new__") ∧ lkRow bm
  sa : findIn K (.ref C) "__setattr__" = some (some (.builtin "object.__setattr__"))
  exC : subIn K (.ref C) (.type "BaseException") = some true
  tyC : typeIn K (.ref C) = some (.type "type")
  kC : keepIn K (.ref C) = true
section
variable {prog : Program} {w : World} {A : Around} {R : Result → Shared → Prop} {hp : Heap} {g : Array GenState} {d : Drawn} {t : Nat} {os : OsState} {K : Frag} {name : Str} {tk : Tok} {v : Value} {x C dx : Addr} {fv : Array Value} {cd : ClassData} {m0 : Str → Option Value} {nl : List Str}
theorem lk_inst {ox : Obj} {od : Option Obj} (X : K.In hp) (I : InstAt hp x ox C od) (hcd : clsIn K C = some cd) (hm : lkRow cd.mro) : Looks (model prog w) hp (isInstance (.ref x) (.type "object")) true :=
  I.type.andThen (looks_mroIn X (by
    have h1 : cd.mro.contains (.type "object") = true := (lk_has "object" hm).trans (by decide +kernel)
    unfold mroIn
    rw [hcd, Option.bind_some, if_neg (by rw [lk_full hm]; decide), h1]))
theorem lk_new (X : K.In hp) (hx : hp.get? x = some { cls := .ref C, data := .fields fv }) (hcd : clsIn K C = some cd) (hm : lkRow cd.mro) (hh : cd.hasDict = true) (ha : findIn K (.ref C) name = some none)
    (hq : ∀ h' tk' dx, (∀ b o, b ≠ x → hp.get? b = some o → h'.get? b = some o) → hp.objs.size ≤ dx → dx ≠ x → h'.get? x = some { cls := .ref C, dict := some dx, data := .fields fv } →
      h'.Ns1 dx (fun y => if y = name then some v else none) → R (.ok (.ret .none)) ⟨h', g, d, tk', os⟩) :
    codeAny (model prog w) A (.call (.builtin "object.__setattr__") ⟨[.ref x, .str name tk, v], []⟩) R ⟨hp, g, d, t, os⟩ := by
  have I : InstAt hp x { cls := .ref C, data := .fields fv } C none := ⟨hx, rfl, rfl, trivial⟩
  have far : x ≠ hp.objs.size := Nat.ne_of_lt (Heap.lt_size hx)
  have S := F.store_object
  refine codeAny_call_builtin S.slot.plain S.entry (@PySem.W.check_slot (model prog w) _ _ ⟨hp, g, d, t, os⟩ "object.__setattr__" "object" "__setattr__" (.ref x) [.str name tk, v] [] _ S.kind S.split (lk_inst X I hcd hm) (S.args (.ref x) (.str name tk) v) ?_)
  have r1 : Looks (model prog w) hp (mroOf (.ref C)) cd.mro := (looks_clsIn X hcd).andThen .now
  have r2 : Looks (model prog w) hp (classData C) cd := looks_clsIn X hcd
  have r3 : Looks (model prog w) hp (storeTaker? none) none := .now
  rw [PySem.W.osa_eq, refuse_eq]
  refine wpAny_bind (wpAny_bind (I.type.at (wpAny_bind (r1.at ?_))))
  rw [lk_pass _ hm]
  refine wpAny_pure (wpAny_bind (I.type.at (wpAny_bind ((looks_findIn X ha).at (wpAny_bind (r3.at ?_))))))
  show wpAny _ _ (storeInOwnDict (.ref x) (.ref C) (.str name tk) name v false) _ _ _
  obtain ⟨n1, n2, n3, n4, n5, n6, n7, n8, n9, n10, n11⟩ := cd
  dsimp only at hh
  subst hh
  unfold storeInOwnDict ownDictForStores
  repeat (first | with_reducible refine PySem.HandSPX.store_in_new ?_ ?_ | with_reducible refine wpAny_loadPart_at hx ?_ | with_reducible refine r2.at ?_ | wp_step)
  · exact ⟨_, #[], _, (Heap.get?_update_ne _ _ _ _ far.symm).trans (Heap.get?_push_at rfl rfl), rfl, fun e he => absurd he (by simp), fun _ => rfl⟩
  · intro h' tk' hn hs
    have h1 : (hp.push { cls := .type "dict", data := .dict #[] }).get? x = some { cls := .ref C, data := .fields fv } := Heap.get?_push_of_some _ hx
    refine hq h' tk' hp.objs.size (fun b o hb ho => ?_) (Nat.le_refl _) far.symm ?_ hn
    · exact (hs.2 b (Nat.ne_of_lt (Heap.lt_size ho))).trans ((Heap.get?_update_ne _ _ _ _ hb).trans (Heap.get?_push_of_some _ ho))
    · exact (hs.2 x far).trans (Heap.get?_update_self _ h1 rfl)
theorem lk_old (X : K.In hp) (hx : hp.get? x = some { cls := .ref C, dict := some dx, data := .fields fv }) (hns : hp.Ns1 dx m0) (hw : PySem.Within m0 nl) (hz : nl.length ≤ 1000) (hcd : clsIn K C = some cd) (hm : lkRow cd.mro) (hh : cd.hasDict = true)
    (ha : findIn K (.ref C) name = some none)
    (hq : ∀ h' tk', (∀ b o, b ≠ dx → hp.get? b = some o → h'.get? b = some o) → h'.Ns1 dx (fun y => if y = name then some v else m0 y) → R (.ok (.ret .none)) ⟨h', g, d, tk', os⟩) :
    codeAny (model prog w) A (.call (.builtin "object.__setattr__") ⟨[.ref x, .str name tk, v], []⟩) R ⟨hp, g, d, t, os⟩ := by
  obtain ⟨oD, _, _, hoD, _, _⟩ := hns.count hw
  have I : InstAt hp x { cls := .ref C, dict := some dx, data := .fields fv } C (some oD) := ⟨hx, rfl, rfl, hoD⟩
  have S := F.store_object
  refine codeAny_call_builtin S.slot.plain S.entry (@PySem.W.check_slot (model prog w) _ _ ⟨hp, g, d, t, os⟩ "object.__setattr__" "object" "__setattr__" (.ref x) [.str name tk, v] [] _ S.kind S.split (lk_inst X I hcd hm) (S.args (.ref x) (.str name tk) v) ?_)
  have r1 : Looks (model prog w) hp (mroOf (.ref C)) cd.mro := (looks_clsIn X hcd).andThen .now
  have r2 : Looks (model prog w) hp (classData C) cd := looks_clsIn X hcd
  have r3 : Looks (model prog w) hp (storeTaker? none) none := .now
  rw [PySem.W.osa_eq, refuse_eq]
  refine wpAny_bind (wpAny_bind (I.type.at (wpAny_bind (r1.at ?_))))
  rw [lk_pass _ hm]
  refine wpAny_pure (wpAny_bind (I.type.at (wpAny_bind ((looks_findIn X ha).at (wpAny_bind (r3.at ?_))))))
  show wpAny _ _ (storeInOwnDict (.ref x) (.ref C) (.str name tk) name v false) _ _ _
  obtain ⟨n1, n2, n3, n4, n5, n6, n7, n8, n9, n10, n11⟩ := cd
  dsimp only at hh
  subst hh
  unfold storeInOwnDict ownDictForStores
  repeat (first | with_reducible refine PySem.OEX.store_in_old hns hw hz ?_ | with_reducible refine wpAny_loadPart_at hx ?_ | with_reducible refine r2.at ?_ | wp_step)
  intro h' tk' hn hs
  exact hq h' tk' (fun b o hb ho => (hs.2 b hb).trans ho) hn
end
section
variable {X : Cx} {pins : List (Addr × Obj)} {σ : L2.St} {H : Hp} {s : Shared} {a C dx : Addr} {f : Str} {y : V} {u : Value} {fs : List (Str × V)} {Q : Unit → Shared → Prop} {E : Value → Shared → Prop} {A : Around}
theorem lk_cls {K : Frag} (T : LkC K C) : ∃ cd, clsIn K C = some cd ∧ lkRow cd.mro ∧ cd.hasDict = true := by
  obtain ⟨nm, q, N, bs, bm, sn, sub, ab, col, dd, k0, k1, k2, k3, k5, hC, rs, hbm⟩ := T.cls
  refine ⟨{ name := nm, bases := bs, mro := .ref C :: bm, ns := N, qualname := q, hasDict := true, slotNames := sn, subclasses := sub, abstract := ab, collection := col, hasDel := false }, ?_, ⟨C :: rs, ?_⟩, rfl⟩
  · unfold clsIn
    rw [hC] <;> rfl
  · dsimp only
    rw [hbm]
    rfl
theorem lk_first (T : LkC X.K C) (I : Inv X pins σ H s) (e : H a = some (exo a C none)) (hno : findIn X.K (.ref C) f = some none) (ry : RelV y u)
    (h : ∀ dx s', H dx = none → dx ≠ a → Inv X pins σ (upd (upd H dx (exd dx [(f, y)])) a (exo a C (some dx))) s' → Q () s') : wpAny (model X.prog X.w) A (setAttr (.ref a) f u) Q E s := by
  obtain ⟨cd, c1, c2, c3⟩ := lk_cls T
  obtain ⟨t1, ho⟩ := exo_at I.hok e
  obtain ⟨hp, g, d, t, os⟩ := s
  refine PySem.W.set_plain I.kIn (ox := { cls := .ref C, dict := none, data := .fields #[.ref t1, .none, .none, .none, .bool false, .none] }) (od := none) ⟨ho, rfl, rfl, trivial⟩ T.sa ?_
  refine lk_new I.kIn ho c1 c2 c3 hno (fun h' tk' dx keep dn dne hx hn => ?_)
  have n0 : H dx = none := I.hok.fresh dn
  have old : ∀ {b : Addr} {o : Obj}, hp.get? b = some o → b ≠ dx := fun {b o} q => Nat.ne_of_lt (Nat.lt_of_lt_of_le (Heap.lt_size q) dn)
  have nota : ∀ {b : Addr}, H b = none → b ≠ a := fun {b} n z => by rw [z, e] at n; cases n
  have U : Un X.fs [] H (upd (upd H dx (exd dx [(f, y)])) a (exo a C (some dx))) hp h' := {
    keep := fun b o q n _ _ => keep b o (nota n) q
    slot := fun b o q n _ _ => ⟨o.slots, keep b o (nota n) q⟩
    free := fun b o q n _ => by rw [upd_ne (nota n), upd_ne (old q)]; exact n
    there := fun b o q _ => by
      by_cases hb : b = a
      · exact ⟨_, by rw [hb]; exact hx⟩
      · exact ⟨o, keep b o hb q⟩
    tups := fun b xs q => by rw [upd_ne (at_ne e q exo_tup), upd_ne (ne_of_none q n0)]; exact q
    frzs := fun b o v q => by rw [upd_ne (at_ne e q exo_frz), upd_ne (ne_of_none q n0)]; exact q
    tbls := fun b ps q => ⟨#[], by rw [upd_ne (at_ne e q exo_tbl), upd_ne (ne_of_none q n0), q]; simp⟩ }
  refine h dx _ n0 dne (I.un (t' := tk') U fun b o q => ?_)
  by_cases hb : b = a
  · subst hb
    rw [upd_same] at q
    cases q
    exact exo_ok hx
  rw [upd_ne hb] at q
  by_cases hd : b = dx
  · subst hd
    rw [upd_same] at q
    cases q
    exact exd_ok hn (relO_put (fs := []) ry fun g => True.intro)
  rw [upd_ne hd] at q
  exact (I.hok b o q).stay (fun c v hc z => keep c v (hc.elim (fun hc => by rw [hc]; exact hb) fun hc => at_ne e hc exo_own) z)
    (fun c hc => by rw [upd_ne (at_ne e hc exo_own), upd_ne (ne_of_none hc n0)]; exact hc) (fun c xs hc => by rw [upd_ne (at_ne e hc exo_tup), upd_ne (ne_of_none hc n0)]; exact hc)
theorem lk_later (T : LkC X.K C) (I : Inv X pins σ H s) (e : H a = some (exo a C (some dx))) (ed : H dx = some (exd dx fs)) (hl : fs.length ≤ 900) (hno : findIn X.K (.ref C) f = some none) (ry : RelV y u)
    (h : ∀ s', Inv X pins σ (upd H dx (exd dx ((f, y) :: fs))) s' → Q () s') : wpAny (model X.prog X.w) A (setAttr (.ref a) f u) Q E s := by
  obtain ⟨cd, c1, c2, c3⟩ := lk_cls T
  obtain ⟨t1, ho⟩ := exo_at I.hok e
  obtain ⟨mA, hns, rel⟩ := exd_at I.hok ed
  have hw := within_of rel
  obtain ⟨hp, g, d, t, os⟩ := s
  obtain ⟨oD, _, _, hoD, _, _⟩ := hns.count hw
  refine PySem.W.set_plain I.kIn (ox := { cls := .ref C, dict := some dx, data := .fields #[.ref t1, .none, .none, .none, .bool false, .none] }) (od := some oD) ⟨ho, rfl, rfl, hoD⟩ T.sa ?_
  refine lk_old I.kIn ho hns hw (by rw [List.length_map]; omega) c1 c2 c3 hno (fun h' tk' keep hn => ?_)
  have hd : ∃ o, h'.get? dx = some o := by
    obtain ⟨o, _, _, e', _⟩ := hn
    exact ⟨o, e'⟩
  exact h _ (I.write (t' := tk') (x := dx) (e := dx) (o := exd dx ((f, y) :: fs)) (by rw [ed]; exact True.intro) (.inl rfl) keep hd (exd_ok hn (relO_put ry rel)))
end
def tLk (K : Frag) (f : Str) (to te : TE) : TS := fun D σ H => te σ H fun y H1 => to σ H1 fun x H2 => ∃ a C : Addr, x = .ref a ∧ LkC K C ∧ findIn K (.ref C) f = some none ∧
  ((H2 a = some (exo a C none) ∧ ∀ dx, H2 dx = none → dx ≠ a → D.nx σ (upd (upd H2 dx (exd dx [(f, y)])) a (exo a C (some dx)))) ∨
    ∃ (dx : Addr) (fs : List (Str × V)), H2 a = some (exo a C (some dx)) ∧ H2 dx = some (exd dx fs) ∧ fs.length ≤ 900 ∧ D.nx σ (upd H2 dx (exd dx ((f, y) :: fs))))
section
variable {X : Cx} {o e : Expr} {es : List Expr} {to te : TE} {ta : TA} {f : Str} {p p' pos : Pos}
theorem ps_lk (ho : PE X o to) (he : PE X e te) (hs : swapsWith e (some (.Attribute o f p')) pos.line X.env = pure false := by rfl) : PS X (.Assign [.Attribute o f p'] e pos) (tLk X.K f to te) :=
  ⟨fun pins s σ H D I h => plainObj_wpAny_Assign_Attribute (thn (he.run pins s σ H _ I h) fun v s1 ⟨y, H1, I1, r1, q1⟩ => thn (ho.run pins s1 σ H1 _ I1 q1) fun u s2 ⟨x, H2, I2, r2, a, C, ex, T, hno, q⟩ => by
    subst ex
    obtain rfl : u = Value.ref a := r2
    rcases q with ⟨ea, q⟩ | ⟨dx, fs, ea, ed, hl, q⟩
    · exact lk_first T I2 ea hno r1 fun dx s' n ne J => ⟨σ, _, J, q dx n ne⟩
    · exact lk_later T I2 ea ed hl hno r1 fun s' J => ⟨σ, _, J, q⟩) hs⟩
end
end Hw
set_option maxHeartbeats 1000000
namespace Hw
open PySem PySem.Spec L2
open He (ga ma eqO eqO_ok)
variable [Tb]
def SpLk (K : PySem.W.Frag) (C : Addr) (n : Nat) (fs : List V → List (Str × V)) : Sp := fun vs H Q _ => vs.length = n + 1 ∧ ∃ a rest, vs = V.ref a :: rest ∧ LkC K C ∧ H a = some (exo a C none) ∧
  ∀ d H', H d = none → d ≠ a → (∀ b, b ≠ a → b ≠ d → H' b = H b) → H' a = some (exo a C (some d)) → H' d = some (exd d (fs rest)) → Q .non H'
section
variable {P : Program} {w : World} {K : PySem.W.Frag} {mg : Str → Option Value} {base : Heap} {C f : Addr} {fd : FuncData} {st : Stmt} {qual tag : Str} {j : Nat} {p1 p2 p3 p4 q1 q2 q3 q4 : Pos}
theorem ok_lk1 {p : Str} (F : Fun K "__init__" qual st f fd) (S : FnScope ["self", p] ["self", p] (defScope st)) (hb : defBody st = [.Assign [.Attribute (.Name "self" p1) "tag" p2] (.Constant (.str tag) j p3) p4, .Assign [.Attribute (.Name "self" q1) p q2] (.Name p q3) q4])
    (hv : Vis (defScope st) "self") (hp : Vis (defScope st) p) (hd1 : (p == ("__debug__" : Str)) = false) (hd2 : (p == ("__classdict__" : Str)) = false) (n1 : PySem.W.findIn K (.ref C) "tag" = some none) (n2 : PySem.W.findIn K (.ref C) p = some none) :
    FnOk P w K mg base CX0 1 f fd ["self", p] (SpLk K C 1 fun r => [(p, r.getD 0 .non), ("tag", .str tag)]) := by
  refine F.ok S (fun vs H Q E h => h.1) (fun cdv A outer s H vs Q E hr h => ?_)
  obtain ⟨hl, a, rest, rfl, T, ha, q⟩ := h
  obtain ⟨v, rfl⟩ : ∃ v, rest = [v] := by
    match rest, hl with
    | [v], _ => exact ⟨v, rfl⟩
  rw [hb]
  refine ⟨_, pss_cons (ps_lk (pe_var (i := 0) rfl hv) pe_str) (pss_one (ps_lk (pe_var (i := 0) rfl hv) (pe_var (i := 1) rfl hp hd1 hd2))), ?_⟩
  refine ⟨.ref a, rfl, a, C, rfl, T, n1, .inl ⟨ha, fun d hd hda => ?_⟩⟩
  refine ⟨v, rfl, .ref a, rfl, a, C, rfl, T, n2, .inr ⟨d, [("tag", .str tag)], upd_same, by rw [upd_ne hda, upd_same], by simp, ?_⟩⟩
  refine q d _ hd hda (fun b h1 h2 => by rw [upd_ne h2, upd_ne h1, upd_ne h2]) (by rw [upd_ne (Ne.symm hda), upd_same]) upd_same
end
section
variable {X : Cx} {W : WX} {r : Rk} {e : Expr} {es : List Expr} {m : SA} {C fI : Addr} {fd : FuncData} {ps : List Str} {k n : Nat} {x : Str} {p pos pos' : Pos} {fsV : List V → List (Str × V)} {fs : List Str} {vals : List D → List D}
end
theorem lkcB_ok {K : PySem.W.Frag} {C : Addr} (h : lkcB K C = true) : LkC K C := by
  unfold lkcB at h
  obtain ⟨h1, h2⟩ := He.ba h
  obtain ⟨h3, h4⟩ := He.ba h2
  obtain ⟨h5, h6⟩ := He.ba h4
  obtain ⟨h7, h8⟩ := He.ba h6
  refine ⟨?_, eqO_ok h3, of_decide_eq_true h5, of_decide_eq_true h7, h8⟩
  split at h1
  · rename_i t dd cd sl ho
    split at h1
    · rename_i C' bm k0 k1 k2 k3 n k5 hm hs
      simp only [Bool.and_eq_true, decide_eq_true_eq, Bool.not_eq_true'] at h1
      obtain ⟨rfl, rfl, rfl, hdel, hdict, hr⟩ := h1
      obtain ⟨nm, bs, mro, ns, qn, hd, sn, sub, ab, col, del⟩ := cd
      dsimp only at hm hdel hdict
      subst hm hdel hdict
      have hsl : sl = #[k0, k1, k2, k3, some (.builtin "LookupError.__new__"), k5] := by
        obtain ⟨l⟩ := sl
        simp only at hs
        rw [hs]
      subst hsl
      exact ⟨nm, qn, ns, bs, bm, sn, sub, ab, col, dd, k0, k1, k2, k3, k5, ho, lkB_ok bm hr⟩
    · cases h1
  · cases h1
section
variable {P : Program} {w : World} {K : PySem.W.Frag} {mg : Str → Option Value} {base : Heap} {x qual tag p : Str} {st : Stmt} {fd : FuncData} {fs : List Str} {j : Nat} {p1 p2 p3 p4 q1 q2 q3 q4 : Pos}
theorem errLB_no (h : errLB K x fs = true) {f : Str} (hf : f ∈ fs) : PySem.W.findIn K (.ref (ga K x)) f = some none := of_decide_eq_true (List.all_eq_true.mp (He.ba (He.ba h).2).2 f hf)
end
end Hw
set_option maxHeartbeats 1000000
namespace Hw
open PySem PySem.Spec L2
variable [Tb]
section
variable {X : Cx} {W : WX} {e : Expr} {es : List Expr} {kws : List Keyword} {n m : Nat} {mr mk : SR} {pos p : Pos} {x : Str} {f : Addr} {fd : FuncData} {ps ks : List Str} {k : Nat} {mf : MF}
end
end Hw
set_option maxHeartbeats 1000000
namespace Hw
open PySem PySem.Spec L2
variable [Tb]
section
variable {X : Cx} {W : WX}
variable {elt tg iter tg1 iter1 : Expr} {ifs ifs1 : List Expr} {scope : Scope} {pos : Pos} {mi mi1 : SI} {g g1 : SG} {is is1 : List Nat} {t t1 : ST} {m : SE}
end
end Hw
set_option maxHeartbeats 1000000
namespace Hw
open PySem PySem.Spec L2
variable [Tb]
end Hw
set_option maxHeartbeats 1000000
namespace Hw
open PySem PySem.Spec L2
open PyProof.Rows (envOfC)
variable [Tb]
section
variable {X : Cx} {W : WX} {e o : Expr} {es : List Expr} {kws : List Keyword} {n j : Nat} {mr mk : SR} {m : SE} {pos apos : Pos} {c nm : Str} {f C : Addr} {fd : FuncData} {ps ks : List Str} {k : Nat} {mf : MF} {ta : TE}
end
end Hw
set_option maxHeartbeats 1000000
namespace Hw
open PySem PySem.Spec L2
variable [Tb]
section
variable {X : Cx} {W : WX} {r : Rk} {T E : Expr} {mT mE : SE} {pos p1 p3 : Pos} {x : Str}
end
end Hw
set_option maxHeartbeats 1000000
namespace L2
open PySem PySem.Spec PyProof.Rows PySem.W
section
variable {X : Cx} {pins : List (Addr × Obj)} {σ : St} {H : Hp} {s : Shared}
end
end L2
namespace Hw
open PySem PySem.Spec L2 PySem.W
variable [Tb]
end Hw
set_option maxHeartbeats 1000000
namespace Hw
open PySem PySem.Spec L2
variable [Tb]
section
variable {X : Cx} {W : WX} {r : Rk} {pos cpos apos : Pos} {x : Str}
end
section
variable {X : Cx} {W : WX} {pos p : Pos} {x : Str} {k j : Nat} {mf : MF}
end
end Hw
set_option maxHeartbeats 1000000
namespace Hw
open PySem PySem.Spec L2
variable [Tb]
section
variable {X : Cx} {W : WX}
variable {elt tg : Expr} {ifs : List Expr} {scope : Scope} {pos p : Pos} {g : SG} {is : List Nat} {t : ST} {m : SE} {x : Str}
end
end Hw
set_option maxHeartbeats 1000000
namespace Hw
open PySem PySem.Spec L2
variable [Tb]
section
variable {k : Kx} {F F' Z Z' : Hp}
mutual
theorem RepT.mono (e : Same Z Z') : ∀ {fp : List Addr} {d : D} {v : V}, RepT k F Z fp d v → (∀ a ∈ fp, ∀ o, F a = some o → F' a = some o) → RepT k F' Z' fp d v
  | _, _, _, .leaf h n, _ => .leaf (h.mono e) n
  | _, _, _, .lst h r, q => .lst (q _ List.mem_cons_self _ h) (RepTs.mono e r fun a ha => q a (List.mem_cons_of_mem _ ha))
  | _, _, _, .tup h r, q => .tup (e _ _ h) (RepTs.mono e r q)
theorem RepTs.mono (e : Same Z Z') : ∀ {fp : List Addr} {ds : List D} {vs : List V}, RepTs k F Z fp ds vs → (∀ a ∈ fp, ∀ o, F a = some o → F' a = some o) → RepTs k F' Z' fp ds vs
  | _, _, _, .nil, _ => .nil
  | _, _, _, .cons h r, q => .cons (RepT.mono e h fun a ha => q a (List.mem_append_left _ ha)) (RepTs.mono e r fun a ha => q a (List.mem_append_right _ ha))
end
theorem RepT.up (h : RepT k F Z fp d v) (e : Same Z Z') (f : Same F F') : RepT k F' Z' fp d v := h.mono e fun _ _ _ q => f _ _ q
theorem RepTs.up (h : RepTs k F Z fp ds vs) (e : Same Z Z') (f : Same F F') : RepTs k F' Z' fp ds vs := h.mono e fun _ _ _ q => f _ _ q
mutual
theorem RepT.cell : ∀ {fp : List Addr} {d : D} {v : V}, RepT k F Z fp d v → ∀ a ∈ fp, ∃ vs, F a = some (.lst vs)
  | _, _, _, .leaf h n, _, q => nomatch q
  | _, _, _, .lst h r, a, q => by
    rcases List.mem_cons.mp q with e | e
    · subst e; exact ⟨_, h⟩
    · exact RepTs.cell r a e
  | _, _, _, .tup h r, a, q => RepTs.cell r a q
theorem RepTs.cell : ∀ {fp : List Addr} {ds : List D} {vs : List V}, RepTs k F Z fp ds vs → ∀ a ∈ fp, ∃ vs, F a = some (.lst vs)
  | _, _, _, .nil, _, q => nomatch q
  | _, _, _, .cons h r, a, q => by
    rcases List.mem_append.mp q with e | e
    · exact RepT.cell h a e
    · exact RepTs.cell r a e
end
mutual
/-- all of it stands still: data -/
theorem RepT.rep (e : Same Z Z') : ∀ {fp : List Addr} {d : D} {v : V}, RepT k F Z fp d v → (∀ a ∈ fp, ∀ o, F a = some o → Z' a = some o) → Rep k Z' d v
  | _, _, _, .leaf h n, _ => h.mono e
  | _, _, _, .lst h r, q => rep_lst.mpr ⟨_, _, rfl, q _ List.mem_cons_self _ h, RepTs.reps e r fun a ha => q a (List.mem_cons_of_mem _ ha)⟩
  | _, _, _, .tup h r, q => rep_tup.mpr ⟨_, _, rfl, e _ _ h, RepTs.reps e r q⟩
theorem RepTs.reps (e : Same Z Z') : ∀ {fp : List Addr} {ds : List D} {vs : List V}, RepTs k F Z fp ds vs → (∀ a ∈ fp, ∀ o, F a = some o → Z' a = some o) → Reps k Z' ds vs
  | _, _, _, .nil, _ => Reps.nil
  | _, _, _, .cons h r, q => Reps.cons (RepT.rep e h fun a ha => q a (List.mem_append_left _ ha)) (RepTs.reps e r fun a ha => q a (List.mem_append_right _ ha))
end
theorem RepTs.len {fp : List Addr} : ∀ {ds : List D} {vs : List V}, RepTs k F Z fp ds vs → ds.length = vs.length := by
  intro ds
  induction ds generalizing fp with
  | nil => intro vs h; cases h; rfl
  | cons d ds ih =>
    intro vs h
    cases h with
    | cons h1 h2 => rw [List.length_cons, List.length_cons, ih h2]
end
def thaw (F : Hp) (fp : List Addr) : Hp := fun b => if b ∈ fp then none else F b
theorem thaw_in {F : Hp} {fp : List Addr} {b : Addr} (h : b ∈ fp) : thaw F fp b = none := if_pos h
theorem thaw_out {F : Hp} {fp : List Addr} {b : Addr} (h : b ∉ fp) : thaw F fp b = F b := if_neg h
theorem thaw_sub (F : Hp) (fp : List Addr) : Same (thaw F fp) F := fun b o h => by
  by_cases hb : b ∈ fp
  · rw [thaw_in hb] at h; cases h
  · rw [thaw_out hb] at h; exact h
section
variable {k : Kx} {A : List Addr} {F F0 Z H : Hp} {τ : Tau} {fp : List Addr}
theorem Wd.no_z (w : Wd k A F τ H Z) {a : Addr} {o : HO} (h : F a = some o) : Z a = none := by
  rcases w.zf a with z | z
  · rw [h] at z; cases z
  · exact z
theorem RepX.sub {Z H : Hp} {e : Exc} {cls : Value} {dx : Option Addr} (h : RepX k F Z H e cls dx) (s : Same F0 F) : RepX k F0 Z H e cls dx := by
  obtain ⟨C, d, vs, h1, h2, h3, h4, h5, h6, h7, h8⟩ := h
  exact ⟨C, d, vs, h1, h2, h3, h4, h5, h6, s.free h7, h8⟩
end
section
variable {X : Cx} {W : WX} {e : Expr} {es : List Expr} {m : SE} {mr : SA} {pos : Pos}
end
end Hw
set_option maxHeartbeats 1000000
namespace Hw
open PySem PySem.Spec L2 LamX
open PyProof.Rows (envOfC)
open He (Fa DefD ga ma fAd SaysD cT codeOf tabOf eqO eqO_ok)
variable [Tb]
section
variable {X : Cx} {W : WX}
end
section
variable {X : Cx} {W : WX}
variable {elt tg iter : Expr} {ifs : List Expr} {scope : Scope} {pos : Pos} {mi : SI} {g : SG} {is : List Nat} {t : ST} {m : SE}
end
end Hw
set_option maxHeartbeats 1000000
namespace Hw
open PySem PySem.Spec L2
variable [Tb]
section
variable {k : Kx} {F F' Z Z' : Hp}
theorem RepTs.at {j : Nat} {d : D} : ∀ {ds : List D} {vs : List V} {fp : List Addr}, RepTs k F Z fp ds vs → ds[j]? = some d → ∃ f1 fd f2 v, fp = f1 ++ (fd ++ f2) ∧ vs[j]? = some v ∧ RepT k F Z fd d v ∧
    ∀ {F' Z' fd' d'}, Same Z Z' → RepT k F' Z' fd' d' v → (∀ a ∈ f1, ∀ o, F a = some o → F' a = some o) → (∀ a ∈ f2, ∀ o, F a = some o → F' a = some o) → RepTs k F' Z' (f1 ++ (fd' ++ f2)) (ds.set j d') vs := by
  intro ds
  induction ds generalizing j with
  | nil => intro vs fp _ h; cases h
  | cons e ds ih =>
    intro vs fp r h
    cases r with
    | @cons fp1 fq _ _ v vs h1 h2 =>
      cases j with
      | zero =>
        have h : e = d := by simpa using h
        subst h
        exact ⟨[], fp1, fq, v, rfl, rfl, h1, fun {F' Z' fd' d'} eZ g _ q2 => (RepTs.cons g (h2.mono eZ q2) : RepTs k F' Z' (fd' ++ fq) _ _)⟩
      | succ j =>
        obtain ⟨f1, fd, f2, u, e1, e2, e3, e4⟩ := ih h2 (by simpa using h)
        refine ⟨fp1 ++ f1, fd, f2, u, by rw [e1, List.append_assoc], by simpa using e2, e3, fun {F' Z' fd' d'} eZ g q1 q2 => ?_⟩
        rw [List.append_assoc]
        exact .cons (h1.mono eZ fun a ha => q1 a (List.mem_append_left _ ha)) (e4 eZ g (fun a ha => q1 a (List.mem_append_right _ ha)) q2)
end
end Hw
set_option maxHeartbeats 1000000
namespace Hw
open PySem PySem.Spec L2
variable [Tb]
structure Md (k : Kx) (A : List Addr) (F0 F : Hp) (ρ : Rho) (σ : L2.St) (Z : Hp) (i : Nat) (fp : List Addr) : Prop where
  s : Sl k A F0 F (ρ.set i .no) σ Z
  v : ∃ d v, ρ[i]? = some (.fz d) ∧ σ[i]? = some (some v) ∧ RepT k F Z fp d v
  nd : fp.Nodup
  f0 : ∀ a ∈ fp, F0 a = none
  ap : ∀ (j : Nat) (e : D) (a : Addr), (ρ.set i .no)[j]? = some (.own e) → σ[j]? = some (some (V.ref a)) → a ∉ fp
  apr : ∀ (j l n : Nat) (a : Addr), (ρ.set i .no)[j]? = some (.rows l n) → σ[j]? = some (some (V.ref a)) → a ∉ fp
def AfterM (c : Jx) (r : Rk) (A : List Addr) (F0 Z : Hp) (D : Ends) (i : Nat) (o : Fl) : Prop := match o with
  | .nx ρ τ => ∀ σ H' Z' F' fp, Wd c.k A F' τ H' Z' → Md c.k A F0 F' ρ σ Z' i fp → Same Z Z' → D.nx σ H'
  | .ret d τ => AfterS c r A F0 Z D (.ret d τ)
  | .brk ρ τ => AfterS c r A F0 Z D (.brk ρ τ)
  | .cnt ρ τ => AfterS c r A F0 Z D (.cnt ρ τ)
  | .exc _ _ _ => False
  | .bad => False
section
variable {k : Kx} {A : List Addr} {F0 F F' Z Z' H : Hp} {ρ : Rho} {σ : L2.St} {τ : Tau} {i : Nat} {fp : List Addr}
theorem Md.ne (M : Md k A F0 F ρ σ Z i fp) {j : Nat} {x : Sv} (h : ρ[j]? = some x) (hx : ∀ d, x ≠ .fz d) : i ≠ j := fun e => by
  subst e
  obtain ⟨d, v, h1, _⟩ := M.v
  rw [h1] at h
  cases h
  exact hx _ rfl
theorem Md.up (M : Md k A F0 F ρ σ Z i fp) (eZ : Same Z Z') (eF : Same F F') : Md k A F0 F' ρ σ Z' i fp :=
  ⟨(M.s.mono eZ).subF eF, let ⟨d, v, h1, h2, h3⟩ := M.v; ⟨d, v, h1, h2, h3.up eZ eF⟩, M.nd, M.f0, M.ap, M.apr⟩
end
section
variable {X : Cx} {W : WX} {r : Rk} {i : Nat} {st : Stmt} {rest body : List Stmt} {m n mb : SS} {me : SE} {pos : Pos} {e : Expr} {t : ST}
theorem AfterM.mono {c : Jx} {A : List Addr} {F0 Z Z' : Hp} {D : Ends} {o : Fl} (e : Same Z Z') (h : AfterM c r A F0 Z D i o) : AfterM c r A F0 Z' D i o := by
  cases o with
  | nx ρ τ => exact fun s H1 Z1 F1 fp w l q => h s H1 Z1 F1 fp w l (e.trans q)
  | ret d τ => exact AfterS.mono (r := r) e (o := .ret d τ) h
  | brk ρ τ => exact AfterS.mono (r := r) e (o := .brk ρ τ) h
  | cnt ρ τ => exact AfterS.mono (r := r) e (o := .cnt ρ τ) h
  | exc _ _ _ => exact h
  | bad => exact h
end
end Hw
set_option maxHeartbeats 1000000
namespace Hw
open PySem PySem.Spec L2
variable [Tb]
section
variable {k : Kx} {A : List Addr} {F0 F Z H : Hp} {ρ : Rho} {σ : L2.St} {τ : Tau} {i : Nat} {fp : List Addr}
end
section
variable {X : Cx} {W : WX} {r : Rk} {i : Nat} {rest body : List Stmt} {m n mb me : SS} {pos p2 : Pos} {e T : Expr} {mm mE : SE} {t : ST} {x y : Str}
end
section
variable {k : Kx} {A : List Addr} {F0 F F' Z Z' H : Hp} {ρ : Rho} {σ : L2.St} {τ : Tau} {i j : Nat} {fp : List Addr}
theorem Md.setFz (M : Md k A F0 F ρ σ Z i fp) (hij : i ≠ j) {d : D} {v : V} (rv : Rep k Z d v) : Md k A F0 F (ρ.set j (.fz d)) (σ.set j (some v)) Z i fp := by
  obtain ⟨d0, v0, h1, h2, h3⟩ := M.v
  have e : (ρ.set j (.fz d)).set i .no = (ρ.set i .no).set j (.fz d) := List.set_comm _ _ (fun z => hij z.symm)
  refine ⟨by rw [e]; exact M.s.setFz rv, ⟨d0, v0, by rw [List.getElem?_set_ne (fun z => hij z.symm)]; exact h1, by rw [List.getElem?_set_ne (fun z => hij z.symm)]; exact h2, h3⟩, M.nd, M.f0, fun l e' a hl ha => ?_, fun l m n a hl ha => ?_⟩
  · rw [e] at hl
    by_cases hj : j = l
    · subst hj
      by_cases hlen : j < (ρ.set i .no).length
      · rw [List.getElem?_set_self hlen] at hl; cases hl
      · rw [List.getElem?_eq_none (by rw [List.length_set]; omega)] at hl; cases hl
    · rw [List.getElem?_set_ne hj] at hl ha
      exact M.ap l e' a hl ha
  · rw [e] at hl
    by_cases hj : j = l
    · subst hj
      by_cases hlen : j < (ρ.set i .no).length
      · rw [List.getElem?_set_self hlen] at hl; cases hl
      · rw [List.getElem?_eq_none (by rw [List.length_set]; omega)] at hl; cases hl
    · rw [List.getElem?_set_ne hj] at hl ha
      exact M.apr l m n a hl ha
theorem Md.setOwn (M : Md k A F0 F ρ σ Z i fp) (hij : i ≠ j) {d : D} {a : Addr} {u : HO} (fa : F a = none) (ho : OwnO k Z d u) : Md k A F0 (upd F a u) (ρ.set j (.own d)) (σ.set j (some (V.ref a))) Z i fp := by
  obtain ⟨d0, v0, h1, h2, h3⟩ := M.v
  have na : a ∉ fp := fun m => by
    obtain ⟨vs, hv⟩ := h3.cell a m
    rw [fa] at hv
    cases hv
  have e : (ρ.set j (.own d)).set i .no = (ρ.set i .no).set j (.own d) := List.set_comm _ _ (fun z => hij z.symm)
  refine ⟨by rw [e]; exact M.s.setOwn fa ho, ⟨d0, v0, by rw [List.getElem?_set_ne (fun z => hij z.symm)]; exact h1, by rw [List.getElem?_set_ne (fun z => hij z.symm)]; exact h2, h3.up (Same.refl Z) (same_new fa)⟩, M.nd, M.f0, fun l e' b hl hb => ?_, fun l m n b hl hb => ?_⟩
  · rw [e] at hl
    by_cases hj : j = l
    · subst hj
      by_cases hlen : j < σ.length
      · rw [List.getElem?_set_self hlen] at hb
        cases hb
        exact na
      · rw [List.getElem?_eq_none (by rw [List.length_set]; omega)] at hb; cases hb
    · rw [List.getElem?_set_ne hj] at hl hb
      exact M.ap l e' b hl hb
  · rw [e] at hl
    by_cases hj : j = l
    · subst hj
      by_cases hlen : j < (ρ.set i .no).length
      · rw [List.getElem?_set_self hlen] at hl; cases hl
      · rw [List.getElem?_eq_none (by rw [List.length_set]; omega)] at hl; cases hl
    · rw [List.getElem?_set_ne hj] at hl hb
      exact M.apr l m n b hl hb
end
section
variable {X : Cx} {W : WX} {r : Rk} {i : Nat} {rest body : List Stmt} {m n mb me : SS} {pos p2 : Pos} {e T E : Expr} {mm mE : SE} {t : ST} {x y : Str}
variable {o : Expr} {apos cpos : Pos}
end
end Hw
set_option maxHeartbeats 1000000
namespace Hw
open PySem PySem.Spec L2
variable [Tb]
section
variable {X : Cx} {W : WX} {mf : MF} {mr : SR} {e : Expr} {es : List Expr} {m : SE} {pos p apos : Pos}
variable {n k j : Nat} {ps : List Str} {dds : List D} {x : Str}
end
section
variable {X : Cx} {W : WX} {e : Expr} {es : List Expr} {me : SE} {mr : SA} {pos p2 : Pos} {x : Str} {js : List Nat}
end
end Hw
set_option maxHeartbeats 1000000
namespace Hw
open PySem PySem.Spec L2
variable [Tb]
section
variable {k : Kx} {A : List Addr} {F0 F F' Z Z' H : Hp} {ρ ρ1 : Rho} {σ σ2 : L2.St} {τ : Tau} {i : Nat} {fp : List Addr}
theorem Md.thaw (M : Md k A F0 F ρ σ Z i fp) : Sl k A F0 (Hw.thaw F fp) (ρ.set i .no) σ Z := by
  refine ⟨M.s.len, M.s.fz, fun j e h => ?_, M.s.io, M.s.ap, fun b o hb => ?_, fun j l n h => ?_, M.s.apr⟩
  · obtain ⟨a, o, g1, g2, g3, g4⟩ := M.s.own j e h
    exact ⟨a, o, g1, by rw [thaw_out (M.ap j e a h g1)]; exact g2, g3, g4⟩
  · rw [thaw_out fun m => by rw [M.f0 b m] at hb; cases hb]
    exact M.s.f0 b o hb
  · obtain ⟨a, g1, g2, g3, g4⟩ := M.s.rws j l n h
    exact ⟨a, g1, g2, by rw [thaw_out (M.apr j l n a h g1)]; exact g3, g4⟩
theorem Md.of_thaw (s : Sl k A F0 (Hw.thaw F fp) (ρ1.set i .no) σ2 Z) (il : i < ρ1.length) {d : D} {v : V} (hv : σ2[i]? = some (some v)) (r : RepT k F Z fp d v) (nd : fp.Nodup) (f0 : ∀ a ∈ fp, F0 a = none) : Md k A F0 F (ρ1.set i (.fz d)) σ2 Z i fp := by
  have e : (ρ1.set i (.fz d)).set i .no = ρ1.set i .no := List.set_set ..
  refine ⟨by rw [e]; exact s.subF (thaw_sub F fp), ⟨d, v, List.getElem?_set_self il, hv, r⟩, nd, f0, fun j x a hj ha m => ?_, fun j l n a hj ha m => ?_⟩
  · rw [e] at hj
    obtain ⟨b, o, g1, g2, _⟩ := s.own j x hj
    rw [g1] at ha
    cases ha
    rw [thaw_in m] at g2
    cases g2
  · rw [e] at hj
    obtain ⟨b, g1, _, g2, _⟩ := s.rws j l n hj
    rw [g1] at ha
    cases ha
    rw [thaw_in m] at g2
    cases g2
end
section
variable {X : Cx} {W : WX} {r : Rk} {i : Nat} {rest body : List Stmt} {m n mb : SS} {pos p2 : Pos} {e T E tg it c : Expr} {mm mE : SE} {mi : SI} {g : SG} {is : List Nat} {t : ST} {x y : Str}
end
end Hw
set_option maxHeartbeats 1000000
namespace Hw
open PySem PySem.Spec L2
variable [Tb]
section
variable {k : Kx} {F Z : Hp}
end
section
variable {k : Kx} {A : List Addr} {F Z H : Hp} {σ : L2.St} {τ : Tau} {K : PySem.W.Frag}
end
section
variable {X : Cx} {W : WX} {r : Rk} {i : Nat} {o E it : Expr} {x z : Str} {pos p1 p2 p3 p4 p5 p6 apos cpos spos : Pos} {c : Int}
theorem Md.rows {k : Kx} {A : List Addr} {F0 F F' Z : Hp} {ρ : Rho} {σ σ' : L2.St} {fp : List Addr} {y : Nat} {d : D} {v : V} (M : Md k A F0 F ρ σ Z i fp) (hy : i ≠ y) (hv : σ[i]? = some (some v)) (r' : RepT k F' Z fp d v) (fx : ∀ b, b ∉ fp → F' b = F b)
    (sl : σ'.length = σ.length) (se : ∀ l, l ≠ y → σ'[l]? = σ[l]?) : Md k A F0 F' ((ρ.set y .no).set i (.fz d)) σ' Z i fp := by
  obtain ⟨d0, v0, h1, h2, h3⟩ := M.v
  have il : i < ρ.length := (List.getElem?_eq_some_iff.mp h1).1
  have et : Hw.thaw F' fp = Hw.thaw F fp := by
    funext b
    by_cases hb : b ∈ fp
    · rw [thaw_in hb, thaw_in hb]
    · rw [thaw_out hb, thaw_out hb]; exact fx b hb
  refine Md.of_thaw ?_ (by rw [List.length_set]; exact il) (by rw [se i hy]; exact hv) r' M.nd M.f0
  rw [et]
  have s := M.thaw
  refine s.forget ?_ fun j u hj => ?_
  · have := s.len
    rw [List.length_set] at this
    rw [List.length_set, List.length_set, sl]
    exact this
  · rw [List.set_comm _ _ (fun z => hy z.symm)] at hj
    by_cases hyj : y = j
    · subst hyj
      by_cases hl : y < (ρ.set i .no).length
      · rw [List.getElem?_set_self hl] at hj
        exact .inl (Option.some.inj hj).symm
      · rw [List.getElem?_eq_none (by rw [List.length_set]; omega)] at hj; cases hj
    · rw [List.getElem?_set_ne hyj] at hj
      exact .inr ⟨hj, se j fun z => hyj z.symm⟩
end
end Hw
set_option maxHeartbeats 1000000
namespace Hw
open PySem PySem.Spec L2
variable [Tb]
section
variable {X : Cx} {W : WX} {r : Rk} {i : Nat} {S T E : Expr} {mS mT mE : SE} {pos p1 p2 p3 : Pos} {x : Str}
end
end Hw
namespace Hw
open PySem PySem.Spec L2
variable [Tb]
section
variable {X : Cx} {W : WX} {r : Rk} {i : Nat} {e : Expr} {m : SE} {pos p2 : Pos} {x : Str}
end
end Hw
namespace Hw
open PySem PySem.Spec L2
variable [Tb]
end Hw
namespace Hw
open PySem PySem.Spec L2
variable [Tb]
end Hw
set_option maxHeartbeats 1000000
namespace Hw
open PySem PySem.Spec L2
variable [Tb]
section
variable {P : Program} {w : World} {k : Kx} {Z H : Hp} {h : Heap}
mutual
theorem nkey_is (ok : HOk P w H h) (e : Same Z H) : ∀ {d : D} {κ : NestedKey} {v : V} {u : Value}, nkey d = some κ → Rep k Z d v → RelV v u → NestedIs h κ u
  | .non, _, _, _, q, r, rv => by
    unfold nkey at q; cases q
    rw [rep_non] at r; subst r
    have rv : _ = Value.none := rv
    subst rv; exact .none
  | .int i, _, _, _, q, r, rv => by
    unfold nkey at q; cases q
    rw [rep_int] at r; subst r
    obtain ⟨t, rfl⟩ := (show ∃ t, _ = Value.int i t from rv)
    exact .int _ _
  | .tup ds, _, _, u, q, r, rv => by
    unfold nkey at q
    obtain ⟨ks, h1, rfl⟩ := Option.map_eq_some_iff.mp q
    obtain ⟨a, vs, rfl, h2, h3⟩ := rep_tup.mp r
    have rv : u = Value.ref a := rv
    subst rv
    obtain ⟨_, its, r4, o, h5, h6, n, h7⟩ := (show ObjOk P w H h a (.tup vs) from ok a _ (e _ _ h2))
    exact .tup h5 h6 h7 (by simpa using nkeys_is ok e h1 h3 r4)
  | .bl _, _, _, _, h, _, _ => by unfold nkey at h; cases h
  | .str _, _, _, _, h, _, _ => by unfold nkey at h; cases h
  | .lst _, _, _, _, h, _, _ => by unfold nkey at h; cases h
  | .dct _ _ _, _, _, _, h, _, _ => by unfold nkey at h; cases h
  | .ins _ _ _, _, _, _, h, _, _ => by unfold nkey at h; cases h
  | .scr _, _, _, _, h, _, _ => by unfold nkey at h; cases h
  | .ctup _, _, _, _, h, _, _ => by unfold nkey at h; cases h
  | .nst _ _, _, _, _, h, _, _ => by unfold nkey at h; cases h
  | .grp _ _ _, _, _, _, h, _, _ => by unfold nkey at h; cases h
  | .exn _ _ _, _, _, _, h, _, _ => by unfold nkey at h; cases h
  | .xtp _, _, _, _, h, _, _ => by unfold nkey at h; cases h
theorem nkeys_is (ok : HOk P w H h) (e : Same Z H) : ∀ {ds : List D} {κs : List NestedKey} {vs : List V} {us : List Value}, nkeys ds = some κs → Reps k Z ds vs → Vals vs us → NestedAll h κs us
  | [], _, _, _, q, r, rv => by
    unfold nkeys at q; cases q
    rw [reps_nil] at r; subst r
    cases rv; exact .nil
  | d :: ds, _, _, _, q, r, rv => by
    obtain ⟨v, vs, rfl, r1, r2⟩ := reps_cons.mp r
    cases rv with
    | cons q1 q2 =>
      unfold nkeys at q
      split at q
      · rename_i a b h1 h2
        cases q
        exact .cons (nkey_is ok e h1 r1 q1) (nkeys_is ok e h2 r2 q2)
      · cases q
end
end
def NRd (k : Kx) (Z H : Hp) (a : Addr) (ks : List D) (vs : List V) : Prop := ∃ b ob kvs, H a = some (nstC b ob) ∧ Reps k Z ks kvs ∧ NstR ob ks kvs vs
theorem NRd.rep {k : Kx} {F Z H : Hp} (eZ : Same Z H) (eF : Same F H) {ks ds : List D} {v : V} (h : RepB k F Z (.nst ks ds) v) : ∃ a vs, v = .ref a ∧ NRd k Z H a ks vs ∧ Reps k Z ds vs := by
  rcases h with h | ⟨a, o, h1, h2, h3⟩
  · obtain ⟨a, b, ob, kvs, vs, h1, h2, h3, h4, h5⟩ := rep_nst.mp h
    exact ⟨a, vs, h1, ⟨b, ob, kvs, eZ _ _ h2, h3, h4⟩, h5⟩
  · obtain ⟨b, ob, kvs, vs, rfl, h4, h5, h6⟩ := h3
    exact ⟨a, vs, h1, ⟨b, ob, kvs, eF _ _ h2, h4, h5⟩, h6⟩
theorem refs_is {P : Program} {w : World} {k : Kx} {Z H : Hp} {h : Heap} (ok : HOk P w H h) (e : Same Z H) : ∀ {ks : List D} {xs : List (NestedKey × Addr × Value)}, Reps k Z ks (xs.map fun x => V.ref x.2.1) → ks.map nkey = xs.map (fun x => some x.1) →
    (∀ x ∈ xs, x.1.depth ≤ 8) → ∀ x ∈ xs, (nestedKind P w).is h x.1 x.2.1
  | [], [], _, _, _, x, hx => nomatch hx
  | d :: ks, y :: xs, r, q, dp, x, hx => by
    obtain ⟨v, vs, e1, r1, r2⟩ := reps_cons.mp r
    cases e1
    rw [List.map_cons, List.map_cons] at q
    obtain ⟨q1, q2⟩ := List.cons.inj q
    rcases List.mem_cons.mp hx with z | z
    · subst z
      exact ⟨nkey_is ok e q1 r1 rfl, dp _ List.mem_cons_self⟩
    · exact refs_is ok e r2 q2 (fun x hx => dp x (List.mem_cons_of_mem _ hx)) x z
  | [], _ :: _, _, q, _, _, _ => by cases q
  | _ :: _, [], _, q, _, _, _ => by cases q
theorem NRd.at {P : Program} {w : World} {k : Kx} {Z H : Hp} {h : Heap} {a : Addr} {ks : List D} {vs : List V} (ok : HOk P w H h) (e : Same Z H) (n : NRd k Z H a ks vs) :
    (a == sysModules) = false ∧ ∃ xs, h.DictOfH (nestedKind P w) a xs ∧ ks.map nkey = xs.map (fun x => some x.1) ∧ Reps k Z ks (xs.map fun x => V.ref x.2.1) ∧ Vals vs (xs.map (·.2.2)) ∧ (∀ x ∈ xs, x.1.depth ≤ 8) := by
  obtain ⟨b, ob, kvs, h1, h2, xs, es, ep, h3, h4, h5, h6, h7, rfl, h8, h9⟩ := n
  have x := ok _ _ h1
  have eb := nstC_at x
  subst eb
  obtain ⟨p, _⟩ := x
  have p1 : (b == sysModules) = false := p.1
  have p2 : h.get? b = some ob := p.2
  exact ⟨p1, xs, ⟨ob, es, ep, p2, h3, h4, h5 P w, refs_is ok e h2 h7 h9, h6⟩, h7, h2, h8, h9⟩
section
variable {X : Cx} {pins : List (Addr × Obj)} {σ : L2.St} {H Z : Hp} {s : Shared} {a : Addr} {y v : V} {u r : Value} {A : Around} {E : Value → Shared → Prop} {k : Kx} {ks ds : List D} {vs : List V} {d z : D}
end
end Hw
set_option maxHeartbeats 1000000
namespace Hw
open PySem PySem.Spec L2
variable [Tb]
section
variable {X : Cx} {o i e value : Expr} {pos pos' tpos p1 p2 : Pos} {td ty tv : TE}
end
section
variable {X : Cx} {W : WX} {r : Rk} {e ie : Expr} {m mi : SE} {pos p1 p2 p3 : Pos} {x : Str}
end
end Hw
set_option maxHeartbeats 1000000
namespace Hw
open PySem PySem.Spec L2
variable [Tb]
section
variable {X : Cx} {W : WX} {r : Rk} {e : Expr} {m : SE} {pos q1 q2 p1 p2 pt : Pos} {f g c x : Str}
end
end Hw
set_option maxHeartbeats 1000000
namespace Hw
open PySem PySem.Spec L2
variable [Tb]
section
variable {X : Cx} {W : WX} {e ye : Expr} {m my : SE} {apos cpos : Pos}
end
end Hw
set_option maxHeartbeats 4000000
namespace Hw
open PySem PySem.Spec L2
variable [Tb]
section
variable {X : Cx} {W : WX} {tg a b c : Expr} {m : SA} {pos p : Pos}
end
end Hw
set_option maxHeartbeats 4000000
namespace Hw
open PySem PySem.Spec L2
variable [Tb]
theorem reps_flat {k : Kx} {Z Z' : Hp} : ∀ {ds : List D} {vs : List V}, ds.all isFl = true → Reps k Z ds vs → Reps k Z' ds vs
  | [], vs, _, r => by
    unfold Reps at r ⊢
    exact r
  | d :: ds, vs, h, r => by
    rw [List.all_cons, Bool.and_eq_true] at h
    unfold Reps at r
    obtain ⟨v, us, rfl, h1, h2⟩ := r
    exact Reps.cons (rep_flat h.1 h1) (reps_flat h.2 h2)
section
variable {X : Cx} {W : WX} {e : Expr} {m : SE}
end
end Hw
set_option maxHeartbeats 1000000
namespace Hw
open PySem PySem.Spec L2
open PyProof.Rows (envOfC)
open He
section
variable {prog : Program} {w : World} {A : Around} {E : Value → Shared → Prop} {s : Shared} {K : PySem.W.Frag} {x y C f : Addr} {ox : Obj} {od : Option Obj}
end
variable [Tb]
section
variable {X : Cx} {W : WX} {a b : Expr} {ma mb : SE} {pos : Pos} {c : Str} {f C : Addr} {fd : FuncData} {ps : List Str} {k j : Nat} {mf : MF} {sp : Sp}
end
theorem Reps.rev {k : Kx} {Z : Hp} : ∀ {ds : List D} {vs : List V}, Reps k Z ds vs → Reps k Z ds.reverse vs.reverse
  | [], vs, h => by
    rw [reps_nil.mp h]
    exact Reps.nil
  | d :: ds, vs, h => by
    obtain ⟨v, r, rfl, h1, h2⟩ := reps_cons.mp h
    rw [List.reverse_cons, List.reverse_cons]
    exact (Reps.rev h2).append (Reps.cons h1 Reps.nil)
section
variable {X : Cx} {W : WX} {r : Rk} {pos cpos apos : Pos} {x : Str}
end
end Hw
set_option maxHeartbeats 1000000
namespace Hw
open PySem PySem.Spec L2
open PyProof.Rows (envOfC)
open He
variable [Tb]
section
variable {X : Cx} {W : WX} {r : Rk} {pos cpos apos : Pos} {x : Str} {i : Nat} {mE : SE} {E o : Expr}
end
end Hw
set_option maxHeartbeats 1000000
namespace Hw
open PySem PySem.Spec L2
open PyProof.Rows (envOfC)
open He
variable [Tb]
section
variable {X : Cx} {W : WX} {r : Rk} {pos cpos apos : Pos} {x y : Str}
end
section
variable {k : Kx} {A : List Addr} {F0 F Z H : Hp} {ρ : Rho} {σ : L2.St} {τ : Tau} {i : Nat} {fp : List Addr}
end
section
variable {X : Cx} {W : WX} {r : Rk} {i : Nat} {mf : SE}
variable {tg iter elt : Expr} {ifs : List Expr} {mi : SI} {g : SG} {is : List Nat} {t : ST} {m : SE} {pos : Pos}
end
end Hw
set_option maxHeartbeats 1000000
namespace Hw
open PySem PySem.Spec L2
open PyProof.Rows (envOfC)
open He
section
variable {prog : Program} {w : World} {A : Around} {E : Value → Shared → Prop} {s : Shared} {K : PySem.W.Frag} {x y C f : Addr} {ox : Obj} {od : Option Obj} {tb : Value}
end
variable [Tb]
section
variable {X : Cx} {W : WX} {a b : Expr} {ma mb : SE} {pos : Pos} {c : Str} {f C : Addr} {fd : FuncData} {ps : List Str} {k j : Nat} {mf : MF} {sp : Sp}
def isLT (H : Hp) (b : Addr) : Prop := (∃ vs, H b = some (.lst vs)) ∨ ∃ vs, H b = some (.tup vs)
def rEqO (C : Addr) (sp : Sp) : R2 := fun x y H Q => ∃ a b dx fs, x = .ref a ∧ y = .ref b ∧ H a = some (.ins C dx fs) ∧ isLT H b ∧ sp [.ref a, .ref b] H (fun v H1 => ∃ t, v = .bl t ∧ Q (.bl t) H1) fun _ _ _ => False
def isLTD : D → Bool
  | .lst _ => true
  | .tup _ => true
  | _ => false
theorem isLT_of {k : Kx} {Z H : Hp} {d : D} {v : V} (e : Same Z H) (h : isLTD d = true) (r : Rep k Z d v) : ∃ b, v = .ref b ∧ isLT H b := by
  cases d with
  | lst ds =>
    obtain ⟨b, vs, rfl, h1, _⟩ := rep_lst.mp r
    exact ⟨b, rfl, .inl ⟨vs, e _ _ h1⟩⟩
  | tup ds =>
    obtain ⟨b, vs, rfl, h1, _⟩ := rep_tup.mp r
    exact ⟨b, rfl, .inr ⟨vs, e _ _ h1⟩⟩
  | _ => cases h
def eEqO (c : Str) (mf : MF) (ma mb : SE) : SE := fun ρ τ => (ma ρ τ).bind fun d τ1 => (mb ρ τ1).bind fun e τ2 => if isInst c "__eq__" d = true ∧ isLTD e = true then (match mf [.fz d, .fz e] [] with
  | .ok (.bl t) [] => .ok (.bl t) τ2
  | _ => .bad) else .bad
theorem eqO_ok (hC : X.mg c = some (.ref C)) : ∀ σ H Q, tE (jx X W) (eEqO c mf ma mb) σ H Q → tOp (rEqO C (SpOf ⟨X.K, X.mg⟩ false 2 mf)) (tE (jx X W) ma) (tE (jx X W) mb) σ H Q := fun σ H Q ⟨ρ, τ, A, F0, F, Z, w, s, q⟩ =>
  ⟨ρ, τ, A, F0, F, Z, w, s, After.next q fun d τ1 H1 Z1 w1 e1 q1 x rx => ⟨ρ, τ1, A, F0, F, Z1, w1, s.mono e1, After.next q1 fun e τ2 H2 Z2 w2 e2 q2 y ry => by
    have rx := rx.mono e2
    split at q2
    · rename_i hi
      obtain ⟨a, dx, fs, rfl, h1, h2⟩ := inst_at w2.zh hC rx hi.1
      obtain ⟨b, rfl, hl⟩ := isLT_of w2.zh hi.2 ry
      refine ⟨a, b, dx, fs, rfl, rfl, h1, hl, rfl, [.fz d, .fz e], [], [], _, Z2, w2.pure0, ArgRel.sl (k := ⟨X.K, X.mg⟩) (A := []) ⟨.ref a, [.ref b], rfl, rx, .ref b, [], rfl, ry, rfl⟩, ?_⟩
      cases hf : mf [.fz d, .fz e] [] with
      | bad => rw [hf] at q2; exact q2.elim
      | exc y τ2 => rw [hf] at q2; exact q2.elim
      | ok z τ3 =>
        rw [hf] at q2
        intro H3 Z3 v w3 e3 rv
        cases z with
        | bl t =>
          cases τ3 with
          | cons _ _ => exact q2.elim
          | nil =>
            have q2 : After (jx X W) A F0 F ρ σ Z2 (.ok (.bl t) τ2) fun d _ H' Z' => ∀ v, Rep (jx X W).k Z' d v → Q v H' := q2
            exact ⟨t, rep_bl.mp rv, q2 H3 Z3 (w2.after0 w3 (Same.refl _) e3) e3 _ (rep_bl.mpr rfl)⟩
        | _ => exact q2.elim
    · exact q2.elim⟩⟩
end
end Hw
set_option maxHeartbeats 2000000
namespace GQ
open PySem PySem.SeqAt
open MeetsSeq MeetsSeq2 MeetsSeq3 SeqRoads2
section
variable {prog : Program} {w : World} {A : Around} {R : Result → Shared → Prop}
end
section
variable {prog : Program} {w : World} {A : Around} {E : Value → Shared → Prop} {s : Shared}
end
end GQ
namespace Hw
open PySem PySem.Spec L2
open PyProof.Rows (envOfC)
open He
section
variable {prog : Program} {w : World} {A : Around} {E : Value → Shared → Prop} {s : Shared} {K : PySem.W.Frag} {x C f dx : Addr} {od : Option Obj} {z : Value} {T id : String}
end
variable [Tb]
section
variable {X : Cx} {W : WX} {a b : Expr} {ma mb : SE} {pos : Pos} {c : Str} {f C : Addr} {fd : FuncData} {ps : List Str} {k j : Nat} {mf : MF} {sp : Sp}
end
end Hw
set_option maxHeartbeats 2000000
namespace Hw
open PySem PySem.Spec L2
variable [Tb]
section
variable {X : Cx} {W : WX} {a e : Expr} {ma m : SE} {pos p : Pos} {c : Str} {f C : Addr} {fd : FuncData} {ps : List Str} {k j : Nat} {mf : MF} {sp : Sp}
end
end Hw
set_option maxHeartbeats 1000000
namespace Hw
open PySem PySem.Spec L2
variable [Tb]
section
variable {X : Cx} {W : WX} {e : Expr} {m : SE} {p p2 pos : Pos}
end
end Hw
set_option maxHeartbeats 2000000
namespace GBL
open PySem
open PySem.Sem (wp)
section
variable {prog : Program} {w : World}
end
end GBL
namespace Hw
open PySem PySem.Spec L2
open He
section
variable {prog : Program} {w : World} {A : Around} {E : Value → Shared → Prop} {s : Shared} {K : PySem.W.Frag} {x C f : Addr} {ox : Obj} {od : Option Obj}
end
variable [Tb]
section
variable {X : Cx} {W : WX} {a e : Expr} {ma m : SE} {pos p : Pos} {c : Str} {f C : Addr} {fd : FuncData} {ps : List Str} {k j : Nat} {mf : MF} {sp : Sp}
end
end Hw
set_option maxHeartbeats 2000000
namespace Hw
open PySem PySem.Spec L2 PyProof.Rows
open He (Fa DefD ga ma fAd cT codeOf)
variable [Tb]
structure GFn (P : Program) (w : World) (K : PySem.W.Frag) (mg : Str → Option Value) (base : Heap) (CX : CXT) (k : Nat) (f : Addr) (fd : FuncData) (ps : List Str) (sp : Sp) : Prop where
  glen : ∀ xs H Q E, sp xs H Q E → xs.length = ps.length
  grun : ∀ (A : Around) (out : List PySem.Env) (s : Shared) (H : Hp) (args : Args) (us : List Value) (xs : List V) (Q : VK) (E : XK), Room k A → A.guards = some [] → Env0 P w K mg base A out s H →
    BindsTo s fd args (ps.zip us) → Vals xs us → sp xs H Q E → codeAny (model P w) A (.call (.ref f) args) (CR CX out P w H s Q E) s
section
variable {P : Program} {w : World} {K : PySem.W.Frag} {mg : Str → Option Value} {base : Heap} {CX : CXT} {k : Nat} {f : Addr} {fd : FuncData} {ps : List Str} {sp : Sp}
theorem GFn.of (F : FnOk P w K mg base CX k f fd ps sp) : GFn P w K mg base CX k f fd ps sp :=
  ⟨F.len, fun A out s H args us xs Q E hr _ => F.run A out s H args us xs Q E hr⟩
theorem GFn.mono {j : Nat} (F : GFn P w K mg base CX j f fd ps sp) (h : j ≤ k) : GFn P w K mg base CX k f fd ps sp :=
  ⟨F.glen, fun A out s H args us xs Q E hr => F.grun A out s H args us xs Q E (hr.mono h)⟩
variable {x qual : Str} {r : Rk} {N : List Str} {mb : SS} {params : Arguments} {body : List Stmt} {scope : Scope} {dvs : List V} {kws : List (Str × V)}
end
end Hw
set_option maxHeartbeats 2000000
namespace Hw
open PySem PySem.Spec L2 PyProof.Rows LamX
section
variable {P : Program} {w : World} {K : PySem.W.Frag} {mg mb : Str → Option Value} {s : Shared} {a : Addr} {its : List Value} {ns : List Int}
end
open He (Fa DefD ga ma fAd cT)
end Hw
set_option maxHeartbeats 2000000
namespace Hw
open PySem PySem.Spec L2
open PyProof.Rows (envOfC)
open He (Fa DefD ga ma fAd cT codeOf)
variable [Tb]
section
variable {X : Cx}
end
section
variable {k : Kx}
end
section
variable {X : Cx} {W : WX} {a e : Expr} {es : List Expr} {ma m : SE} {mr : SR} {pos p : Pos} {x : Str} {f C : Addr} {fd : FuncData} {ps : List Str} {k j n : Nat} {mf : MF} {sp : Sp}
theorem run_g {CX : CXT} {E : L2.St → XK} {pins : List (Addr × Obj)} {σ : L2.St} {H : Hp} {s : Shared} {Q : VK} {us : List Value} {vs : List V} (F : GFn X.prog X.w X.K X.mg X.base CX k f fd ps sp) (hG : X.A.guards = some []) (hr : Room k X.A) (hb : Binds X.K fd ps []) (hx : PassesAt CX X σ (E σ))
    (I : Inv X pins σ H s) (r : Vals vs us) (h : sp vs H Q (E σ)) : wpAny (model X.prog X.w) X.A (call (.ref f) us) (EP X pins σ Q) X.xe s := by
  have hl : us.length = ps.length := r.length ▸ F.glen _ _ _ _ h
  have b : BindsTo s fd ⟨us, []⟩ (ps.zip us) := by
    have := hb s us I.kIn (by rw [List.append_nil]; exact hl)
    rwa [List.append_nil] at this
  apply wpAny_call
  refine codeAny_mono (F.grun X.A X.stack s H ⟨us, []⟩ us vs Q (E σ) hr hG I.env0 b r h) ?_
  intro res s2 z
  match res, z with
  | .error y, z => exact hx pins H s y s2 I z
  | .ok (.ret u), z => exact I.after z
end
end Hw
set_option maxHeartbeats 1000000
namespace Hw
open PySem PySem.Spec L2
open PyProof.Rows (envOfC)
open He
variable [Tb]
section
variable {X : Cx} {W : WX} {e : Expr} {m : SE} {p p2 pos : Pos}
end
section
variable {X : Cx} {W : WX} {a b : Expr} {ma mb : SE} {pos : Pos} {c c2 : Str} {f C C2 : Addr} {fd : FuncData} {ps : List Str} {k j : Nat} {mf : MF} {sp : Sp}
end
end Hw
set_option maxHeartbeats 2000000
namespace Hw
open PySem PySem.Spec PySem.Calls L2
open PyProof.Rows (envOfC IsTup)
variable [Tb]
section
variable {X : Cx} {W : WX} {r : Rk} {e ie ie2 : Expr} {m mi mi2 : SE} {pos p2 p3 p4 p5 p6 : Pos} {x y : Str}
end
section
variable {prog : Program} {w : World} {A : Around} {E : Value → Shared → Prop} {s : Shared}
end
section
open PyProof.Rows in
open PyProof.Rows in
end
end Hw
set_option maxHeartbeats 2000000
namespace Hw
open PySem PySem.Spec L2 LamX
open PyProof.Rows (envOfC)
variable [Tb]
section
variable {X : Cx} {W : WX} {n : Str} {i : Nat} {body : List Stmt} {h₀ : ExceptHandler} {hds : List ExceptHandler} {pos : Pos} {m : SS}
end
end Hw
set_option maxHeartbeats 1000000
namespace Hw
open PySem PySem.Spec L2
open PyProof.Rows (envOfC)
open He
variable [Tb]
theorem Wd.drop {k : Kx} {A : List Addr} {F : Hp} {τ : Tau} {H Z : Hp} {p : Addr} {u : HO} (w : Wd k A (upd F p u) τ H Z) (hp : F p = none) : Wd k A F τ H Z := by
  have e : ∀ b, b ≠ p → upd F p u b = F b := fun b hb => upd_ne hb
  refine ⟨w.zh, fun b o hb => ?_, fun b => ?_, w.len, w.io, fun b hb => ?_, w.nd, w.tabs, fun b o hb => ?_, fun b vs hb => ?_, w.gr.move (Same.refl Z) (fun _ _ _ h => h) (fun b o z f na hb pb => by
    have hne : b ≠ p := fun z => by rw [z, upd_same] at f; cases f
    exact ⟨z, by rw [e b hne] at f; exact f, hb⟩)⟩
  · have hne : b ≠ p := fun z => by rw [z, hp] at hb; cases hb
    exact w.fh b o (by rw [e b hne]; exact hb)
  · by_cases hne : b = p
    · exact .inl (by rw [hne]; exact hp)
    · have := w.zf b
      rwa [e b hne] at this
  · obtain ⟨h1, h2⟩ := w.out b hb
    refine ⟨h1, ?_⟩
    by_cases hne : b = p
    · rw [hne]; exact hp
    · rwa [e b hne] at h2
  · rcases hb with hb | hb
    · exact w.pl b o (.inl hb)
    · have hne : b ≠ p := fun z => by rw [z, hp] at hb; cases hb
      exact w.pl b o (.inr (by rw [e b hne]; exact hb))
  · have hne : b ≠ p := fun z => by rw [z, hp] at hb; cases hb
    exact w.nt b vs (by rw [e b hne]; exact hb)
section
variable {X : Cx} {W : WX} {r : Rk} {pos cpos apos : Pos} {o : Expr} {m : SE}
end
end Hw
set_option maxHeartbeats 1000000
namespace Hw
open PySem PySem.Spec L2
open PyProof.Rows (envOfC)
open He
variable [Tb]
section
variable {X : Cx} {W : WX} {S K0 : Expr} {mS : SE} {x : Str} {p1 p2 p3 p4 : Pos}
end
end Hw
set_option maxHeartbeats 1000000
namespace Hw
open PySem PySem.Spec L2
variable [Tb]
section
variable {X : Cx} {o i e value : Expr} {pos pos' tpos p1 p2 : Pos} {td ty tv : TE}
end
section
variable {X : Cx} {W : WX} {r : Rk} {e ie : Expr} {m mi : SE} {pos p1 p2 p3 : Pos} {x : Str}
end
end Hw
set_option maxHeartbeats 1000000
namespace Hw
open PySem PySem.Spec L2
variable [Tb]
section
variable {X : Cx} {W : WX} {r : Rk} {a b c d : Expr} {ma mb mc md : SE} {x y z w : Str} {px py pz pw pt pt2 pos : Pos}
end
end Hw
set_option maxHeartbeats 1000000
namespace Hw
open PySem PySem.Spec L2
open PyProof.Rows (envOfC)
open He
variable [Tb]
section
variable {k : Kx} {A ps : List Addr} {F0 F : Hp} {ρ : Rho} {σ : L2.St} {Z : Hp}
end
section
variable {X : Cx} {W : WX} {r : Rk} {mb n : SS} {A ps : List Addr} {F0 FX : Hp} {τ τ2 : Tau} {i : Nat} {ρ' : Rho} {σ' : L2.St} {H1 Z1 : Hp}
end
section
variable {X : Cx} {W : WX} {r : Rk} {sts : List Stmt} {ma m : SE} {mb n : SS} {a elt tg iter : Expr} {scope : Scope} {pos px py pz pt pt2 pl : Pos} {mi : SI} {g : SG} {is : List Nat} {x y z : Str}
end
end Hw
set_option maxHeartbeats 1000000
namespace L2
open PySem PySem.Spec PyProof.Rows
section
variable {X : Cx} {o e f : Expr} {apos cpos : Pos} {td ty tx : TE}
end
end L2
namespace Hw
open PySem PySem.Spec L2
variable [Tb]
abbrev DQ := List (List Key × Addr × List D)
def dqO (qs : DQ) : HO := .dT (qs.map fun q => (q.1, V.ref q.2.1))
def dqC (qs : DQ) : List Addr := qs.map fun q => q.2.1
structure DqOk (k : Kx) (F Z : Hp) (a : Addr) (qs : DQ) : Prop where
  d : F a = some (dqO qs)
  c : ∀ q ∈ qs, ∃ vs, F q.2.1 = some (.lst vs) ∧ Reps k Z q.2.2 vs
  nk : (qs.map fun q => q.1).Nodup
end Hw
set_option maxHeartbeats 1000000
namespace Hw
open PySem PySem.Spec L2
variable [Tb]
def dlA (a1 a2 : Addr) (q1 q2 : DQ) : List Addr := a1 :: a2 :: (dqC q1 ++ dqC q2)
structure DlW (k : Kx) (A : List Addr) (F0 F : Hp) (ρ : Rho) (σ : L2.St) (Z : Hp) (i1 i2 : Nat) (a1 a2 : Addr) (q1 q2 : DQ) : Prop where
  s : Sl k A F0 (thaw F (dlA a1 a2 q1 q2)) ρ σ Z
  h1 : ρ[i1]? = some .no
  h2 : ρ[i2]? = some .no
  v1 : σ[i1]? = some (some (V.ref a1))
  v2 : σ[i2]? = some (some (V.ref a2))
  o1 : DqOk k F Z a1 q1
  o2 : DqOk k F Z a2 q2
  nd : (dlA a1 a2 q1 q2).Nodup
  f0 : ∀ x ∈ dlA a1 a2 q1 q2, F0 x = none
section
variable {k : Kx} {A : List Addr} {F0 F Z Z' : Hp} {ρ : Rho} {σ : L2.St} {i1 i2 : Nat} {a1 a2 : Addr} {q1 q2 : DQ}
theorem DqOk.mono {a : Addr} {q : DQ} (h : DqOk k F Z a q) (e : Same Z Z') : DqOk k F Z' a q := ⟨h.d, fun x hx => let ⟨vs, g1, g2⟩ := h.c x hx; ⟨vs, g1, g2.mono e⟩, h.nk⟩
theorem DlW.mono (h : DlW k A F0 F ρ σ Z i1 i2 a1 a2 q1 q2) (e : Same Z Z') : DlW k A F0 F ρ σ Z' i1 i2 a1 a2 q1 q2 := ⟨h.s.mono e, h.h1, h.h2, h.v1, h.v2, h.o1.mono e, h.o2.mono e, h.nd, h.f0⟩
theorem dlA_swap (a1 a2 : Addr) (q1 q2 : DQ) : (dlA a1 a2 q1 q2).Perm (dlA a2 a1 q2 q1) := (List.Perm.swap _ _ _).trans ((List.perm_append_comm.cons _).cons _)
theorem thaw_perm {F : Hp} {l m : List Addr} (h : ∀ x, x ∈ l ↔ x ∈ m) : thaw F l = thaw F m := by
  funext b
  unfold thaw
  by_cases hb : b ∈ l
  · rw [if_pos hb, if_pos ((h b).mp hb)]
  · rw [if_neg hb, if_neg fun z => hb ((h b).mpr z)]
theorem DlW.swap (h : DlW k A F0 F ρ σ Z i1 i2 a1 a2 q1 q2) : DlW k A F0 F ρ σ Z i2 i1 a2 a1 q2 q1 :=
  ⟨by rw [thaw_perm fun x => (dlA_swap a2 a1 q2 q1).mem_iff]; exact h.s, h.h2, h.h1, h.v2, h.v1, h.o2, h.o1, (dlA_swap a1 a2 q1 q2).nodup_iff.mp h.nd, fun x hx => h.f0 x ((dlA_swap a1 a2 q1 q2).mem_iff.mpr hx)⟩
theorem DlW.sub (h : DlW k A F0 F ρ σ Z i1 i2 a1 a2 q1 q2) : Sl k A F0 F ρ σ Z := h.s.subF (thaw_sub _ _)
end
section
variable {X : Cx} {W : WX} {mk mv : SE} {A : List Addr} {F0 F Z H : Hp} {ρ : Rho} {σ : L2.St} {τ : Tau} {i1 i2 l : Nat} {a1 a2 : Addr} {q1 q2 : DQ}
end
end Hw
set_option maxHeartbeats 1000000
namespace Hw
open PySem PySem.Spec L2
variable [Tb]
def hid3 (i1 i2 l : Nat) (ρ : Rho) : Rho := ((ρ.set i1 .no).set i2 .no).set l .no
section
variable {X : Cx} {W : WX} {t c : ST} {mk mv : SE} {A : List Addr} {F0 F Z H : Hp} {ρ : Rho} {σ : L2.St} {τ : Tau} {i1 i2 l : Nat} {a1 a2 : Addr} {q1 q2 : DQ}
theorem hid3_get {ρ : Rho} {j : Nat} {x : Sv} (h : (hid3 i1 i2 l ρ)[j]? = some x) : x = .no ∨ (ρ[j]? = some x ∧ j ≠ i1 ∧ j ≠ i2 ∧ j ≠ l) := by
  unfold hid3 at h
  by_cases e3 : l = j
  · subst e3
    have hl := (List.getElem?_eq_some_iff.mp h).1
    rw [List.length_set] at hl
    rw [List.getElem?_set_self hl] at h
    exact .inl (Option.some.inj h).symm
  rw [List.getElem?_set_ne e3] at h
  by_cases e2 : i2 = j
  · subst e2
    have hl := (List.getElem?_eq_some_iff.mp h).1
    rw [List.length_set] at hl
    rw [List.getElem?_set_self hl] at h
    exact .inl (Option.some.inj h).symm
  rw [List.getElem?_set_ne e2] at h
  by_cases e1 : i1 = j
  · subst e1
    have hl := (List.getElem?_eq_some_iff.mp h).1
    rw [List.length_set] at hl
    rw [List.getElem?_set_self hl] at h
    exact .inl (Option.some.inj h).symm
  rw [List.getElem?_set_ne e1] at h
  exact .inr ⟨h, Ne.symm e1, Ne.symm e2, Ne.symm e3⟩
theorem hid3_len {ρ : Rho} : (hid3 i1 i2 l ρ).length = ρ.length := by unfold hid3; rw [List.length_set, List.length_set, List.length_set]
end
section
variable {X : Cx} {W : WX} {r : Rk} {mi : SI} {g : SG} {is : List Nat} {t c : ST} {mk mv : SE} {i1 i2 l : Nat}
end
section
variable {X : Cx} {W : WX} {r : Rk} {mi : SI} {g : SG} {is : List Nat} {t c : ST} {mk mv : SE} {i1 i2 l : Nat} {tg it tE cE kE vE : Expr} {x1 x2 xl : Str} {p1 p2 p3 p4 p5 p6 p7 p8 p9 q1 q2 q3 : Pos}
end
end Hw
set_option maxHeartbeats 1000000
namespace Hw
open PySem PySem.Spec L2
variable [Tb]
def rL (ie il ir ifo : Nat) (ρ : Rho) (fs : List D) : Rho := (hid3 ie il ir ρ).set ifo (.own (.lst fs))
structure LkI (k : Kx) (A : List Addr) (F0 : Hp) (τ : Tau) (ρ : Rho) (i1 i2 ie il ir ifo : Nat) (d e : Addr) (od : Obj) (kvs : List (List Key × V)) (F H0 Z : Hp) (fs : List D) (σ : L2.St) (H : Hp) : Prop where
  w : Wd k A F τ H0 Z
  h : H = upd H0 d (.frz od (.dT kvs))
  hd : Z d = some (.dT kvs)
  s : Sl k A F0 F (rL ie il ir ifo ρ fs) σ Z
  v1 : σ[i1]? = some (some (V.ref d))
  v2 : σ[i2]? = some (some (V.ref e))
section
variable {k : Kx} {A : List Addr} {F0 F H0 Z H : Hp} {τ : Tau} {ρ : Rho} {i1 i2 ie il ir ifo : Nat} {d e : Addr} {od : Obj} {kvs : List (List Key × V)} {fs : List D} {σ : L2.St}
theorem LkI.get (I : LkI k A F0 τ ρ i1 i2 ie il ir ifo d e od kvs F H0 Z fs σ H) {b : Addr} {o : HO} (hz : Z b = some o) (hn : ∀ q, o ≠ .dT q) : H b = some o := by
  have : b ≠ d := fun z => by
    rw [z, I.hd] at hz
    exact hn kvs (Option.some.inj hz).symm
  rw [I.h, upd_ne this]
  exact I.w.zh _ _ hz
theorem LkI.lock (I : LkI k A F0 τ ρ i1 i2 ie il ir ifo d e od kvs F H0 Z fs σ H) : H d = some (.frz od (.dT kvs)) := by rw [I.h, upd_same]
theorem upd_swap {H : Hp} {a b : Addr} {o u : HO} (n : a ≠ b) : upd (upd H a o) b u = upd (upd H b u) a o := by
  funext c
  by_cases h1 : c = b
  · subst h1
    rw [upd_same, upd_ne (Ne.symm n), upd_same]
  · by_cases h2 : c = a
    · subst h2
      rw [upd_ne h1, upd_same, upd_same]
    · rw [upd_ne h1, upd_ne h2, upd_ne h2, upd_ne h1]
theorem LkI.alloc (I : LkI k A F0 τ ρ i1 i2 ie il ir ifo d e od kvs F H0 Z fs σ H) {p : Addr} {xs : List V} (hp : H p = none) : LkI k A F0 τ ρ i1 i2 ie il ir ifo d e od kvs F (upd H0 p (.tup xs)) (upd Z p (.tup xs)) fs σ (upd H p (.tup xs)) ∧ Same Z (upd Z p (.tup xs)) := by
  have np : p ≠ d := fun z => by rw [z, I.lock] at hp; cases hp
  have h0 : H0 p = none := by rw [I.h, upd_ne np] at hp; exact hp
  obtain ⟨w, e1⟩ := tup_new (vs := xs) I.w h0
  exact ⟨⟨w, by rw [I.h]; exact upd_swap (Ne.symm np), by rw [upd_ne (Ne.symm np)]; exact I.hd, I.s.mono e1, I.v1, I.v2⟩, e1⟩
theorem rL_get {j : Nat} {x : Sv} (h : (rL ie il ir ifo ρ fs)[j]? = some x) : (j = ifo ∧ x = .own (.lst fs)) ∨ (j ≠ ifo ∧ (x = .no ∨ (ρ[j]? = some x ∧ j ≠ ie ∧ j ≠ il ∧ j ≠ ir))) := by
  unfold rL at h
  by_cases e : ifo = j
  · subst e
    have hl := (List.getElem?_eq_some_iff.mp h).1
    rw [List.length_set] at hl
    rw [List.getElem?_set_self hl] at h
    exact .inl ⟨rfl, (Option.some.inj h).symm⟩
  · rw [List.getElem?_set_ne e] at h
    exact .inr ⟨Ne.symm e, hid3_get h⟩
theorem rL_len : (rL ie il ir ifo ρ fs).length = ρ.length := by unfold rL; rw [List.length_set, hid3_len]
theorem LkI.set (I : LkI k A F0 τ ρ i1 i2 ie il ir ifo d e od kvs F H0 Z fs σ H) {j : Nat} (v : V) (hj : j = ie ∨ j = il ∨ j = ir) (n : j ≠ ifo) (n1 : j ≠ i1) (n2 : j ≠ i2) : LkI k A F0 τ ρ i1 i2 ie il ir ifo d e od kvs F H0 Z fs (σ.set j (some v)) H :=
  ⟨I.w, I.h, I.hd, I.s.forget (by rw [List.length_set]; exact I.s.len) fun i x hi => by
    by_cases e : j = i
    · subst e
      rcases rL_get hi with ⟨z, _⟩ | ⟨_, z | ⟨_, z1, z2, z3⟩⟩
      · exact absurd z n
      · exact .inl z
      · rcases hj with hj | hj | hj
        · exact absurd hj z1
        · exact absurd hj z2
        · exact absurd hj z3
    · exact .inr ⟨hi, List.getElem?_set_ne e⟩, by rw [List.getElem?_set_ne n1]; exact I.v1, by rw [List.getElem?_set_ne n2]; exact I.v2⟩
theorem LkI.cell (I : LkI k A F0 τ ρ i1 i2 ie il ir ifo d e od kvs F H0 Z fs σ H) (hl : ifo < ρ.length) : ∃ c ws, σ[ifo]? = some (some (V.ref c)) ∧ F c = some (.lst ws) ∧ Reps k Z fs ws := by
  have hg : (rL ie il ir ifo ρ fs)[ifo]? = some (.own (.lst fs)) := by
    unfold rL
    exact List.getElem?_set_self (by rw [hid3_len]; exact hl)
  obtain ⟨c, o, h1, h2, h3, h4⟩ := I.s.own ifo _ hg
  obtain ⟨ws, rfl, h5⟩ := h4
  exact ⟨c, ws, h1, h2, h5⟩
theorem LkI.size (I : LkI k A F0 τ ρ i1 i2 ie il ir ifo d e od kvs F H0 Z fs σ H) : ρ.length = σ.length := by
  have := I.s.len
  rw [rL_len] at this
  exact this
end
section
variable {X : Cx} {W : WX} {A : List Addr} {F0 : Hp} {τ : Tau} {ρ : Rho} {i1 i2 ie il ir ifo : Nat} {d e : Addr} {od : Obj} {kvs : List (List Key × V)} {F H0 Z H : Hp} {fs fs1 : List D} {σ : L2.St}
end
section
variable {X : Cx} {W : WX} {r : Rk} {i1 i2 ie il ir ifo : Nat}
end
end Hw
set_option maxHeartbeats 1000000
namespace L2
open PySem PySem.Spec PyProof.Rows
section
variable {prog : Program} {w : World} {A : Around} {E : Value → Shared → Prop} {s : Shared}
end
def gEnd (to ti : TE) : TG := fun v σ H Q => to σ H fun o H1 => ti σ H1 fun i H2 => ∃ (l b : Addr) (xs ys : List V) (a : Nat), o = .ref l ∧ i = .int (a : Int) ∧ v = .ref b ∧ l ≠ b ∧ H2 l = some (.lst xs) ∧ H2 b = some (.lst ys) ∧ a ≤ xs.length ∧ xs.length + ys.length ≤ sizeLine ∧ Q σ (upd H2 l (.lst (xs.take a ++ ys)))
section
variable {X : Cx} {o i : Expr} {to ti : TE} {pos p2 : Pos}
end
end L2
namespace Hw
open PySem PySem.Spec L2
variable [Tb]
def sEnd (i : Nat) (mi m : SE) : SS := fun ρ τ => match ρ[i]? with
  | some (.own (.lst ds)) => (m ρ τ).andS ρ fun d τ1 => (mi ρ τ1).andS ρ fun c τ2 => match c, d with
    | .int a, .lst es => if 0 ≤ a ∧ a.toNat ≤ ds.length ∧ ds.length + es.length < 1000000 then .nx (ρ.set i (.own (.lst (ds.take a.toNat ++ es)))) τ2 else .bad
    | _, _ => .bad
  | _ => .bad
section
variable {X : Cx} {W : WX} {r : Rk} {e ie : Expr} {m mi : SE} {pos p2 p3 p4 : Pos} {x : Str}
theorem end_ok {i : Nat} : ∀ D σ H, tS (jx X W) r (sEnd i mi m) D σ H → tAsg (tE (jx X W) m) (gEnd (tVar i) (tE (jx X W) mi)) D σ H := fun D σ H ⟨ρ, τ, A, F0, F, Z, w, s, q⟩ => by
  unfold sEnd at q
  split at q
  case h_2 => exact q.elim
  case h_1 ds hi =>
  obtain ⟨l, o, h1, h2, h3, h4⟩ := s.own i _ hi
  obtain ⟨us, rfl, h5⟩ := h4
  exact ⟨ρ, τ, A, F0, F, Z, w, s, After.andS q fun d τ1 H1 Z1 w1 e1 q1 v rv => ⟨.ref l, h1, ρ, τ1, A, F0, F, Z1, w1, s.mono e1, After.andS q1 fun c τ2 H2 Z2 w2 e2 q2 y ry => by
    split at q2
    case h_2 => exact q2.elim
    case h_1 a es =>
    split at q2
    case isFalse => exact q2.elim
    case isTrue hc =>
    obtain ⟨b, vs, rfl, g1, g2⟩ := rep_lst.mp (rv.mono e2)
    have hr := (h5.mono e1).mono e2
    have hne : l ≠ b := fun z => by
      have := w2.no_z h2
      rw [z, g1] at this
      cases this
    have ln := hr.length
    have ln2 := g2.length
    obtain ⟨n, rfl⟩ := Int.eq_ofNat_of_zero_le hc.1
    rw [Int.toNat_natCast] at hc
    refine ⟨l, b, us, vs, n, rfl, ry, rfl, hne, w2.fh _ _ h2, w2.zh _ _ g1, by omega, by rw [sizeLine_eq]; omega, ?_⟩
    have w3 := w2.updF h2 (u := .lst (us.take n ++ vs)) rfl (fun _ z => nomatch z)
    have s3 := ((s.mono e1).mono e2).updF (d' := .lst (ds.take n ++ es)) (u := .lst (us.take n ++ vs)) hi h1 h2 ⟨_, rfl, (Reps.take n hr).append g2⟩
    exact AfterS.next q2 w3 s3⟩⟩
end
end Hw
set_option maxHeartbeats 1000000
namespace Hw
open PySem PySem.Spec L2
variable [Tb]
section
variable {k : Kx} {A : List Addr} {F0 F Z Z' H : Hp} {ρ : Rho} {σ : L2.St} {τ : Tau} {i j : Nat} {fp : List Addr}
theorem Md.drop (M : Md k A F0 F ρ σ Z i fp) (hij : i ≠ j) {a : Addr} {d : D} (hi : ρ[j]? = some (.own d)) (ha : σ[j]? = some (some (V.ref a))) : Md k A F0 (lessH F a) (ρ.set j .no) σ Z i fp ∧ a ∉ fp := by
  have hi' : (ρ.set i .no)[j]? = some (.own d) := by rw [List.getElem?_set_ne hij]; exact hi
  have na := M.ap j d a hi' ha
  obtain ⟨a', o, g1, g2, g3, g4⟩ := M.s.own j d hi'
  rw [ha] at g1
  cases g1
  obtain ⟨d0, v0, h1, h2, h3⟩ := M.v
  have e : (ρ.set j .no).set i .no = (ρ.set i .no).set j .no := List.set_comm _ _ (fun z => hij z.symm)
  have hlt : j < (ρ.set i .no).length := (List.getElem?_eq_some_iff.mp hi').1
  have keep : ∀ {b o}, b ≠ a → F b = some o → lessH F a b = some o := fun {b o} n h => by
    unfold lessH
    rw [if_neg n]
    exact h
  refine ⟨⟨?_, ⟨d0, v0, by rw [List.getElem?_set_ne (fun z => hij z.symm)]; exact h1, h2, h3.mono (Same.refl Z) fun b hb x hx => keep (fun z => na (by rw [← z]; exact hb)) hx⟩, M.nd, M.f0, fun l e' b hl hb => ?_, fun l m n b hl hb => ?_⟩, na⟩
  · rw [e]
    refine ⟨by rw [List.length_set]; exact M.s.len, fun l x hl => ?_, fun l x hl => ?_, fun l x hl => ?_, fun l m x y b hl hm hb hc => ?_, fun b o hb => ?_, fun l x n hl => ?_, fun l x n m y b hl hm hb hc => ?_⟩
    · by_cases hj : j = l
      · subst hj; rw [List.getElem?_set_self hlt] at hl; cases hl
      · rw [List.getElem?_set_ne hj] at hl
        exact M.s.fz l x hl
    · by_cases hj : j = l
      · subst hj; rw [List.getElem?_set_self hlt] at hl; cases hl
      · rw [List.getElem?_set_ne hj] at hl
        obtain ⟨b, o', q1, q2, q3, q4⟩ := M.s.own l x hl
        exact ⟨b, o', q1, keep (fun z => hj (M.s.ap j l d x a hi' hl ha (by rw [q1, z]))) q2, q3, q4⟩
    · by_cases hj : j = l
      · subst hj; rw [List.getElem?_set_self hlt] at hl; cases hl
      · rw [List.getElem?_set_ne hj] at hl
        exact M.s.io l x hl
    · by_cases hj : j = l
      · subst hj; rw [List.getElem?_set_self hlt] at hl; cases hl
      · by_cases hj2 : j = m
        · subst hj2; rw [List.getElem?_set_self hlt] at hm; cases hm
        · rw [List.getElem?_set_ne hj] at hl
          rw [List.getElem?_set_ne hj2] at hm
          exact M.s.ap l m x y b hl hm hb hc
    · exact keep (fun z => by rw [z, g3] at hb; cases hb) (M.s.f0 b o hb)
    · by_cases hj : j = l
      · subst hj; rw [List.getElem?_set_self hlt] at hl; cases hl
      · rw [List.getElem?_set_ne hj] at hl
        obtain ⟨b, q1, q2, q3, q4⟩ := M.s.rws l x n hl
        exact ⟨b, q1, q2, keep (fun z => M.s.apr l x n j d b hl hi' q1 (by rw [ha, z])) q3, q4⟩
    · by_cases hj : j = l
      · subst hj; rw [List.getElem?_set_self hlt] at hl; cases hl
      · by_cases hj2 : j = m
        · subst hj2; rw [List.getElem?_set_self hlt] at hm; cases hm
        · rw [List.getElem?_set_ne hj] at hl
          rw [List.getElem?_set_ne hj2] at hm
          exact M.s.apr l x n m y b hl hm hb hc
  · rw [e] at hl
    by_cases hj : j = l
    · subst hj; rw [List.getElem?_set_self hlt] at hl; cases hl
    · rw [List.getElem?_set_ne hj] at hl
      exact M.ap l e' b hl hb
  · rw [e] at hl
    by_cases hj : j = l
    · subst hj; rw [List.getElem?_set_self hlt] at hl; cases hl
    · rw [List.getElem?_set_ne hj] at hl
      exact M.apr l m n b hl hb
end
section
variable {X : Cx} {W : WX} {r : Rk} {i j : Nat} {ma : SA} {rm : RM} {f : D → List D → Option D} {e o E : Expr} {es : List Expr} {pos cpos apos : Pos} {id : String} {name x y : Str}
end
end Hw
set_option maxHeartbeats 1000000
namespace Hw
open PySem PySem.Spec L2
variable [Tb]
section
variable {X : Cx} {W : WX} {r : Rk} {i j : Nat} {rest : List Stmt} {n : SS} {pos p2 p3 p4 : Pos} {x y : Str} {e : Expr} {m : SE}
end
end Hw
set_option maxHeartbeats 1000000
namespace Hw
open PySem PySem.Spec L2
variable [Tb]
mutual
/-- lists of scalars, at any depth -/
def flT : D → Bool
  | .lst ds => flTs ds
  | d => isFl d
def flTs : List D → Bool
  | [] => true
  | d :: ds => flT d && flTs ds
end
section
variable {k : Kx} {F F' Z Z' : Hp}
theorem rep_fl {d : D} {v : V} (h : isFl d = true) (r : Rep k Z d v) : Rep k Z' d v := by
  have := reps_flat (Z' := Z') (ds := [d]) (vs := [v]) (by simp [h]) (Reps.cons r Reps.nil)
  obtain ⟨v', vs', e, h1, _⟩ := reps_cons.mp this
  cases e
  exact h1
mutual
theorem RepT.fl : ∀ {fp : List Addr} {d : D} {v : V}, RepT k F Z fp d v → flT d = true → (∀ a ∈ fp, ∀ o, F a = some o → F' a = some o) → RepT k F' Z' fp d v
  | _, d, _, .leaf h n, hf, _ => by
    cases d with
    | lst ds => unfold noL at n; cases n
    | _ => first | exact .leaf (rep_fl (by simpa [flT] using hf) h) n | (simp [flT, isFl] at hf)
  | _, _, _, .lst h r, hf, q => .lst (q _ List.mem_cons_self _ h) (RepTs.fl r (by simpa [flT] using hf) fun a ha => q a (List.mem_cons_of_mem _ ha))
  | _, _, _, .tup h r, hf, q => by simp [flT, isFl] at hf
theorem RepTs.fl : ∀ {fp : List Addr} {ds : List D} {vs : List V}, RepTs k F Z fp ds vs → flTs ds = true → (∀ a ∈ fp, ∀ o, F a = some o → F' a = some o) → RepTs k F' Z' fp ds vs
  | _, _, _, .nil, _, _ => .nil
  | _, _, _, .cons h r, hf, q => by
    unfold flTs at hf
    rw [Bool.and_eq_true] at hf
    exact .cons (RepT.fl h hf.1 fun a ha => q a (List.mem_append_left _ ha)) (RepTs.fl r hf.2 fun a ha => q a (List.mem_append_right _ ha))
end
end
section
variable {k : Kx} {A : List Addr} {F0 F F1 F' Z Z1 Z' H H' : Hp} {ρ : Rho} {σ : L2.St} {τ τ' : Tau} {i : Nat} {fp fq : List Addr}
end
section
variable {X : Cx} {W : WX} {r : Rk} {i : Nat} {mf : SE}
end
end Hw
set_option maxHeartbeats 1000000
namespace Hw
open PySem PySem.Spec L2
variable [Tb]
section
variable {X : Cx} {W : WX} {r : Rk} {i : Nat} {mf : SE}
variable {tg iter elt : Expr} {ifs : List Expr} {mi : SI} {g : SG} {is : List Nat} {t : ST} {m : SE} {pos : Pos}
end
end Hw
set_option maxHeartbeats 1000000
namespace Hw
open PySem PySem.Spec L2
variable [Tb]
def dV : V → D
  | .int i => .int i
  | _ => .non
section
variable {k : Kx} {F Z H : Hp}
end
end Hw
set_option maxHeartbeats 1000000
namespace Hw
open PySem PySem.Spec L2
variable [Tb]
section
variable {k : Kx} {Z Z' : Hp} {S : Addr → Prop}
end
section
variable {X : Cx} {W : WX} {r : Rk} {i j y : Nat} {rest : List Stmt} {n : SS} {mm : SE} {e : Expr} {x z u : Str} {pos p1 p2 p3 p4 p5 p6 p7 p8 p9 p10 apos cpos spos : Pos}
open Classical in
end
end Hw
set_option maxHeartbeats 1000000
namespace Hw
open PySem PySem.Spec L2
variable [Tb]
section
variable {X : Cx} {W : WX} {tg e o : Expr} {m ms me mt : SE} {apos pos p : Pos}
def fSplit (a : Str) : D → Option D
  | .str b => if b.length ≠ 0 ∧ a.length + 2 ≤ sizeLine then some (.lst ((Txt.split a b).map D.str)) else none
  | _ => none
def eSplit (mt ms : SE) : SE := fun ρ τ => (mt ρ τ).bind fun s τ1 => match s with
  | .str a => (ms ρ τ1).bind fun l τ2 => .of (fSplit a l) τ2
  | _ => .bad
theorem reps_of_strs {k : Kx} {Z : Hp} : ∀ ys : List Str, Reps k Z (ys.map D.str) (ys.map V.str)
  | [] => Reps.nil
  | y :: ys => Reps.cons (rep_str.mpr rfl) (reps_of_strs ys)
theorem split_ok : ∀ σ H Q, tF (jx X W) (eSplit mt ms) σ H Q → tM1 (fun x xs H Q => ∃ a b, x = V.str a ∧ xs = [.str b] ∧ (b.length == 0) = false ∧ a.length + 2 ≤ sizeLine ∧ rNewStrs (Txt.split a b) H Q) (tE (jx X W) mt) (tE (jx X W) ms) σ H Q := fun σ H Q ⟨ρ, τ, A, F0, F, Z, w, s, q⟩ =>
  ⟨ρ, τ, A, F0, F, Z, w, s, AfterF.next q fun d τ1 H1 Z1 w1 e1 q1 x rx => by
    split at q1
    · rename_i a
      have ex := rep_str.mp rx
      subst ex
      refine ⟨⟨a, rfl⟩, ρ, τ1, A, F0, F, Z1, w1, s.mono e1, AfterF.next q1 fun l τ2 H2 Z2 w2 e2 q2 y ry => ?_⟩
      obtain ⟨z, hz, q3⟩ := AfterF.of q2
      unfold fSplit at hz
      split at hz
      · rename_i b
        split at hz
        · rename_i hl
          cases hz
          have ey := rep_str.mp ry
          subst ey
          exact ⟨a, b, rfl, rfl, beq_eq_false_iff_ne.mpr hl.1, hl.2, fun p hp => AfterF.ok q3 w2 hp ⟨_, rfl, reps_of_strs _⟩⟩
        · cases hz
      · cases hz
    · exact q1.elim⟩
theorem ef_split (ht : EV X W o mt) (hs : EV X W e ms) (hst : starEach [e] X.env = [(false, eval e X.env)] := by rfl) (hbase : attributeBase o "split" X.env (eval o X.env) = eval o X.env := by rfl) (hline : (apos.endLine == pos.line) = true := by rfl) :
    EF X W (.Call (.Attribute o "split" apos) [e] [] pos) (eSplit mt ms) := pe_weak (pe_split ht hs hst hbase hline) split_ok
end
end Hw
set_option maxHeartbeats 1000000
namespace Hw
open PySem PySem.Spec L2
open PyProof.Rows
variable [Tb]
section
variable {X : Cx} {pins : List (Addr × Obj)} {σ : L2.St} {H Z : Hp} {s : Shared} {a : Addr} {y v : V} {u r : Value} {A : Around} {E : Value → Shared → Prop} {k : Kx} {ks ds : List D} {vs : List V} {d z : D}
end
section
variable {X : Cx}
end
section
variable {X : Cx} {W : WX}
variable {ke ve tg iter : Expr} {ifs : List Expr} {scope : Scope} {pos : Pos} {mi : SI} {g : SG} {is : List Nat} {t : ST} {mk mv : SE}
end
section
variable {X : Cx} {W : WX} {r : Rk} {a b c d : Expr} {ma mb mc md : SE} {x y z w : Str} {px py pz pw pt pt2 pos : Pos}
end
end Hw
set_option maxHeartbeats 4000000
namespace PySem.W
open PySem PySem.Spec PySem.Calls PyProof.Rows
section
variable {prog : Program} {w : World} {A : Around} {E : Value → Shared → Prop} {s : Shared} {K : Frag} {x D : Addr} {ox : Obj} {od : Option Obj}
theorem hwE_find {C : Addr} {name : Str} {a g : Value} (hc : (clsIn K C).isSome = true) (ha : findIn K (.ref C) name = some (some a)) (hg : specialIn K a "__get__" = some (some g)) (ht : takesIn K a = some true) : findObj K C od name = some (.bind g a) := by
  obtain ⟨cd, hc⟩ := Option.isSome_iff_exists.mp hc
  unfold findObj
  rw [hc, Option.bind_some, ha, Option.bind_some]
  simp [hg, ht]
theorem hwE_kin {Q : Option Value → Shared → Prop} (hga : findIn K (.ref D) "__getattribute__" = some (some (.builtin "BaseException.__getattribute__"))) (hgt : findIn K (.ref D) "__getattr__" = some none) (hsub : subIn K (.ref D) (.type "BaseException") = some true)
    (hdct : hasDictIn K D = true) (ha : findIn K (.ref D) "__class__" = some (some (.builtin "object.__class__")))
    (hn : specialIn K (.builtin "object.__class__") "__get__" = some (some (.builtin "getset_descriptor.__get__"))) (htk : takesIn K (.builtin "object.__class__") = some true) (hm : mroIn K D (.type "object") = some true)
    (X : K.In s.heap) (I : InstAt s.heap x ox D od) (h : Q (some (.ref D)) { s with toks := s.toks + 1 }) : wpAny (model prog w) A (getAttr? (.ref x) "__class__") Q E s := by
  have hf : findObj K D od "__class__" = some (.bind (.builtin "getset_descriptor.__get__") (.builtin "object.__class__")) := hwE_find (by obtain ⟨cd, hc, _⟩ := any_some hdct; rw [hc]; rfl) ha hn htk
  obtain ⟨hp, g, d, t, os⟩ := s
  have q0 := I.type (M := model prog w)
  have q1 := looks_findIn (M := model prog w) X hga
  have q2 := looks_findIn (M := model prog w) X hgt
  have q3 := looks_find (M := model prog w) X I hf
  have isB : Looks (model prog w) hp (isInstance (.ref x) (.type "BaseException")) true := q0.andThen (looks_subIn X hsub)
  have n0 : (false && onTheHeap (Value.builtin "BaseException.__getattribute__")) = false := rfl
  have n2 : (Value.builtin "BaseException.__getattribute__" == Value.builtin "object.__getattribute__") = false := by decide +kernel
  have n1 : (onTheHeap (Value.ref D) && Value.builtin "BaseException.__getattribute__" == Value.builtin "object.__getattribute__") = false := by rw [n2]; rfl
  unfold getAttr? getAttrBy? getAttrBy
  refine wpAny_bind (wpAny_mkText (wpAny_bind (wpAny_attempt (wpAny_holding (wpAny_bind (q0.at (wpAny_bind (q1.at ?_))))))))
  show wpAny _ _ (if (onTheHeap (Value.ref D) && Value.builtin "BaseException.__getattribute__" == Value.builtin "object.__getattribute__") = true then _ else _) _ _ _
  rw [n1, if_neg Bool.false_ne_true]
  unfold getAttrByItsOwn hookBefore
  refine wpAny_bind ?_
  rw [if_pos (show onTheHeap (Value.ref D) = true from rfl)]
  refine q2.at ?_
  refine wpAny_bind (wpAny_attempt (wpAny_holding ?_))
  unfold callGetattribute
  rw [n0, if_neg Bool.false_ne_true]
  unfold boundAndCalled
  rw [PySem.F.excAttr_ValueError.ga.bind (.ref x)]
  refine wpAny_bind (wpAny_pure ?_)
  show wpAny _ _ (call (.builtin "BaseException.__getattribute__") [.ref x, .str "__class__" t]) _ _ _
  refine wpAny_call (codeAny_call_builtin PySem.F.excAttr_ValueError.ga.plain PySem.F.entry_bexc_ga ?_)
  refine @check_slot (model prog w) _ _ ⟨hp, g, d, t + 1, os⟩ "BaseException.__getattribute__" "BaseException" "__getattribute__" (.ref x) [.str "__class__" t] [] _ (by decide +kernel) (by decide +kernel) isB (PySem.F.args_bexc_ga (.ref x) (.str "__class__" t)) ?_
  unfold Builtin.«object.__getattribute__»
  refine wpAny_bind (wpAny_of_eq (a := ((Value.ref x : Value), [Value.str "__class__" t])) (by first | rfl | (simp only [slotArgs]; rfl)) ?_)
  refine wpAny_bind (wpAny_pure (wpAny_bind (q0.at (wpAny_bind (q3.at ?_)))))
  show wpAny _ _ (holding [Value.builtin "object.__class__"] (call (.builtin "getset_descriptor.__get__") [.builtin "object.__class__", .ref x, .ref D]) >>= ret) _ _ _
  refine wpAny_bind (wpAny_holding (wpAny_call (class_get (s := ⟨hp, g, d, t + 1, os⟩) (ox := ox) (od := od) X I hm ?_)))
  refine wpAny_pure ?_
  show wpAny _ _ (handedOut (.ref D)) _ _ _
  rw [handedOut_of (v := .ref D) rfl]
  first
    | exact wpAny_pure (wpAny_pure h)
    | exact wpAny_pure h
    | exact wpAny_pure (wpAny_bind (wpAny_pure (wpAny_pure h)))
theorem hwE_kitx (hga : findIn K (.ref D) "__getattribute__" = some (some (.builtin "BaseException.__getattribute__"))) (hgt : findIn K (.ref D) "__getattr__" = some none) (hsub : subIn K (.ref D) (.type "BaseException") = some true) (hdct : hasDictIn K D = true) (ha : findIn K (.ref D) "__class__" = some (some (.builtin "object.__class__")))
    (hn : specialIn K (.builtin "object.__class__") "__get__" = some (some (.builtin "getset_descriptor.__get__"))) (htk : takesIn K (.builtin "object.__class__") = some true) (hm : mroIn K D (.type "object") = some true) :
    KitX K (.ref x) (.ref D) (fun h => InstAt h x ox D od) where
  ty := fun _ _ _ I => I.type
  it := fun _ _ X _ => by
    obtain ⟨cd, hc, _⟩ := any_some hdct
    unfold clsIn at hc
    split at hc
    · rename_i c' d' cd' sl' ho
      intro A' Q' E' s' k q
      unfold isType loadHead
      exact wpAny_bind (wpAny_loadPart (k _ _ (X _ _ ho)) (wpAny_pure q))
    · cases hc
  ne := fun h tp dd its n sl X htp => by
    obtain ⟨cd, hc, _⟩ := any_some hdct
    refine Bool.eq_false_iff.mpr fun q => ?_
    have e : D = tp := Value.ref.inj (beq_iff_eq.mp q)
    subst e
    unfold clsIn at hc
    split at hc
    · rename_i c' d' cd' sl' ho
      have z := (X _ _ ho).symm.trans htp
      cases z
    · cases hc
  ca := fun X I k => hwE_kin hga hgt hsub hdct ha hn htk hm X I k
end
end PySem.W
namespace Hw
open PySem PySem.Spec L2
open Builtin Builtin.ObjectAttr
open He (ga ma)
variable [Tb]
section
variable {prog : Program} {w : World} {A : Around} {E : Value → Shared → Prop} {R : Result → Shared → Prop} {h : Heap} {g : Array GenState} {d : Drawn} {t : Nat} {os : OsState}
variable {nm q : Str} {C N : Addr} {bs bm bmB : List Value} {hdct : Bool} {sn : List Str} {sub : List Value} {ab : Bool} {col : Option Bool} {dd : Option Addr} {k0 k1 k2 k3 k5 : Option Value} {B newId initId : String}
open PySem.HandSPX
theorem newE_chk (F : ExcBaseFacts B newId initId bmB) (hT : ∀ X : String, bm.contains (.type X) = bmB.contains (.type X)) {rest : List Value} {kw : List (Str × Value)} {Q : Unit → Shared → Prop} {M : Model}
    (hC : h.get? C = some (excClassObj nm q C N bs bm hdct sn sub ab col dd k0 k1 k2 k3 k5 newId)) (hq : Q () ⟨h, g, d, t, os⟩) : wpAny M A (checkBuiltinCall newId ⟨.ref C :: rest, kw⟩) Q E ⟨h, g, d, t, os⟩ := by
  have hcont : (Value.ref C :: bm).contains (.type B) = true := by rw [List.contains_cons, hT, F.hasB, Bool.or_true]
  have hstar := F.noStar
  simp only [checkBuiltinCall, F.newKind, F.newSplit, F.newRow]
  repeat (first | refine wpAny_loadPart_at hC ?_ | (refine wpAny_isSubtype_exc hC ?_; rw [hcont]) | refine wpAny_staticBase_exc hC ?_ | refine wpAny_madeBy_exc hC ?_ | simp only [bne_self_eq_false, Bool.false_eq_true, if_false] | wp_step)
  exact hq
theorem newE_run (F : ExcBaseFacts B newId initId bmB) (hT : ∀ X : String, bm.contains (.type X) = bmB.contains (.type X)) {rest : List Value} {kw : List (Str × Value)}
    (hC : h.get? C = some (excClassObj nm q C N bs bm hdct sn sub ab col dd k0 k1 k2 k3 k5 newId))
    (hq : R (.ok (.ret (.ref (h.objs.size + 1)))) ⟨(h.push { cls := .type "tuple", data := .seq rest.toArray }).push
      { cls := .ref C, data := .fields #[.ref h.objs.size, .none, .none, .none, .bool false, .none] }, g, d, t, os⟩) (hrest : rest.length ≤ sizeLine) :
    codeAny (model prog w) A (.builtin newId ⟨.ref C :: rest, kw⟩) R ⟨h, g, d, t, os⟩ := by
  have hends := F.ends
  have hcB : (Value.ref C :: bm).contains (.type B) = true := by rw [List.contains_cons, hT, F.hasB, Bool.or_true]
  have hcA : (Value.ref C :: bm).contains (.type "AttributeError") = false := by rw [List.contains_cons, hT, F.noAttr]; rfl
  have hcN : (Value.ref C :: bm).contains (.type "NameError") = false := by rw [List.contains_cons, hT, F.noName]; rfl
  refine codeAny_builtinAt F.entry ?_
  unfold Builtin.«BaseException.__new__»
  refine wpAt_bind ?_
  show wpAt _ _ _ (stack >>= _) _ _ _
  refine wpAt_bind (wpAt_stack fun p below => wpAt_of_wpAny ?_)
  wp_walk
  refine wpAt_of_wpAny ?_
  rw [F.owner]
  repeat (first | with_reducible refine wpAny_madeHere_exc F.canon hC ?_ | with_reducible refine wpAny_loadPart_at hC ?_ | (with_reducible refine wpAny_isSubtype_exc hC ?_; first | rw [hcB] | rw [hcA] | rw [hcN]) | wp_step)
  show R _ _
  rw [Heap.size_push]
  exact hq
theorem typeE_run (F : ExcBaseFacts B newId initId bmB) (hT : ∀ X : String, bm.contains (.type X) = bmB.contains (.type X)) {rest : List Value} {kw : List (Str × Value)} {fI : Addr} {Q : Fin → Shared → Prop}
    (hC : h.get? C = some (excClassObj nm q C N bs bm hdct sn sub ab col dd k0 k1 k2 k3 k5 newId))
    (hi : W.Looks (model prog w) h (typeLookup (.ref C) "__init__") (some (.ref fI))) (hb : ∀ self, W.Looks (model prog w) h (bindSpecial (.ref fI) self) (.ref fI, [self])) (hrest : rest.length ≤ sizeLine)
    (hq : codeAny (model prog w) A (.call (.ref fI) ⟨.ref (h.objs.size + 1) :: rest, kw⟩)
      (fun r s' => match r with | .ok (.ret v) => v = .none ∧ Q (.done (.ret (.ref (h.objs.size + 1)))) s' | .ok _ => False | .error e => E e s')
      ⟨(h.push (W.kdv_tup rest)).push (excO C h.objs.size), g, d, t, os⟩) :
    wpAny (model prog w) A (Builtin.«type.__call__» ⟨.ref C :: rest, kw⟩) Q E ⟨h, g, d, t, os⟩ := by
  repeat (first | with_reducible refine wpAny_loadPart_at hC ?_ | with_reducible refine wpAny_madeBy_exc hC ?_ | wp_step)
  refine codeAny_call_builtin_code (Code.quiet_builtin _ F.quiet) (newE_chk F hT hC ?_)
  refine newE_run F hT hC ?_ hrest
  show wpAny _ _ _ _ _ _
  have k : ∀ b o, h.get? b = some o → ((h.push (W.kdv_tup rest)).push (excO C h.objs.size)).get? b = some o := fun b o e => Heap.get?_push_of_some _ (Heap.get?_push_of_some _ e)
  have hC₁ := k _ _ hC
  have hget : ((h.push (W.kdv_tup rest)).push (excO C h.objs.size)).get? (h.objs.size + 1) = some (excO C h.objs.size) := by heap_get
  have hcC : (Value.ref C :: bm).contains (.ref C) = true := by simp
  have i1 := hi.keeps k
  have b1 := (hb (.ref (h.objs.size + 1))).keeps k
  unfold isInstance
  repeat (first | with_reducible refine wpAny_loadPart_at hget ?_ | (with_reducible refine wpAny_isSubtype_exc hC₁ ?_; rw [hcC]) | wp_step)
  show wpAny _ _ (typeLookup (.ref C) _) _ _ _
  refine i1.at ?_
  refine wpAny_holding (wpAny_bind (b1.at ?_))
  refine wpAny_bind (wpAny_call (codeAny_mono hq fun r s' z => ?_))
  rcases r with e | (v | _ | _ | _) <;> first | exact z | exact z.elim | skip
  obtain ⟨rfl, z⟩ := z
  first
    | exact wpAny_pure (wpAny_pure z)
    | (wp_walk; exact z)
theorem callE_run (F : ExcBaseFacts B newId initId bmB) (hT : ∀ X : String, bm.contains (.type X) = bmB.contains (.type X)) {rest : List Value} {kw : List (Str × Value)} {fI : Addr}
    (hC : h.get? C = some (excClassObj nm q C N bs bm hdct sn sub ab col dd k0 k1 k2 k3 k5 newId))
    (hi : W.Looks (model prog w) h (typeLookup (.ref C) "__init__") (some (.ref fI))) (hb : ∀ self, W.Looks (model prog w) h (bindSpecial (.ref fI) self) (.ref fI, [self])) (hrest : rest.length ≤ sizeLine)
    (hq : codeAny (model prog w) (A.under (.builtin "type.__call__" ⟨.ref C :: rest, kw⟩)) (.call (.ref fI) ⟨.ref (h.objs.size + 1) :: rest, kw⟩) (W.InitBack (h.objs.size + 1) R)
      ⟨(h.push (W.kdv_tup rest)).push (excO C h.objs.size), g, d, t, os⟩) :
    codeAny (model prog w) A (.call (.ref C) ⟨rest, kw⟩) R ⟨h, g, d, t, os⟩ := by
  have f1 := tc_lookup
  have f2 := tc_bind (.ref C)
  have hTy : (⟨h, g, d, t, os⟩ : Shared).TypeIs (.ref C) "type" := ⟨_, hC, rfl⟩
  refine codeAny_of_tree ?_
  show wpAny _ _ (callAny (.ref C) _) _ _ _
  repeat (any_goals (first | assumption | with_reducible refine wpAny_loadPart_at hC ?_ | wp_step))
  refine ⟨rfl, ?_⟩
  refine codeAny_call_builtin_at (Code.quiet_builtin _ (by decide +kernel)) entry_typeCall (wpAny_check_type_call_sub hC (typeE_run F hT hC hi hb hrest ?_))
  refine codeAny_mono hq fun r s' z => ?_
  rcases r with e | (v | _ | _ | _) <;> exact z
end
end Hw
set_option maxHeartbeats 1000000
namespace Hw
open PySem PySem.Spec L2
open PyProof.Rows
open He (ga ma)
variable [Tb]
structure ExK (K : PySem.W.Frag) (C : Addr) : Prop where
  cls : ∃ nm q N bs bm sn sub ab col dd k0 k1 k2 k3 k5 B newId initId bmB, K.lookup C = some (excClassObj nm q C N bs bm true sn sub ab col dd k0 k1 k2 k3 k5 newId) ∧ PySem.ExcBaseFacts B newId initId bmB ∧ (∀ Y : String, bm.contains (.type Y) = bmB.contains (.type Y))
  kC : PySem.W.keepIn K (.ref C) = true
theorem exk_ve {K : PySem.W.Frag} {C : Addr} (T : OexC K C) : ExK K C := by
  obtain ⟨nm, q, N, bs, bm, sn, sub, ab, col, dd, k0, k1, k2, k3, k5, hC, hbm⟩ := T.cls
  exact ⟨⟨nm, q, N, bs, bm, sn, sub, ab, col, dd, k0, k1, k2, k3, k5, _, _, _, _, hC, PySem.F.excBase_ValueError, fun Y => PySem.HandSPX.refsVE_contains Y bm hbm⟩, T.kC⟩
theorem exk_le {K : PySem.W.Frag} {C : Addr} (T : LkC K C) : ExK K C := by
  obtain ⟨nm, q, N, bs, bm, sn, sub, ab, col, dd, k0, k1, k2, k3, k5, hC, hbm⟩ := T.cls
  exact ⟨⟨nm, q, N, bs, bm, sn, sub, ab, col, dd, k0, k1, k2, k3, k5, _, _, _, _, hC, PySem.F.excBase_LookupError, fun Y => lk_has Y hbm⟩, T.kC⟩
def SpE (sp : Sp) (C : Addr) (n : Nat) (fsV : List V → List (Str × V)) : Prop := ∀ (a : Addr) (vs : List V) (H : Hp) (Q : VK) (E : XK), vs.length = n → H a = some (exo a C none) →
  (∀ d H', H d = none → d ≠ a → (∀ b, b ≠ a → b ≠ d → H' b = H b) → H' a = some (exo a C (some d)) → H' d = some (exd d (fsV vs)) → Q .non H') → sp (.ref a :: vs) H Q E
theorem spE_ve {K : PySem.W.Frag} {C : Addr} {n : Nat} {fsV : List V → List (Str × V)} (T : OexC K C) : SpE (SpInit K C n fsV) C n fsV := fun a vs H Q E hl ha q =>
  ⟨by rw [List.length_cons, hl], a, vs, rfl, T, ha, q⟩
theorem spE_le {K : PySem.W.Frag} {C : Addr} {n : Nat} {fsV : List V → List (Str × V)} (T : LkC K C) : SpE (SpLk K C n fsV) C n fsV := fun a vs H Q E hl ha q =>
  ⟨by rw [List.length_cons, hl], a, vs, rfl, T, ha, q⟩
section
variable {X : Cx} {pins : List (Addr × Obj)} {σ : L2.St} {H1 : Hp} {s1 : Shared} {C fI : Addr} {fd : FuncData} {ps : List Str} {sp : Sp} {k n : Nat} {us us2 : List Value} {kw : List (Str × Value)} {vs : List V} {Q : VK}
theorem made_core (T : ExK X.K C) (iC : PySem.W.findIn X.K (.ref C) "__init__" = some (some (.ref fI))) (tI : PySem.W.typeIn X.K (.ref fI) = some (.type "function")) (F1 : FnOk X.prog X.w X.K X.mg X.base CX0 k fI fd ps sp) (hr : Room (k + 1) X.A) (I1 : Inv X pins σ H1 s1)
    (bt : ∀ s a, X.K.In s.heap → BindsTo s fd ⟨Value.ref a :: us, kw⟩ (ps.zip (Value.ref a :: us2))) (r1 : Vals vs us2) (hus : us.length ≤ sizeLine)
    (q1 : ∀ a, H1 a = none → sp (.ref a :: vs) (upd H1 a (exo a C none)) (fun v H2 => v = .non ∧ Q (.ref a) H2) (fun _ _ _ => False)) :
    wpAny (model X.prog X.w) X.A (call (.ref C) us kw) (EP X pins σ Q) X.xe s1 := by
  obtain ⟨nm, q, N, bs, bm, sn, sub, ab, col, dd, k0, k1, k2, k3, k5, B, newId, initId, bmB, hC, hF, hT⟩ := T.cls
  obtain ⟨hp, g, dr, tk, os⟩ := s1
  have hsz : hp.objs.size ≤ hp.objs.size + 1 := Nat.le_succ _
  have hn : H1 (hp.objs.size + 1) = none := I1.hok.fresh hsz
  have hq := q1 (hp.objs.size + 1) hn
  have kk : ∀ b o, hp.get? b = some o → ((hp.push (PySem.W.kdv_tup us)).push (PySem.HandSPX.excO C hp.objs.size)).get? b = some o := fun b o e => Heap.get?_push_of_some _ (Heap.get?_push_of_some _ e)
  have got : ((hp.push (PySem.W.kdv_tup us)).push (PySem.HandSPX.excO C hp.objs.size)).get? (hp.objs.size + 1) = some (PySem.HandSPX.excO C hp.objs.size) := by heap_get
  have I2 : Inv X pins σ (upd H1 (hp.objs.size + 1) (exo (hp.objs.size + 1) C none)) ⟨(hp.push (PySem.W.kdv_tup us)).push (PySem.HandSPX.excO C hp.objs.size), g, dr, tk, os⟩ :=
    I1.laid (t' := tk) (a := hp.objs.size + 1) (o := exo (hp.objs.size + 1) C none) (h' := (hp.push (PySem.W.kdv_tup us)).push (PySem.HandSPX.excO C hp.objs.size)) kk hsz (exo_ok got)
  have r2 : Vals (V.ref (hp.objs.size + 1) :: vs) (Value.ref (hp.objs.size + 1) :: us2) := .cons rfl r1
  refine wpAny_call (callE_run hF hT (I1.kIn _ _ hC) (PySem.W.looks_findIn I1.kIn iC) (fun self => PySem.W.bind_fn I1.kIn self tI) hus
    (codeAny_mono (F1.run _ X.stack _ _ ⟨Value.ref (hp.objs.size + 1) :: us, kw⟩ (Value.ref (hp.objs.size + 1) :: us2) _ _ (fun _ _ _ => False) (hr.make C us kw) (I2.env0.make C us kw) (bt _ _ I2.kIn) r2 hq) fun r s' hq' => ?_))
  cases r with
  | error er => exact (show False from hq').elim
  | ok fl =>
    cases fl with
    | ret u =>
      obtain ⟨v, H', J2, rv, ev, q3⟩ := I2.after hq'
      subst ev
      exact ⟨rv, ⟨V.ref (hp.objs.size + 1), H', J2, rfl, q3⟩⟩
    | next => exact False.elim hq'
    | brk => exact False.elim hq'
    | cont => exact False.elim hq'
end
structure Ez (P : Program) (w : World) (K : PySem.W.Frag) (mg : Str → Option Value) (base : Heap) (x : Str) (n : Nat) (fs : List Str) (vals : List D → List D) (ks : List Str) : Prop where
  ex : ∃ (fI : Addr) (fd : FuncData) (ps : List Str) (fsV : List V → List (Str × V)) (sp : Sp), PySem.W.findIn K (.ref (ga K x)) "__init__" = some (some (.ref fI)) ∧ PySem.W.typeIn K (.ref fI) = some (.type "function") ∧ FnOk P w K mg base CX0 1 fI fd ps sp ∧ Binds K fd ps [] ∧
    (∀ (s : Shared) (u : Value) (ws : List Value), K.In s.heap → ws.length = n → BindsTo s fd ⟨[u], ks.zip ws⟩ (ps.zip (u :: ws.reverse))) ∧ StoreD n fsV fs vals ∧ SpE sp (ga K x) n fsV
  T : ExK K (ga K x)
  at_ : mg x = some (.ref (ga K x))
def eMkE (x : Str) (n : Nat) (fs : List Str) (vals : List D → List D) (m : SA) : SE := fun ρ τ => (m ρ τ).bind fun ds τ1 => if ds.length = n then .ok (.exn x fs (vals ds)) τ1 else .bad
def tMkE (n : Nat) (C : Addr) (sp : Sp) (g : List V → List V) (ta : TA) : TE := fun σ H Q => ta σ H fun vs H1 => vs.length = n ∧ ∀ a, H1 a = none → sp (.ref a :: g vs) (upd H1 a (exo a C none)) (fun v H2 => v = .non ∧ Q (.ref a) H2) (fun _ _ _ => False)
theorem vals_rev : ∀ {vs : List V} {us : List Value}, Vals vs us → Vals vs.reverse us.reverse
  | _, _, .nil => .nil
  | _, _, .cons r t => by rw [List.reverse_cons, List.reverse_cons]; exact (vals_rev t).append (.cons r .nil)
section
variable {X : Cx} {W : WX} {e : Expr} {es : List Expr} {kws : List Keyword} {m : SA} {ta : TA} {C fI : Addr} {fd : FuncData} {ps ks : List Str} {sp : Sp} {k n : Nat} {x nm' : Str} {p pos kpos : Pos} {fsV : List V → List (Str × V)} {fs : List Str} {vals : List D → List D}
theorem pe_mkE (T : ExK X.K C) (iC : PySem.W.findIn X.K (.ref C) "__init__" = some (some (.ref fI))) (tI : PySem.W.typeIn X.K (.ref fI) = some (.type "function")) (F1 : FnOk X.prog X.w X.K X.mg X.base CX0 k fI fd ps sp) (hr : Room (k + 1) X.A) (hb : Binds X.K fd ps []) (hn : n ≤ 1000)
    (hg : Gl X x) (hm : X.mg x = some (.ref C)) (ha : PA X (e :: es) ta) (hdb : (x == ("__debug__" : Str)) = false := by decide) (he : starEach (e :: es) X.env = (false, eval e X.env) :: starEach es X.env := by rfl) (hpl : (backTo pos (starEach es X.env)).any (·.1) = false := by rfl) :
    PE X (.Call (.Name x p) (e :: es) [] pos) (tMkE n C sp id ta) := by
  refine ⟨fun pins s σ H Q I h => ?_⟩
  refine wpAny_Call_Name_kw (ld_glob I hg hm ?_ hdb)
  refine PySem.W.callWith_K (h₀ := X.base) I.ok.mod.kin T.kC (thn (ha.run pos pins s σ H _ I h) fun us s1 ⟨vs, H1, I1, r1, hz, q1⟩ => ⟨I1.kIn, ?_⟩) he hpl
  show wpAny _ _ (call (.ref C) us) _ _ _
  have hl : us.length ≤ sizeLine := by rw [← r1.length, sizeLine_eq]; omega
  refine made_core T iC tI F1 hr I1 (us := us) (us2 := us) (kw := []) (fun s a X0 => ?_) r1 hl q1
  have h1 := F1.len _ _ _ _ (q1 s1.heap.objs.size (I1.hok.fresh (Nat.le_refl _)))
  have h2 := hb s (Value.ref a :: us) X0 (by rw [List.length_append, List.length_cons, ← r1.length, ← h1]; rfl)
  rw [List.append_nil] at h2
  exact h2
theorem pe_mkE0 (T : ExK X.K C) (iC : PySem.W.findIn X.K (.ref C) "__init__" = some (some (.ref fI))) (tI : PySem.W.typeIn X.K (.ref fI) = some (.type "function")) (F1 : FnOk X.prog X.w X.K X.mg X.base CX0 k fI fd ps sp) (hr : Room (k + 1) X.A) (hb : Binds X.K fd ps [])
    (hg : Gl X x) (hm : X.mg x = some (.ref C)) (hdb : (x == ("__debug__" : Str)) = false := by decide) :
    PE X (.Call (.Name x p) [] [] pos) (tMkE 0 C sp id tNil) := by
  refine ⟨fun pins s σ H Q I h => ?_⟩
  obtain ⟨hz, q1⟩ := h
  refine wpAny_Call_Name_kw (ld_glob I hg hm ?_ hdb)
  refine PySem.W.callWith_K0 I.kIn T.kC ?_
  show wpAny _ _ (call (.ref C) []) _ _ _
  refine made_core T iC tI F1 hr I (us := []) (us2 := []) (kw := []) (fun s0 a X0 => ?_) .nil (Nat.zero_le _) q1
  have h1 := F1.len _ _ _ _ (q1 s.heap.objs.size (I.hok.fresh (Nat.le_refl _)))
  have h2 := hb s0 [Value.ref a] X0 (by rw [← h1]; rfl)
  exact h2
theorem pe_mkEK {tk : TA} (T : ExK X.K C) (iC : PySem.W.findIn X.K (.ref C) "__init__" = some (some (.ref fI))) (tI : PySem.W.typeIn X.K (.ref fI) = some (.type "function")) (F1 : FnOk X.prog X.w X.K X.mg X.base CX0 k fI fd ps sp) (hr : Room (k + 1) X.A)
    (hb : ∀ (s : Shared) (u : Value) (ws : List Value), X.K.In s.heap → ws.length = n → BindsTo s fd ⟨[u], ks.zip ws⟩ (ps.zip (u :: ws.reverse)))
    (hg : Gl X x) (hm : X.mg x = some (.ref C)) (hkw : PK X kws tk) (hall : (backToKw pos (keywordEach kws X.env)).all (·.1.isSome) = true := by rfl) (hks : (backToKw pos (keywordEach kws X.env)).filterMap (·.1) = ks := by rfl) (hdb : (x == ("__debug__" : Str)) = false := by decide)
    (hpl : ((backTo pos (starEach [] X.env)).any (·.1) || (backToKw pos (keywordEach kws X.env)).any (·.1.isNone)) = false := by rfl) :
    PE X (.Call (.Name x p) [] kws pos) (tMkE n C sp List.reverse tk) := by
  refine ⟨fun pins s σ H Q I h => ?_⟩
  refine wpAny_Call_Name_kw (ld_glob I hg hm ?_ hdb)
  refine PySem.W.callWith_KW0 (h₀ := X.base) I.ok.mod.kin T.kC hall (thn (hkw.run pos pins s σ H _ I h) fun ws s1 ⟨vs, H1, I1, r1, hz, q1⟩ => ⟨I1.kIn, ?_⟩) hpl
  rw [hks]
  show wpAny _ _ (call (.ref C) [] (ks.zip ws)) _ _ _
  exact made_core T iC tI F1 hr I1 (us := []) (us2 := ws.reverse) (kw := ks.zip ws) (fun s0 a X0 => hb s0 _ ws X0 (by rw [← r1.length, hz])) (vals_rev r1) (Nat.zero_le _) q1
end
section
variable {X : Cx} {W : WX} {e : Expr} {es : List Expr} {kws : List Keyword} {m : SA} {n : Nat} {ks : List Str} {x nm : Str} {p pos kpos : Pos} {fs : List Str} {vals : List D → List D}
abbrev EKV (X : Cx) (W : WX) (kws : List Keyword) (m : SA) : Prop := PK X kws (tAV (jx X W) m)
theorem ekv_nil : EKV X W [] aNil := pk_weak pk_nil fun σ H Q ⟨ρ, τ, A, F0, F, Z, w, s, q⟩ => q H Z w (Same.refl Z) [] Reps.nil
theorem ekv_cons {ma : SE} {mr : SA} {o : Option Str} (ha : EV X W e ma) (hr : EKV X W kws mr) : EKV X W (⟨o, e, kpos⟩ :: kws) (aCons ma mr) := pk_weak (pk_cons ha hr) fun σ H Q ⟨ρ, τ, A, F0, F, Z, w, s, q⟩ =>
  ⟨ρ, τ, A, F0, F, Z, w, s, After.next q fun d τ1 H1 Z1 w1 e1 q1 x rx => ⟨ρ, τ1, A, F0, F, Z1, w1, s.mono e1, After.next q1 fun ds τ2 H2 Z2 w2 e2 q2 ys ry =>
    After.ok q2 w2 _ (Reps.cons (rx.mono e2) ry)⟩⟩
theorem mkE_ok (R : Ez X.prog X.w X.K X.mg X.base x n fs vals ks) {sp : Sp} {fsV : List V → List (Str × V)} (st : StoreD n fsV fs vals) (se : SpE sp (ga X.K x) n fsV) (g : ∀ {α : Type}, List α → List α) (hg : ∀ {α : Type} (l : List α), (g l).length = l.length)
    (hgr : ∀ {k : Kx} {Z : Hp} {ds : List D} {vs : List V}, Reps k Z ds vs → Reps k Z (g ds) (g vs)) :
    ∀ σ H Q, tE (jx X W) (eMkE x n fs (fun ds => vals (g ds)) m) σ H Q → tMkE n (ga X.K x) sp g (tAV (jx X W) m) σ H Q := fun σ H Q ⟨ρ, τ, A, F0, F, Z, w, s, q⟩ =>
  ⟨ρ, τ, A, F0, F, Z, w, s, After.next q fun ds τ1 H1 Z1 w1 e1 q1 vs rv => by
    by_cases hn : ds.length = n
    · rw [if_pos hn] at q1
      refine ⟨rv.length.symm.trans hn, fun a ha => se a (g vs) _ _ _ (by rw [hg, ← rv.length, hn]) upd_same fun d H' hd hda hb h2a h2d => ⟨rfl, ?_⟩⟩
      have hd1 : H1 d = none := by rw [upd_ne hda] at hd; exact hd
      obtain ⟨us, g1, g2, g3⟩ := st _ Z1 (g ds) (g vs) (by rw [hg, hn]) (hgr rv)
      have eH : H' = upd (upd H1 a (exo a (ga X.K x) (some d))) d (exd d (fs.zip us)) := by
        funext b
        by_cases h1 : b = d
        · rw [h1, upd_same, h2d, g1]
        · rw [upd_ne h1]
          by_cases h2 : b = a
          · rw [h2, upd_same, h2a]
          · rw [upd_ne h2, hb b h2 h1, upd_ne h2]
      have w2 := w1.alloc (o := exo a (ga X.K x) (some d)) ha exo_pl
      have hd2 : upd H1 a (exo a (ga X.K x) (some d)) d = none := by rw [upd_ne hda]; exact hd1
      have w3 := w2.alloc (o := exd d (fs.zip us)) hd2 exd_pl
      have s1 : Same Z1 (upd Z1 a (exo a (ga X.K x) (some d))) := same_new (none_of_same w1.zh ha)
      have s2 : Same (upd Z1 a (exo a (ga X.K x) (some d))) (upd (upd Z1 a (exo a (ga X.K x) (some d))) d (exd d (fs.zip us))) := same_new (none_of_same w2.zh hd2)
      rw [eH]
      exact q1 _ _ w3 (s1.trans s2) (.ref a) (rep_exn.mpr ⟨a, ga X.K x, d, us, rfl, by rw [upd_ne (Ne.symm hda), upd_same], upd_same, R.at_, g2, g3.mono (s1.trans s2)⟩)
    · rw [if_neg hn] at q1; exact q1.elim⟩
theorem ev_mkE (R : Ez X.prog X.w X.K X.mg X.base x n fs vals ks) {j : Nat} (hr : Room j X.A) (ha : EAV X W (e :: es) m) (hj : 2 ≤ j := by decide) (hn2 : n ≤ 1000 := by decide) (hg : Gl X x := by rfl) (hdb : (x == ("__debug__" : Str)) = false := by decide)
    (he : starEach (e :: es) X.env = (false, eval e X.env) :: starEach es X.env := by rfl) (hpl : (backTo pos (starEach es X.env)).any (·.1) = false := by rfl) :
    EV X W (.Call (.Name x p) (e :: es) [] pos) (eMkE x n fs vals m) := by
  obtain ⟨fI, fd, ps, fsV, sp, iC, tI, F1, b, kb, st, se⟩ := R.ex
  exact pe_weak (pe_mkE R.T iC tI F1 (hr.mono hj) b hn2 hg R.at_ ha hdb he hpl) (mkE_ok R st se id (fun _ => rfl) (fun h => h))
theorem ev_mkE0 (R : Ez X.prog X.w X.K X.mg X.base x 0 fs vals ks) {j : Nat} (hr : Room j X.A) (hj : 2 ≤ j := by decide) (hg : Gl X x := by rfl) (hdb : (x == ("__debug__" : Str)) = false := by decide) :
    EV X W (.Call (.Name x p) [] [] pos) (eMkE x 0 fs vals aNil) := by
  obtain ⟨fI, fd, ps, fsV, sp, iC, tI, F1, b, kb, st, se⟩ := R.ex
  refine pe_weak (pe_mkE0 R.T iC tI F1 (hr.mono hj) b hg R.at_ hdb) fun σ H Q h => ?_
  have h2 := mkE_ok (W := W) (m := aNil) R st se id (fun _ => rfl) (fun h => h) σ H Q h
  obtain ⟨ρ, τ, A, F0, F, Z, w, s, q⟩ := h2
  exact q H Z w (Same.refl Z) [] Reps.nil
theorem ev_mkEK (R : Ez X.prog X.w X.K X.mg X.base x n fs vals ks) {j : Nat} (hr : Room j X.A) (hkw : EKV X W kws m) (hj : 2 ≤ j := by decide) (hg : Gl X x := by rfl) (hall : (backToKw pos (keywordEach kws X.env)).all (·.1.isSome) = true := by rfl) (hks : (backToKw pos (keywordEach kws X.env)).filterMap (·.1) = ks := by rfl) (hdb : (x == ("__debug__" : Str)) = false := by decide)
    (hpl : ((backTo pos (starEach [] X.env)).any (·.1) || (backToKw pos (keywordEach kws X.env)).any (·.1.isNone)) = false := by rfl) :
    EV X W (.Call (.Name x p) [] kws pos) (eMkE x n fs (fun ds => vals ds.reverse) m) := by
  obtain ⟨fI, fd, ps, fsV, sp, iC, tI, F1, b, kb, st, se⟩ := R.ex
  exact pe_weak (pe_mkEK R.T iC tI F1 (hr.mono hj) kb hg R.at_ hkw hall hks hdb hpl) (mkE_ok R st se List.reverse (fun l => List.length_reverse) (fun h => h.rev))
end
end Hw
set_option maxHeartbeats 1000000
namespace Hw
open PySem PySem.Spec L2
open PyProof.Rows
open He (ga ma)
variable [Tb]
theorem exn_inst {X : Cx} {pins : List (Addr × Obj)} {σ : L2.St} {H : Hp} {s : Shared} {a C dx : Addr} {fs : List (Str × V)} (I : Inv X pins σ H s) (e1 : H a = some (exo a C (some dx))) (e2 : H dx = some (exd dx fs)) :
    ∃ (ob od : Obj) (mA : Str → Option Value), PySem.W.InstAt s.heap a ob C (some od) ∧ (∀ f, PySem.W.lookIn f od = some (mA f)) ∧ ∀ f, RelO (fs.lookup f) (mA f) := by
  obtain ⟨t0, h0⟩ := exo_at I.hok e1
  obtain ⟨mA, hns, rel⟩ := exd_at I.hok e2
  obtain ⟨od, ho, hl⟩ := lookIn_ns hns
  exact ⟨_, od, mA, ⟨h0, rfl, rfl, ho⟩, hl, rel⟩
def rIsiE (K : PySem.W.Frag) : List V → Hp → VK → Prop := fun xs H Q => ∃ (a C dx : Addr) (fs : List (Str × V)) (c : V) (cv : Value) (b : Bool), xs = [.ref a, c] ∧ H a = some (exo a C (some dx)) ∧ H dx = some (exd dx fs) ∧ ExcC K C ∧ (∀ u, RelV c u → u = cv) ∧ PySem.W.kitOne K (.ref C) cv = some b ∧ Q (.bl b) H
theorem call_isiE {X : Cx} : CallR X (.builtin "isinstance") (rIsiE X.K) := by
  intro pins s σ H xs us Q I r h
  obtain ⟨a, C, dx, fs, c, cv, b, rfl, e1, e2, T, hcv, e, q⟩ := h
  cases r with
  | cons rx rr =>
    cases rr with
    | cons rt rr =>
      cases rr
      cases rx
      have ec := hcv _ rt
      subst ec
      obtain ⟨ob, od, mA, J, _, _⟩ := exn_inst I e1 e2
      exact PySem.W.kia_one (PySem.W.hwE_kitx T.hg T.hk T.hs T.hd T.ha T.hn T.ht T.hm) I.kIn J e (fun z => nomatch z) fun tk => ⟨.bl b, H, I.kept (t' := tk) fun _ _ z => z, rfl, q⟩
def rIsiET (K : PySem.W.Frag) : List V → Hp → VK → Prop := fun xs H Q => ∃ (a C dx tp : Addr) (fs : List (Str × V)) (cs : List V) (cvs : List Value) (b : Bool), xs = [.ref a, .ref tp] ∧ H a = some (exo a C (some dx)) ∧ H dx = some (exd dx fs) ∧ ExcC K C ∧ H tp = some (.tup cs) ∧ (∀ us, Vals cs us → us = cvs) ∧ PySem.W.kitAny K (.ref C) cvs = some b ∧ Q (.bl b) H
theorem call_isiET {X : Cx} : CallR X (.builtin "isinstance") (rIsiET X.K) := by
  intro pins s σ H xs us Q I r h
  obtain ⟨a, C, dx, tp, fs, cs, cvs, b, rfl, e1, e2, T, et, hcv, e, q⟩ := h
  cases r with
  | cons rx rr =>
    cases rr with
    | cons rt rr =>
      cases rr
      cases rx
      cases rt
      obtain ⟨ob, od, mA, J, _, _⟩ := exn_inst I e1 e2
      obtain ⟨_, its, rv, o, h1, h2, n, h3⟩ := (show ObjOk X.prog X.w H s.heap tp (.tup cs) from I.hok tp _ et)
      have ec := hcv _ rv
      subst ec
      obtain ⟨o1, o2, o3, o4⟩ := o
      cases h2
      cases h3
      exact PySem.W.kia_tup (PySem.W.hwE_kitx T.hg T.hk T.hs T.hd T.ha T.hn T.ht T.hm) I.kIn J h1 e (fun z => nomatch z) fun tk => ⟨.bl b, H, I.kept (t' := tk) fun _ _ z => z, rfl, q⟩
def tFldE (K : PySem.W.Frag) (n : Str) (te : TE) : TE := fun σ H Q => te σ H fun x H1 => ∃ (a C dx : Addr) (fs : List (Str × V)) (v : V), x = .ref a ∧ XfC K C ∧ PySem.W.findIn K (.ref C) n = some none ∧ H1 a = some (exo a C (some dx)) ∧ H1 dx = some (exd dx fs) ∧ fs.lookup n = some v ∧ Q v H1
theorem pe_fldE {X : Cx} {e : Expr} {te : TE} {pos : Pos} {n : Str} (he : PE X e te) (hb : attributeBase e n X.env (eval e X.env) = eval e X.env := by rfl) : PE X (.Attribute e n pos) (tFldE X.K n te) := by
  refine ⟨fun pins s σ H Q I h => ?_⟩
  refine attr_of hb (thn (he.run pins s σ H _ I h) fun u s1 hh => ?_)
  obtain ⟨x, H1, I1, rx, a, C, dx, fs, v, ex, T, hno, e1, e2, l, q⟩ := hh
  subst ex
  obtain rfl : u = Value.ref a := rx
  obtain ⟨ob, od, mA, J, hl, hr⟩ := exn_inst I1 e1 e2
  obtain ⟨u, hu, ru⟩ := RelO.some_of (v := v) (o := mA n) (by rw [← l]; exact hr n)
  exact HandSPX.exc_get I1.kIn J T.ga T.gg T.exC (PySem.W.findObj_own T.hdC hno rfl (by rw [hl, hu])) (handed_of ru) ⟨v, H1, I1.tok _, ru, q⟩
structure EcT (K : PySem.W.Frag) (mg : Str → Option Value) (l : List Str) : Prop where
  gl : ∀ c ∈ l, mg c = some (.ref (ga K c))
  ex : ∀ c ∈ l, ExcC K (ga K c) ∧ XfC K (ga K c)
theorem ecT_of {K : PySem.W.Frag} {mg : Str → Option Value} {l : List Str} (gl : ∀ c ∈ l, mg c = some (.ref (ga K c))) (h : ecB K l = true) : EcT K mg l := ⟨gl, fun c hc => by
  have h1 := List.all_eq_true.mp h c hc
  rw [Bool.and_eq_true] at h1
  have x := xfB_ok h1.1
  have kb := h1.2
  unfold isiB at kb
  simp only [Bool.and_eq_true, decide_eq_true_eq] at kb
  obtain ⟨⟨k1, k2⟩, k3, k4⟩ := kb
  exact ⟨⟨x.ga, x.gg, x.exC, x.hdC, k1, k2, k3, k4⟩, x⟩⟩
theorem fm_nil {p : Str → Prop} : ∀ x ∈ ([] : List Str), p x := fun x h => nomatch h
theorem fm_cons {p : Str → Prop} {a : Str} {l : List Str} (h : p a) (t : ∀ x ∈ l, p x) : ∀ x ∈ a :: l, p x := fun x hx => (List.mem_cons.mp hx).elim (fun e => e ▸ h) (t x)
def isiE (l : List Str) (bs : List Bool) : D → Option D
  | .exn c _ _ => ((l.zip bs).lookup c).map .bl
  | _ => none
def dFldE (l : List Str) (f : Str) : D → Option D
  | .exn c fs vs => if l.contains c = true then (fs.zip vs).lookup f else none
  | _ => none
theorem lookup_mem {α β : Type} [BEq α] [LawfulBEq α] {a : α} {b : β} : ∀ {l : List (α × β)}, l.lookup a = some b → (a, b) ∈ l
  | (c, d) :: l, h => by
    rw [List.lookup_cons] at h
    split at h
    · rename_i e
      cases h
      rw [beq_iff_eq.mp e]
      exact List.mem_cons_self
    · exact List.mem_cons_of_mem _ (lookup_mem h)
theorem zip_lookup {k : Kx} {Z : Hp} {f : Str} {d : D} : ∀ {fs : List Str} {ds : List D} {vs : List V}, Reps k Z ds vs → (fs.zip ds).lookup f = some d → ∃ v, (fs.zip vs).lookup f = some v ∧ Rep k Z d v
  | [], _, _, _, h => by cases h
  | g :: fs, [], _, _, h => by cases h
  | g :: fs, d' :: ds, vs, r, h => by
    rw [reps_cons] at r
    obtain ⟨v, r', rfl, h1, h2⟩ := r
    rw [List.zip_cons_cons, List.lookup_cons] at h
    rw [List.zip_cons_cons, List.lookup_cons]
    cases hb : (f == g) with
    | true => rw [hb] at h; cases h; exact ⟨v, rfl, h1⟩
    | false => rw [hb] at h; exact zip_lookup h2 h
theorem RepB.exn {k : Kx} {F Z H : Hp} (eZ : Same Z H) {c : Str} {fs : List Str} {ds : List D} {v : V} (h : RepB k F Z (.exn c fs ds) v) : ∃ a C dx vs, v = .ref a ∧ H a = some (exo a C (some dx)) ∧ H dx = some (exd dx (fs.zip vs)) ∧ k.mg c = some (.ref C) ∧ Reps k Z ds vs := by
  rcases h with h | ⟨a, o, h1, h2, h3⟩
  · obtain ⟨a, C, dx, vs, h1, h2, h3, h4, h5, h6⟩ := rep_exn.mp h
    exact ⟨a, C, dx, vs, h1, eZ _ _ h2, eZ _ _ h3, h4, h6⟩
  · exact h3.elim
section
variable {X : Cx} {W : WX} {e : Expr} {m : SE} {p p2 pt pos : Pos} {l cs : List Str} {bs : List Bool} {f c x : Str}
theorem fldE_ok (T : EcT X.K X.mg l) (hf : fldEB X.K l f = true) : ∀ σ H Q, tE (jx X W) (eUn (dFldE l f) m) σ H Q → tFldE X.K f (tB (jx X W) m) σ H Q := fun σ H Q ⟨ρ, τ, A, F0, F, Z, w, s, q⟩ =>
  ⟨ρ, τ, A, F0, F, Z, w, s, After.next q fun d τ1 H1 Z1 w1 e1 q1 v rv => by
    obtain ⟨z, hz, q2⟩ := After.of q1
    unfold dFldE at hz
    split at hz
    · rename_i c fs ds
      split at hz
      · rename_i hc
        have hc : c ∈ l := List.contains_iff_mem.mp hc
        obtain ⟨a, C, dx, vs, rfl, h2, h3, h4, h5⟩ := RepB.exn w1.zh rv
        have h4 : X.mg c = some (.ref C) := h4
        rw [T.gl c hc] at h4
        cases h4
        obtain ⟨v, g1, g2⟩ := zip_lookup h5 hz
        exact ⟨a, _, dx, _, v, rfl, (T.ex c hc).2, of_decide_eq_true (List.all_eq_true.mp hf c hc), h2, h3, g1, After.ok q2 w1 _ g2⟩
      · cases hz
    · cases hz⟩
theorem ev_fldE (l : List Str) (T : EcT X.K X.mg l) (hf : fldEB X.K l f = true) (he : EB X W e m) (hb : attributeBase e f X.env (eval e X.env) = eval e X.env := by rfl) : EV X W (.Attribute e f pos) (eUn (dFldE l f) m) := pe_weak (pe_fldE he hb) (fldE_ok T hf)
theorem isiE_at {k : Kx} {F Z H : Hp} {d z : D} {v : V} {K : PySem.W.Frag} (T : EcT K k.mg l) (eZ : Same Z H) (rv : RepB k F Z d v) (hz : isiE l bs d = some z) : ∃ (a dx : Addr) (fs : List (Str × V)) (c : Str) (b : Bool), v = .ref a ∧ H a = some (exo a (ga K c) (some dx)) ∧ H dx = some (exd dx fs) ∧ c ∈ l ∧ (c, b) ∈ l.zip bs ∧ z = .bl b := by
  unfold isiE at hz
  split at hz
  · rename_i c fs ds
    obtain ⟨b, hb, rfl⟩ := Option.map_eq_some_iff.mp hz
    have hm := lookup_mem hb
    have hc := (List.of_mem_zip hm).1
    obtain ⟨a, C, dx, vs, rfl, h2, h3, h4, h5⟩ := RepB.exn eZ rv
    rw [T.gl c hc] at h4
    cases h4
    exact ⟨a, dx, _, c, b, rfl, h2, h3, hc, hm, rfl⟩
  · cases hz
theorem isiE_ok {cV : V} {cv : Value} {tc : TE} (T : EcT X.K X.mg l) (ht : isEB X.K l bs cv = true) (hcv : ∀ u, RelV cV u → u = cv) : ∀ σ H Q, tE (jx X W) (eUn (isiE l bs) m) σ H Q → tCB (rIsiE X.K) (tCons (tB (jx X W) m) (tCons (tC cV) tNil)) σ H Q := fun σ H Q ⟨ρ, τ, A, F0, F, Z, w, s, q⟩ =>
  ⟨ρ, τ, A, F0, F, Z, w, s, After.next q fun d τ1 H1 Z1 w1 e1 q1 v rv => by
    obtain ⟨z, hz, q2⟩ := After.of q1
    obtain ⟨a, dx, fs, c, b, rfl, h2, h3, hc, hm, rfl⟩ := isiE_at T w1.zh rv hz
    exact ⟨a, _, dx, fs, cV, cv, b, rfl, h2, h3, (T.ex c hc).1, hcv, beq_iff_eq.mp (List.all_eq_true.mp ht (c, b) hm), After.ok q2 w1 _ (rep_bl.mpr rfl)⟩⟩
theorem ev_isiE (c : Str) (l : List Str) (bs : List Bool) (T : EcT X.K X.mg l) (hg : Gl X "isinstance") (hm : X.mg "isinstance" = none) (hg2 : Gl X c) (hC : X.mg c = some (.ref (ga X.K c))) (ht : isEB X.K l bs (.ref (ga X.K c)) = true) (he : EB X W e m) (hd2 : (c == ("__debug__" : Str)) = false := by decide)
    (hs1 : starEach [e, .Name c p2] X.env = (false, eval e X.env) :: starEach [.Name c p2] X.env := by rfl) (hs2 : starEach [.Name c p2] X.env = (false, eval (.Name c p2) X.env) :: starEach [] X.env := by rfl) (hpl : (backTo pos (starEach [.Name c p2] X.env)).any (·.1) = false := by rfl) :
    EV X W (.Call (.Name "isinstance" p) [e, .Name c p2] [] pos) (eUn (isiE l bs) m) :=
  pe_weak (pe_callB call_isiE hg hm rfl (pa_cons he (pa_cons (pe_glob (v := .ref (ga X.K c)) hg2 hC rfl hd2) pa_nil hs2) hs1) (by decide) (by decide) hs1 hpl) (isiE_ok (tc := tC .non) T ht fun u r => r)
theorem ev_isiEb (T' : String) (l : List Str) (bs : List Bool) (T : EcT X.K X.mg l) (hg : Gl X "isinstance") (hm : X.mg "isinstance" = none) (hg2 : Gl X x) (hm2 : X.mg x = none) (hv2 : bootBuiltins x = some (.type T')) (ht : isEB X.K l bs (.type T') = true) (he : EB X W e m) (hn2 : x ≠ "__name__" := by decide) (hd2 : (x == ("__debug__" : Str)) = false := by decide)
    (hs1 : starEach [e, .Name x p2] X.env = (false, eval e X.env) :: starEach [.Name x p2] X.env := by rfl) (hs2 : starEach [.Name x p2] X.env = (false, eval (.Name x p2) X.env) :: starEach [] X.env := by rfl) (hpl : (backTo pos (starEach [.Name x p2] X.env)).any (·.1) = false := by rfl) :
    EV X W (.Call (.Name "isinstance" p) [e, .Name x p2] [] pos) (eUn (isiE l bs) m) :=
  pe_weak (pe_callB call_isiE hg hm rfl (pa_cons he (pa_cons (pe_bltn (v := .ty T') hg2 hm2 hv2 rfl hn2 hd2) pa_nil hs2) hs1) (by decide) (by decide) hs1 hpl) (isiE_ok (tc := tC .non) T ht fun u r => r)
def tCs : List V → TA
  | [] => tNil
  | v :: vs => tCons (tC v) (tCs vs)
theorem pa_nil_cs : PA X [] (tCs []) := pa_nil
theorem pa_cons_cs {es : List Expr} {r : List Str} (c : Str) (hg2 : Gl X c) (hC : X.mg c = some (.ref (ga X.K c))) (h : PA X es (tCs (r.map fun c => V.ref (ga X.K c)))) (hd2 : (c == ("__debug__" : Str)) = false := by decide) (hs2 : starEach (.Name c p2 :: es) X.env = (false, eval (.Name c p2) X.env) :: starEach es X.env := by rfl) :
    PA X (.Name c p2 :: es) (tCs ((c :: r).map fun c => V.ref (ga X.K c))) := pa_cons (pe_glob (v := .ref (ga X.K c)) hg2 hC rfl hd2) h hs2
theorem tCs_run : ∀ (vs : List V) {σ : L2.St} {H : Hp} {Q : List V → Hp → Prop}, Q vs H → tCs vs σ H Q
  | [], _, _, _, q => q
  | v :: vs, σ, H, Q, q => by
    have h : tCs vs σ H fun xs H2 => Q (v :: xs) H2 := tCs_run vs (Q := fun xs H2 => Q (v :: xs) H2) q
    exact h
theorem cs_vals {K : PySem.W.Frag} : ∀ {cs : List Str} {us : List Value}, Vals (cs.map fun c => V.ref (ga K c)) us → us = cs.map fun c => Value.ref (ga K c)
  | [], _, h => by cases h; rfl
  | c :: cs, _, h => by
    cases h with
    | cons r t =>
      cases r
      rw [cs_vals t]
      rfl
theorem isiET_ok (T : EcT X.K X.mg l) (hl : cs.length ≤ 1000) (ht : isETB X.K l bs cs = true) : ∀ σ H Q, tE (jx X W) (eUn (isiE l bs) m) σ H Q → tCB (rIsiET X.K) (tCons (tB (jx X W) m) (tCons (tTup (tCs (cs.map fun c => V.ref (ga X.K c)))) tNil)) σ H Q := fun σ H Q ⟨ρ, τ, A, F0, F, Z, w, s, q⟩ =>
  ⟨ρ, τ, A, F0, F, Z, w, s, After.next q fun d τ1 H1 Z1 w1 e1 q1 v rv => by
    obtain ⟨z, hz, q2⟩ := After.of q1
    obtain ⟨a, dx, fs, c, b, rfl, h2, h3, hc, hm, rfl⟩ := isiE_at T w1.zh rv hz
    refine tCs_run _ ⟨by rw [List.length_map, sizeLine_eq]; omega, fun p hp => ?_⟩
    have w2 := w1.alloc (o := .tup (cs.map fun c => V.ref (ga X.K c))) hp rfl
    have n1 : a ≠ p := fun z => by rw [z, hp] at h2; cases h2
    have n2 : dx ≠ p := fun z => by rw [z, hp] at h3; cases h3
    exact ⟨a, _, dx, p, fs, _, _, b, rfl, by rw [upd_ne n1]; exact h2, by rw [upd_ne n2]; exact h3, (T.ex c hc).1, upd_same, fun us r => cs_vals r, beq_iff_eq.mp (List.all_eq_true.mp ht (c, b) hm),
      q2 _ _ w2 (same_new (none_of_same w1.zh hp)) _ (rep_bl.mpr rfl)⟩⟩
theorem ev_isiET {es : List Expr} {j : Nat} (cs l : List Str) (bs : List Bool) (T : EcT X.K X.mg l) (hg : Gl X "isinstance") (hm : X.mg "isinstance" = none) (hcs : PA X es (tCs (cs.map fun c => V.ref (ga X.K c)))) (ht : isETB X.K l bs cs = true) (he : EB X W e m) (hl : cs.length ≤ 1000 := by decide)
    (hs1 : starEach [e, .Tuple es j pt] X.env = (false, eval e X.env) :: starEach [.Tuple es j pt] X.env := by rfl) (hs2 : starEach [.Tuple es j pt] X.env = (false, eval (.Tuple es j pt) X.env) :: starEach [] X.env := by rfl) (hpl : (backTo pos (starEach [.Tuple es j pt] X.env)).any (·.1) = false := by rfl) :
    EV X W (.Call (.Name "isinstance" p) [e, .Tuple es j pt] [] pos) (eUn (isiE l bs) m) :=
  pe_weak (pe_callB call_isiET hg hm rfl (pa_cons he (pa_cons (pe_tup hcs) pa_nil hs2) hs1) (by decide) (by decide) hs1 hpl) (isiET_ok T hl ht)
end
section
variable {P : Program} {w : World} {K : PySem.W.Frag} {mg : Str → Option Value} {base : Heap} {x qual tag p p' : Str} {st : Stmt} {fd : FuncData} {fs : List Str} {j : Nat} {p1 p2 p3 p4 q1 q2 q3 q4 r1 r2 r3 r4 : Pos}
theorem kwb {f : Addr} {params : Arguments} {body : List Stmt} {scope : Scope} {u : Value} {kw : List (Str × Value)} {b : List (Str × Value)} (F : FunD K x qual params body scope [] [] f fd) (h : ∀ (kV doc pm : Value) (an : Option Addr) (cdv ct : Value), bindArgs (PySem.W.fnOf x qual params body scope .none kV doc pm an cdv ct) ⟨[u], kw⟩ = pure b) (s : Shared) : BindsTo s fd ⟨[u], kw⟩ b := by
  obtain ⟨oc, od, dV, kV, doc, pm, an, cdv, ct, osl, rfl, lk, hcd, hD, hK⟩ := F.ex
  rcases hD with ⟨_, rfl⟩ | ⟨e, _⟩
  · exact BindsTo.of_looks fun M => by rw [h]; exact .now
  · exact absurd rfl e
theorem ezV0 (h : errB K x ["tag"] = true) (hm : mg x = some (.ref (ga K x))) (F : FunD K "__init__" qual (defArgs st) (defBody st) (defScope st) [] [] (ma K (ga K x) "__init__") fd) (S : FnScope ["self"] ["self"] (defScope st))
    (hb : defBody st = [.Assign [.Attribute (.Name "self" p1) "tag" p2] (.Constant (.str tag) j p3) p4])
    (hbi : ∀ (kV doc pm : Value) (an : Option Addr) (cdv ct : Value) (us : List Value), us.length = 1 → bindArgs (PySem.W.fnOf "__init__" qual (defArgs st) (defBody st) (defScope st) .none kV doc pm an cdv ct) ⟨us, []⟩ = pure ((["self"] : List Str).zip us))
    (hv : Vis (defScope st) "self" := by first | exact Or.inl rfl | exact Or.inr (Or.inl rfl)) :
    Ez P w K mg base x 0 ["tag"] (fun _ => [.str tag]) [] :=
  have i := initB_ok (He.ba (He.ba h).2).1
  have T := oexB_ok (He.ba h).1
  ⟨⟨_, fd, _, _, _, i.1, i.2, ok_init0 (fun_of F) S hb hv (errB_no h (by simp)), F.bindsN hbi, fun s u ws _ hw => match ws, hw with | [], _ => kwb F (fun kV doc pm an cdv ct => hbi kV doc pm an cdv ct [u] rfl) s, store0, spE_ve T⟩, exk_ve T, hm⟩
theorem ezL0 (h : errLB K x ["tag"] = true) (hm : mg x = some (.ref (ga K x))) (F : FunD K "__init__" qual (defArgs st) (defBody st) (defScope st) [] [] (ma K (ga K x) "__init__") fd) (S : FnScope ["self"] ["self"] (defScope st))
    (hb : defBody st = [.Assign [.Attribute (.Name "self" p1) "tag" p2] (.Constant (.str tag) j p3) p4])
    (hbi : ∀ (kV doc pm : Value) (an : Option Addr) (cdv ct : Value) (us : List Value), us.length = 1 → bindArgs (PySem.W.fnOf "__init__" qual (defArgs st) (defBody st) (defScope st) .none kV doc pm an cdv ct) ⟨us, []⟩ = pure ((["self"] : List Str).zip us))
    (hv : Vis (defScope st) "self" := by first | exact Or.inl rfl | exact Or.inr (Or.inl rfl)) :
    Ez P w K mg base x 0 ["tag"] (fun _ => [.str tag]) [] := by
  have i := initB_ok (He.ba (He.ba h).2).1
  have T := lkcB_ok (He.ba h).1
  have n1 := errLB_no h (f := "tag") (by simp)
  have F1 : FnOk P w K mg base CX0 1 (ma K (ga K x) "__init__") fd ["self"] (SpLk K (ga K x) 0 fun _ => [("tag", .str tag)]) := by
    refine (fun_of F).ok S (fun vs H Q E h => h.1) (fun cdv A outer s H vs Q E hr h => ?_)
    obtain ⟨hl, a, rest, rfl, T, ha, q⟩ := h
    rw [hb]
    refine ⟨_, pss_one (ps_lk (pe_var (i := 0) rfl hv) pe_str), ?_⟩
    refine ⟨.ref a, rfl, a, _, rfl, T, n1, .inl ⟨ha, fun d hd hda => ?_⟩⟩
    exact q d _ hd hda (fun b h1 h2 => by rw [upd_ne h1, upd_ne h2]) upd_same (by rw [upd_ne hda, upd_same])
  exact ⟨⟨_, fd, _, _, _, i.1, i.2, F1, F.bindsN hbi, fun s u ws _ hw => match ws, hw with | [], _ => kwb F (fun kV doc pm an cdv ct => hbi kV doc pm an cdv ct [u] rfl) s, store0, spE_le T⟩, exk_le T, hm⟩
theorem ezV1 (h : errB K x ["tag", p] = true) (hm : mg x = some (.ref (ga K x))) (F : FunD K "__init__" qual (defArgs st) (defBody st) (defScope st) [] [] (ma K (ga K x) "__init__") fd) (S : FnScope ["self", p] ["self", p] (defScope st))
    (hb : defBody st = [.Assign [.Attribute (.Name "self" p1) "tag" p2] (.Constant (.str tag) j p3) p4, .Assign [.Attribute (.Name "self" q1) p q2] (.Name p q3) q4])
    (hbi : ∀ (kV doc pm : Value) (an : Option Addr) (cdv ct : Value) (us : List Value), us.length = 2 → bindArgs (PySem.W.fnOf "__init__" qual (defArgs st) (defBody st) (defScope st) .none kV doc pm an cdv ct) ⟨us, []⟩ = pure ((["self", p] : List Str).zip us))
    (hbk : ∀ (kV doc pm : Value) (an : Option Addr) (cdv ct u y : Value), bindArgs (PySem.W.fnOf "__init__" qual (defArgs st) (defBody st) (defScope st) .none kV doc pm an cdv ct) ⟨[u], [(p, y)]⟩ = pure ((["self", p] : List Str).zip [u, y]))
    (hv : Vis (defScope st) "self" := by first | exact Or.inl rfl | exact Or.inr (Or.inl rfl)) (hp : Vis (defScope st) p := by first | exact Or.inl rfl | exact Or.inr (Or.inl rfl)) (hd1 : (p == ("__debug__" : Str)) = false := by decide) (hd2 : (p == ("__classdict__" : Str)) = false := by decide) :
    Ez P w K mg base x 1 [p, "tag"] (fun ds => [ds.getD 0 .non, .str tag]) [p] :=
  have i := initB_ok (He.ba (He.ba h).2).1
  have T := oexB_ok (He.ba h).1
  ⟨⟨_, fd, _, _, _, i.1, i.2, ok_init1 (fun_of F) S hb hv hp hd1 hd2 (errB_no h (by simp)) (errB_no h (by simp)), F.bindsN hbi, fun s u ws _ hw => match ws, hw with | [y], _ => kwb F (fun kV doc pm an cdv ct => hbk kV doc pm an cdv ct u y) s, store1, spE_ve T⟩, exk_ve T, hm⟩
theorem ezL1 (h : errLB K x ["tag", p] = true) (hm : mg x = some (.ref (ga K x))) (F : FunD K "__init__" qual (defArgs st) (defBody st) (defScope st) [] [] (ma K (ga K x) "__init__") fd) (S : FnScope ["self", p] ["self", p] (defScope st))
    (hb : defBody st = [.Assign [.Attribute (.Name "self" p1) "tag" p2] (.Constant (.str tag) j p3) p4, .Assign [.Attribute (.Name "self" q1) p q2] (.Name p q3) q4])
    (hbi : ∀ (kV doc pm : Value) (an : Option Addr) (cdv ct : Value) (us : List Value), us.length = 2 → bindArgs (PySem.W.fnOf "__init__" qual (defArgs st) (defBody st) (defScope st) .none kV doc pm an cdv ct) ⟨us, []⟩ = pure ((["self", p] : List Str).zip us))
    (hbk : ∀ (kV doc pm : Value) (an : Option Addr) (cdv ct u y : Value), bindArgs (PySem.W.fnOf "__init__" qual (defArgs st) (defBody st) (defScope st) .none kV doc pm an cdv ct) ⟨[u], [(p, y)]⟩ = pure ((["self", p] : List Str).zip [u, y]))
    (hv : Vis (defScope st) "self" := by first | exact Or.inl rfl | exact Or.inr (Or.inl rfl)) (hp : Vis (defScope st) p := by first | exact Or.inl rfl | exact Or.inr (Or.inl rfl)) (hd1 : (p == ("__debug__" : Str)) = false := by decide) (hd2 : (p == ("__classdict__" : Str)) = false := by decide) :
    Ez P w K mg base x 1 [p, "tag"] (fun ds => [ds.getD 0 .non, .str tag]) [p] :=
  have i := initB_ok (He.ba (He.ba h).2).1
  have T := lkcB_ok (He.ba h).1
  ⟨⟨_, fd, _, _, _, i.1, i.2, ok_lk1 (fun_of F) S hb hv hp hd1 hd2 (errLB_no h (by simp)) (errLB_no h (by simp)), F.bindsN hbi, fun s u ws _ hw => match ws, hw with | [y], _ => kwb F (fun kV doc pm an cdv ct => hbk kV doc pm an cdv ct u y) s, store1, spE_le T⟩, exk_le T, hm⟩
theorem ezV2 (h : errB K x ["tag", p, p'] = true) (hm : mg x = some (.ref (ga K x))) (F : FunD K "__init__" qual (defArgs st) (defBody st) (defScope st) [] [] (ma K (ga K x) "__init__") fd) (S : FnScope ["self", p, p'] ["self", p, p'] (defScope st))
    (hb : defBody st = [.Assign [.Attribute (.Name "self" p1) "tag" p2] (.Constant (.str tag) j p3) p4, .Assign [.Attribute (.Name "self" q1) p q2] (.Name p q3) q4, .Assign [.Attribute (.Name "self" r1) p' r2] (.Name p' r3) r4])
    (hbi : ∀ (kV doc pm : Value) (an : Option Addr) (cdv ct : Value) (us : List Value), us.length = 3 → bindArgs (PySem.W.fnOf "__init__" qual (defArgs st) (defBody st) (defScope st) .none kV doc pm an cdv ct) ⟨us, []⟩ = pure ((["self", p, p'] : List Str).zip us))
    (hbk : ∀ (kV doc pm : Value) (an : Option Addr) (cdv ct u y z : Value), bindArgs (PySem.W.fnOf "__init__" qual (defArgs st) (defBody st) (defScope st) .none kV doc pm an cdv ct) ⟨[u], [(p', y), (p, z)]⟩ = pure ((["self", p, p'] : List Str).zip [u, z, y]))
    (hv : Vis (defScope st) "self" := by first | exact Or.inl rfl | exact Or.inr (Or.inl rfl)) (hp : Vis (defScope st) p := by first | exact Or.inl rfl | exact Or.inr (Or.inl rfl)) (hp' : Vis (defScope st) p' := by first | exact Or.inl rfl | exact Or.inr (Or.inl rfl)) (hd1 : (p == ("__debug__" : Str)) = false := by decide) (hd2 : (p == ("__classdict__" : Str)) = false := by decide) (hd3 : (p' == ("__debug__" : Str)) = false := by decide) (hd4 : (p' == ("__classdict__" : Str)) = false := by decide) :
    Ez P w K mg base x 2 [p', p, "tag"] (fun ds => [ds.getD 1 .non, ds.getD 0 .non, .str tag]) [p', p] :=
  have i := initB_ok (He.ba (He.ba h).2).1
  have T := oexB_ok (He.ba h).1
  ⟨⟨_, fd, _, _, _, i.1, i.2, ok_init2 (fun_of F) S hb hv hp hp' hd1 hd2 hd3 hd4 (errB_no h (by simp)) (errB_no h (by simp)) (errB_no h (by simp)), F.bindsN hbi, fun s u ws _ hw => match ws, hw with | [y, z], _ => kwb F (fun kV doc pm an cdv ct => hbk kV doc pm an cdv ct u y z) s, store2, spE_ve T⟩, exk_ve T, hm⟩
end
end Hw
namespace Cm
open PySem PySem.Spec L2 Hw
def lb_l_bag_0 : SS := sSet 1 (eBin dMod (eBin dAdd (eBin dAdd (eBin dMul (eVarB 1) (eC (.int 60811))) (eBin dMod (eVarB 2) (eC (.int 2147483579)))) (eC (.int 23))) (eC (.int 2147483647)))
def b_l_bag : SS := sSeq (sSet 1 (eC (.int 9477)))
    (sSeq (sFor (iSqS (eSl dSl (eVarB 0) (oNo) (oSo (eC (.int 63))))) (gN 2) lb_l_bag_0)
    (sRet (eLst (aCons (eCallB cList (aCons (eSl dSl (eVarB 0) (oNo) (oSo (eC (.int 63)))) (aNil))) (aCons (eC (.int 0)) (aCons (eC (.int 0)) (aCons (eVar 1) (aCons (eC (.int 0)) (aNil)))))))))
def m_l_bag : MF := runB true 3 b_l_bag
def b_l_take : SS := sSeq (sIf (tAnd (tOf (eBin dEq (eIoIx 0 2) (eC (.int 0)))) (tOf (eBin dLt (eIoIx 0 1) (eCallB cLen (aCons (eIoIx 0 0) (aNil)))))) (sSeq (sSet 2 (eBin dIx (eIoIx 0 0) (eIoIx 0 1)))
    (sSeq (sPut 0 (eC (.int 1)) (eBin dAdd (eIoIx 0 1) (eC (.int 1))))
    (sIf (tOf (eBin dGe (eVarB 2) (eBin dPow (eC (.int 10)) (eC (.int 18))))) (sPut 0 (eC (.int 2)) (eVar 2)) (sPut 0 (eC (.int 3)) (eBin dMod (eBin dAdd (eBin dAdd (eBin dMul (eIoIx 0 3) (eC (.int 40013))) (eBin dMod (eVarB 2) (eC (.int 2147483563)))) (eC (.int 7))) (eC (.int 2147483647))))))) (sNext))
    (sSeq (sIf (tOf (eBin dGt (eIoIx 0 2) (eC (.int 0)))) (sSeq (sSet 3 (eBin dMod (eIoIx 0 2) (eVarB 1)))
    (sSeq (sPut 0 (eC (.int 2)) (eBin dFdiv (eIoIx 0 2) (eVarB 1)))
    (sRet (eVar 3)))) (sNext))
    (sSeq (sPut 0 (eC (.int 4)) (eBin dAdd (eIoIx 0 4) (eC (.int 1))))
    (sSeq (sSet 4 (eBin dMod (eBin dAdd (eIoIx 0 3) (eBin dMul (eIoIx 0 4) (eC (.int 9241)))) (eC (.int 2147483647))))
    (sSeq (sPut 0 (eC (.int 3)) (eBin dMod (eBin dAdd (eBin dAdd (eBin dPow (eVarB 4) (eC (.int 3))) (eBin dMul (eC (.int 50021)) (eVarB 4))) (eC (.int 4099))) (eC (.int 2147483647))))
    (sRet (eBin dMod (eBin dAdd (eBin dFdiv (eIoIx 0 3) (eC (.int 67))) (eBin dMul (eBin dMod (eIoIx 0 3) (eC (.int 7919))) (eC (.int 37)))) (eVarB 1)))))))
def m_l_take : MF := runB false 5 b_l_take
def b_l_alike (G : MF) : SS := sSeq (sIf (tOr (tOf (eBin dIsN (eVarB 1) (eC .non))) (tOf (eBin dIsN (eVarB 0) (eC .non)))) (sRet (eAnd (eBin dIsN (eVarB 0) (eC .non)) (eBin dIsN (eVarB 1) (eC .non)))) (sNext))
    (sSeq (sIf (tOr (tOf (eUn (isiD "list") (eVarB 1))) (tOf (eUn (isiD "tuple") (eVarB 1)))) (sSeq (sIf (tOr (tOf (eBin dNe (eUn (isiD "list") (eVarB 1)) (eUn (isiD "list") (eVarB 0)))) (tOf (eBin dNe (eUn (isiD "tuple") (eVarB 1)) (eUn (isiD "tuple") (eVarB 0))))) (sRet (eC (.bl false))) (sNext))
    (sSeq (sIf (tOf (eBin dNe (eCallB cLen (aCons (eVarB 0) (aNil))) (eCallB cLen (aCons (eVarB 1) (aNil))))) (sRet (eC (.bl false))) (sNext))
    (sRet (eCallB cAll (aCons (eLc (iRng1 (aCons (eCallB cLen (aCons (eVarB 1) (aNil))) (aNil))) (gN 2) [2] (tYes) (eCall G (rCons (eBin dIx (eVarB 0) (eVarB 2)) (rCons (eBin dIx (eVarB 1) (eVarB 2)) (rNil))))) (aNil)))))) (sNext))
    (sSeq (sIf (tOr (tOf (eBin dNe (eUn (isiD "bool") (eVarB 1)) (eUn (isiD "bool") (eVarB 0)))) (tOf (eBin dNe (eUn (isiD "int") (eVarB 1)) (eUn (isiD "int") (eVarB 0))))) (sRet (eC (.bl false))) (sNext))
    (sRet (eAnd (eBin dEq (eUn (isiD "str") (eVarB 1)) (eUn (isiD "str") (eVarB 0))) (eBin dEq (eVarB 0) (eVarB 1))))))
def m_l_alike : Nat → MF
  | 0 => fun _ _ => .bad
  | n + 1 => runB false 3 (b_l_alike (m_l_alike n))
end Cm
namespace Cm
open PySem PySem.Spec L2 Hw
end Cm
set_option maxHeartbeats 0
namespace K01
open PySem PySem.Spec L2 Hw Cm
open PyProof.Rows (envOfC)
open He (Fa DefD ga ma fAd cT)
abbrev SX (K : PySem.W.Frag) (mg : Str → Option Value) : Prop := Sx fa fn (fun K => exL.all fun t => t K) K mg
def LT (K : PySem.W.Frag) : List (Addr × Str) := []
section
variable [Tb] {P : Program} {w : World} {K : PySem.W.Frag} {mg : Str → Option Value} {base : Heap}
theorem ez_Apart (c : SX K mg) : Ez P w K mg base "Apart" 0 ["tag"] (fun _ => [.str "Apart"]) [] := by
  obtain ⟨fd, F⟩ := c.d.def_ 9
  exact ezV0 (st := s_Apart_init) (c.tst 54) (c.glo 11) F ⟨rfl, rfl, rfl, by decide +kernel, rfl, by decide +kernel, by decide +kernel⟩ rfl (fun _ _ _ _ _ _ us hl => match us, hl with | [_], _ => rfl)
theorem ez_BadColors (c : SX K mg) : Ez P w K mg base "BadColors" 0 ["tag"] (fun _ => [.str "BadColors"]) [] := by
  obtain ⟨fd, F⟩ := c.d.def_ 10
  exact ezV0 (st := s_BadColors_init) (c.tst 55) (c.glo 8) F ⟨rfl, rfl, rfl, by decide +kernel, rfl, by decide +kernel, by decide +kernel⟩ rfl (fun _ _ _ _ _ _ us hl => match us, hl with | [_], _ => rfl)
theorem ez_BadDeed (c : SX K mg) : Ez P w K mg base "BadDeed" 0 ["tag"] (fun _ => [.str "BadDeed"]) [] := by
  obtain ⟨fd, F⟩ := c.d.def_ 11
  exact ezV0 (st := s_BadDeed_init) (c.tst 56) (c.glo 22) F ⟨rfl, rfl, rfl, by decide +kernel, rfl, by decide +kernel, by decide +kernel⟩ rfl (fun _ _ _ _ _ _ us hl => match us, hl with | [_], _ => rfl)
theorem ez_BadDegree (c : SX K mg) : Ez P w K mg base "BadDegree" 0 ["tag"] (fun _ => [.str "BadDegree"]) [] := by
  obtain ⟨fd, F⟩ := c.d.def_ 12
  exact ezV0 (st := s_BadDegree_init) (c.tst 57) (c.glo 9) F ⟨rfl, rfl, rfl, by decide +kernel, rfl, by decide +kernel, by decide +kernel⟩ rfl (fun _ _ _ _ _ _ us hl => match us, hl with | [_], _ => rfl)
theorem ez_BadKind (c : SX K mg) : Ez P w K mg base "BadKind" 0 ["tag"] (fun _ => [.str "BadKind"]) [] := by
  obtain ⟨fd, F⟩ := c.d.def_ 13
  exact ezV0 (st := s_BadKind_init) (c.tst 58) (c.glo 21) F ⟨rfl, rfl, rfl, by decide +kernel, rfl, by decide +kernel, by decide +kernel⟩ rfl (fun _ _ _ _ _ _ us hl => match us, hl with | [_], _ => rfl)
theorem ez_BadName (c : SX K mg) : Ez P w K mg base "BadName" 0 ["tag"] (fun _ => [.str "BadName"]) [] := by
  obtain ⟨fd, F⟩ := c.d.def_ 14
  exact ezV0 (st := s_BadName_init) (c.tst 59) (c.glo 20) F ⟨rfl, rfl, rfl, by decide +kernel, rfl, by decide +kernel, by decide +kernel⟩ rfl (fun _ _ _ _ _ _ us hl => match us, hl with | [_], _ => rfl)
theorem ez_BadNet (c : SX K mg) : Ez P w K mg base "BadNet" 1 ["fault", "tag"] (fun ds => [ds.getD 0 .non, .str "BadNet"]) ["fault"] := by
  obtain ⟨fd, F⟩ := c.d.def_ 15
  exact ezV1 (st := s_BadNet_init) (c.tst 60) (c.glo 5) F ⟨rfl, rfl, rfl, by decide +kernel, rfl, by decide +kernel, by decide +kernel⟩ rfl (fun _ _ _ _ _ _ us hl => match us, hl with | [_, _], _ => rfl) (fun _ _ _ _ _ _ _ _ => rfl)
theorem ez_BadNumber (c : SX K mg) : Ez P w K mg base "BadNumber" 1 ["number", "tag"] (fun ds => [ds.getD 0 .non, .str "BadNumber"]) ["number"] := by
  obtain ⟨fd, F⟩ := c.d.def_ 16
  exact ezV1 (st := s_BadNumber_init) (c.tst 61) (c.glo 3) F ⟨rfl, rfl, rfl, by decide +kernel, rfl, by decide +kernel, by decide +kernel⟩ rfl (fun _ _ _ _ _ _ us hl => match us, hl with | [_, _], _ => rfl) (fun _ _ _ _ _ _ _ _ => rfl)
theorem ez_BadPath (c : SX K mg) : Ez P w K mg base "BadPath" 1 ["at", "tag"] (fun ds => [ds.getD 0 .non, .str "BadPath"]) ["at"] := by
  obtain ⟨fd, F⟩ := c.d.def_ 17
  exact ezV1 (st := s_BadPath_init) (c.tst 62) (c.glo 6) F ⟨rfl, rfl, rfl, by decide +kernel, rfl, by decide +kernel, by decide +kernel⟩ rfl (fun _ _ _ _ _ _ us hl => match us, hl with | [_, _], _ => rfl) (fun _ _ _ _ _ _ _ _ => rfl)
theorem ez_BadPosition (c : SX K mg) : Ez P w K mg base "BadPosition" 0 ["tag"] (fun _ => [.str "BadPosition"]) [] := by
  obtain ⟨fd, F⟩ := c.d.def_ 18
  exact ezV0 (st := s_BadPosition_init) (c.tst 63) (c.glo 10) F ⟨rfl, rfl, rfl, by decide +kernel, rfl, by decide +kernel, by decide +kernel⟩ rfl (fun _ _ _ _ _ _ us hl => match us, hl with | [_], _ => rfl)
theorem ez_BadStep (c : SX K mg) : Ez P w K mg base "BadStep" 1 ["at", "tag"] (fun ds => [ds.getD 0 .non, .str "BadStep"]) ["at"] := by
  obtain ⟨fd, F⟩ := c.d.def_ 19
  exact ezV1 (st := s_BadStep_init) (c.tst 64) (c.glo 7) F ⟨rfl, rfl, rfl, by decide +kernel, rfl, by decide +kernel, by decide +kernel⟩ rfl (fun _ _ _ _ _ _ us hl => match us, hl with | [_, _], _ => rfl) (fun _ _ _ _ _ _ _ _ => rfl)
theorem ez_BadText (c : SX K mg) : Ez P w K mg base "BadText" 1 ["row", "tag"] (fun ds => [ds.getD 0 .non, .str "BadText"]) ["row"] := by
  obtain ⟨fd, F⟩ := c.d.def_ 20
  exact ezV1 (st := s_BadText_init) (c.tst 65) (c.glo 27) F ⟨rfl, rfl, rfl, by decide +kernel, rfl, by decide +kernel, by decide +kernel⟩ rfl (fun _ _ _ _ _ _ us hl => match us, hl with | [_, _], _ => rfl) (fun _ _ _ _ _ _ _ _ => rfl)
theorem ez_BadWeight (c : SX K mg) : Ez P w K mg base "BadWeight" 1 ["at", "tag"] (fun ds => [ds.getD 0 .non, .str "BadWeight"]) ["at"] := by
  obtain ⟨fd, F⟩ := c.d.def_ 21
  exact ezV1 (st := s_BadWeight_init) (c.tst 66) (c.glo 17) F ⟨rfl, rfl, rfl, by decide +kernel, rfl, by decide +kernel, by decide +kernel⟩ rfl (fun _ _ _ _ _ _ us hl => match us, hl with | [_, _], _ => rfl) (fun _ _ _ _ _ _ _ _ => rfl)
theorem ez_Bare (c : SX K mg) : Ez P w K mg base "Bare" 1 ["color", "tag"] (fun ds => [ds.getD 0 .non, .str "Bare"]) ["color"] := by
  obtain ⟨fd, F⟩ := c.d.def_ 22
  exact ezV1 (st := s_Bare_init) (c.tst 67) (c.glo 14) F ⟨rfl, rfl, rfl, by decide +kernel, rfl, by decide +kernel, by decide +kernel⟩ rfl (fun _ _ _ _ _ _ us hl => match us, hl with | [_, _], _ => rfl) (fun _ _ _ _ _ _ _ _ => rfl)
theorem ez_Broken (c : SX K mg) : Ez P w K mg base "Broken" 1 ["name", "tag"] (fun ds => [ds.getD 0 .non, .str "Broken"]) ["name"] := by
  obtain ⟨fd, F⟩ := c.d.def_ 23
  exact ezV1 (st := s_Broken_init) (c.tst 68) (c.glo 25) F ⟨rfl, rfl, rfl, by decide +kernel, rfl, by decide +kernel, by decide +kernel⟩ rfl (fun _ _ _ _ _ _ us hl => match us, hl with | [_, _], _ => rfl) (fun _ _ _ _ _ _ _ _ => rfl)
theorem ez_Full (c : SX K mg) : Ez P w K mg base "Full" 1 ["bound", "tag"] (fun ds => [ds.getD 0 .non, .str "Full"]) ["bound"] := by
  obtain ⟨fd, F⟩ := c.d.def_ 24
  exact ezV1 (st := s_Full_init) (c.tst 69) (c.glo 4) F ⟨rfl, rfl, rfl, by decide +kernel, rfl, by decide +kernel, by decide +kernel⟩ rfl (fun _ _ _ _ _ _ us hl => match us, hl with | [_, _], _ => rfl) (fun _ _ _ _ _ _ _ _ => rfl)
theorem ez_InUse (c : SX K mg) : Ez P w K mg base "InUse" 1 ["by", "tag"] (fun ds => [ds.getD 0 .non, .str "InUse"]) ["by"] := by
  obtain ⟨fd, F⟩ := c.d.def_ 25
  exact ezV1 (st := s_InUse_init) (c.tst 70) (c.glo 23) F ⟨rfl, rfl, rfl, by decide +kernel, rfl, by decide +kernel, by decide +kernel⟩ rfl (fun _ _ _ _ _ _ us hl => match us, hl with | [_, _], _ => rfl) (fun _ _ _ _ _ _ _ _ => rfl)
theorem ez_NoBeginning (c : SX K mg) : Ez P w K mg base "NoBeginning" 0 ["tag"] (fun _ => [.str "NoBeginning"]) [] := by
  obtain ⟨fd, F⟩ := c.d.def_ 26
  exact ezV0 (st := s_NoBeginning_init) (c.tst 71) (c.glo 15) F ⟨rfl, rfl, rfl, by decide +kernel, rfl, by decide +kernel, by decide +kernel⟩ rfl (fun _ _ _ _ _ _ us hl => match us, hl with | [_], _ => rfl)
theorem ez_NoEdge (c : SX K mg) : Ez P w K mg base "NoEdge" 1 ["edge", "tag"] (fun ds => [ds.getD 0 .non, .str "NoEdge"]) ["edge"] := by
  obtain ⟨fd, F⟩ := c.d.def_ 27
  exact ezL1 (st := s_NoEdge_init) (c.tst 72) (c.glo 29) F ⟨rfl, rfl, rfl, by decide +kernel, rfl, by decide +kernel, by decide +kernel⟩ rfl (fun _ _ _ _ _ _ us hl => match us, hl with | [_, _], _ => rfl) (fun _ _ _ _ _ _ _ _ => rfl)
theorem ez_NoNet (c : SX K mg) : Ez P w K mg base "NoNet" 1 ["name", "tag"] (fun ds => [ds.getD 0 .non, .str "NoNet"]) ["name"] := by
  obtain ⟨fd, F⟩ := c.d.def_ 28
  exact ezL1 (st := s_NoNet_init) (c.tst 73) (c.glo 30) F ⟨rfl, rfl, rfl, by decide +kernel, rfl, by decide +kernel, by decide +kernel⟩ rfl (fun _ _ _ _ _ _ us hl => match us, hl with | [_, _], _ => rfl) (fun _ _ _ _ _ _ _ _ => rfl)
theorem ez_NoNode (c : SX K mg) : Ez P w K mg base "NoNode" 1 ["node", "tag"] (fun ds => [ds.getD 0 .non, .str "NoNode"]) ["node"] := by
  obtain ⟨fd, F⟩ := c.d.def_ 29
  exact ezL1 (st := s_NoNode_init) (c.tst 74) (c.glo 28) F ⟨rfl, rfl, rfl, by decide +kernel, rfl, by decide +kernel, by decide +kernel⟩ rfl (fun _ _ _ _ _ _ us hl => match us, hl with | [_, _], _ => rfl) (fun _ _ _ _ _ _ _ _ => rfl)
theorem ez_NoPath (c : SX K mg) : Ez P w K mg base "NoPath" 1 ["name", "tag"] (fun ds => [ds.getD 0 .non, .str "NoPath"]) ["name"] := by
  obtain ⟨fd, F⟩ := c.d.def_ 30
  exact ezL1 (st := s_NoPath_init) (c.tst 75) (c.glo 31) F ⟨rfl, rfl, rfl, by decide +kernel, rfl, by decide +kernel, by decide +kernel⟩ rfl (fun _ _ _ _ _ _ us hl => match us, hl with | [_, _], _ => rfl) (fun _ _ _ _ _ _ _ _ => rfl)
theorem ez_NoSwap (c : SX K mg) : Ez P w K mg base "NoSwap" 0 ["tag"] (fun _ => [.str "NoSwap"]) [] := by
  obtain ⟨fd, F⟩ := c.d.def_ 31
  exact ezL0 (st := s_NoSwap_init) (c.tst 76) (c.glo 35) F ⟨rfl, rfl, rfl, by decide +kernel, rfl, by decide +kernel, by decide +kernel⟩ rfl (fun _ _ _ _ _ _ us hl => match us, hl with | [_], _ => rfl)
theorem ez_NoTiling (c : SX K mg) : Ez P w K mg base "NoTiling" 1 ["name", "tag"] (fun ds => [ds.getD 0 .non, .str "NoTiling"]) ["name"] := by
  obtain ⟨fd, F⟩ := c.d.def_ 32
  exact ezL1 (st := s_NoTiling_init) (c.tst 77) (c.glo 32) F ⟨rfl, rfl, rfl, by decide +kernel, rfl, by decide +kernel, by decide +kernel⟩ rfl (fun _ _ _ _ _ _ us hl => match us, hl with | [_, _], _ => rfl) (fun _ _ _ _ _ _ _ _ => rfl)
theorem ez_NoWatch (c : SX K mg) : Ez P w K mg base "NoWatch" 1 ["number", "tag"] (fun ds => [ds.getD 0 .non, .str "NoWatch"]) ["number"] := by
  obtain ⟨fd, F⟩ := c.d.def_ 33
  exact ezL1 (st := s_NoWatch_init) (c.tst 78) (c.glo 33) F ⟨rfl, rfl, rfl, by decide +kernel, rfl, by decide +kernel, by decide +kernel⟩ rfl (fun _ _ _ _ _ _ us hl => match us, hl with | [_, _], _ => rfl) (fun _ _ _ _ _ _ _ _ => rfl)
theorem ez_NotClosed (c : SX K mg) : Ez P w K mg base "NotClosed" 0 ["tag"] (fun _ => [.str "NotClosed"]) [] := by
  obtain ⟨fd, F⟩ := c.d.def_ 34
  exact ezV0 (st := s_NotClosed_init) (c.tst 79) (c.glo 13) F ⟨rfl, rfl, rfl, by decide +kernel, rfl, by decide +kernel, by decide +kernel⟩ rfl (fun _ _ _ _ _ _ us hl => match us, hl with | [_], _ => rfl)
theorem ez_NothingLeft (c : SX K mg) : Ez P w K mg base "NothingLeft" 0 ["tag"] (fun _ => [.str "NothingLeft"]) [] := by
  obtain ⟨fd, F⟩ := c.d.def_ 35
  exact ezL0 (st := s_NothingLeft_init) (c.tst 80) (c.glo 34) F ⟨rfl, rfl, rfl, by decide +kernel, rfl, by decide +kernel, by decide +kernel⟩ rfl (fun _ _ _ _ _ _ us hl => match us, hl with | [_], _ => rfl)
theorem ez_OtherNet (c : SX K mg) : Ez P w K mg base "OtherNet" 0 ["tag"] (fun _ => [.str "OtherNet"]) [] := by
  obtain ⟨fd, F⟩ := c.d.def_ 36
  exact ezV0 (st := s_OtherNet_init) (c.tst 81) (c.glo 19) F ⟨rfl, rfl, rfl, by decide +kernel, rfl, by decide +kernel, by decide +kernel⟩ rfl (fun _ _ _ _ _ _ us hl => match us, hl with | [_], _ => rfl)
theorem ez_Stopped (c : SX K mg) : Ez P w K mg base "Stopped" 2 ["cause", "at", "tag"] (fun ds => [ds.getD 1 .non, ds.getD 0 .non, .str "Stopped"]) ["cause", "at"] := by
  obtain ⟨fd, F⟩ := c.d.def_ 37
  exact ezV2 (st := s_Stopped_init) (c.tst 82) (c.glo 26) F ⟨rfl, rfl, rfl, by decide +kernel, rfl, by decide +kernel, by decide +kernel⟩ rfl (fun _ _ _ _ _ _ us hl => match us, hl with | [_, _, _], _ => rfl) (fun _ _ _ _ _ _ _ _ _ => rfl)
theorem ez_TooLong (c : SX K mg) : Ez P w K mg base "TooLong" 0 ["tag"] (fun _ => [.str "TooLong"]) [] := by
  obtain ⟨fd, F⟩ := c.d.def_ 38
  exact ezV0 (st := s_TooLong_init) (c.tst 83) (c.glo 12) F ⟨rfl, rfl, rfl, by decide +kernel, rfl, by decide +kernel, by decide +kernel⟩ rfl (fun _ _ _ _ _ _ us hl => match us, hl with | [_], _ => rfl)
theorem ez_Unbalanced (c : SX K mg) : Ez P w K mg base "Unbalanced" 1 ["at", "tag"] (fun ds => [ds.getD 0 .non, .str "Unbalanced"]) ["at"] := by
  obtain ⟨fd, F⟩ := c.d.def_ 39
  exact ezV1 (st := s_Unbalanced_init) (c.tst 84) (c.glo 18) F ⟨rfl, rfl, rfl, by decide +kernel, rfl, by decide +kernel, by decide +kernel⟩ rfl (fun _ _ _ _ _ _ us hl => match us, hl with | [_, _], _ => rfl) (fun _ _ _ _ _ _ _ _ => rfl)
theorem ez_Uneven (c : SX K mg) : Ez P w K mg base "Uneven" 2 ["last", "first", "tag"] (fun ds => [ds.getD 1 .non, ds.getD 0 .non, .str "Uneven"]) ["last", "first"] := by
  obtain ⟨fd, F⟩ := c.d.def_ 40
  exact ezV2 (st := s_Uneven_init) (c.tst 85) (c.glo 16) F ⟨rfl, rfl, rfl, by decide +kernel, rfl, by decide +kernel, by decide +kernel⟩ rfl (fun _ _ _ _ _ _ us hl => match us, hl with | [_, _, _], _ => rfl) (fun _ _ _ _ _ _ _ _ _ => rfl)
theorem ez_Unsound (c : SX K mg) : Ez P w K mg base "Unsound" 2 ["fault", "name", "tag"] (fun ds => [ds.getD 1 .non, ds.getD 0 .non, .str "Unsound"]) ["fault", "name"] := by
  obtain ⟨fd, F⟩ := c.d.def_ 41
  exact ezV2 (st := s_Unsound_init) (c.tst 86) (c.glo 24) F ⟨rfl, rfl, rfl, by decide +kernel, rfl, by decide +kernel, by decide +kernel⟩ rfl (fun _ _ _ _ _ _ us hl => match us, hl with | [_, _, _], _ => rfl) (fun _ _ _ _ _ _ _ _ _ => rfl)
def excA : List Str := ["Apart", "BadColors", "BadDeed", "BadDegree", "BadKind", "BadName", "BadNet", "BadNumber", "BadPath", "BadPosition", "BadStep", "BadText", "BadWeight", "Bare", "Broken", "Full"]
def excB : List Str := ["InUse", "NoBeginning", "NoEdge", "NoNet", "NoNode", "NoPath", "NoSwap", "NoTiling", "NoWatch", "NotClosed", "NothingLeft", "OtherNet", "Stopped", "TooLong", "Unbalanced", "Uneven", "Unsound"]
def excL : List Str := excA ++ excB
theorem ec (c : SX K mg) : EcT K mg excL := ecT_of (fm_cons (c.glo 11) (fm_cons (c.glo 8) (fm_cons (c.glo 22) (fm_cons (c.glo 9) (fm_cons (c.glo 21) (fm_cons (c.glo 20) (fm_cons (c.glo 5) (fm_cons (c.glo 3) (fm_cons (c.glo 6) (fm_cons (c.glo 10) (fm_cons (c.glo 7) (fm_cons (c.glo 27) (fm_cons (c.glo 17) (fm_cons (c.glo 14) (fm_cons (c.glo 25) (fm_cons (c.glo 4) (fm_cons (c.glo 23) (fm_cons (c.glo 15) (fm_cons (c.glo 29) (fm_cons (c.glo 30) (fm_cons (c.glo 28) (fm_cons (c.glo 31) (fm_cons (c.glo 35) (fm_cons (c.glo 32) (fm_cons (c.glo 33) (fm_cons (c.glo 13) (fm_cons (c.glo 34) (fm_cons (c.glo 19) (fm_cons (c.glo 26) (fm_cons (c.glo 12) (fm_cons (c.glo 18) (fm_cons (c.glo 16) (fm_cons (c.glo 24) (fm_nil)))))))))))))))))))))))))))))))))) (c.tst 87)
abbrev N_l_bag : List Str := ["_law_script", "_law_salt", "_law_cell"]
theorem S_l_bag : FnScope N_l_bag ["_law_script"] (defScope s_l_bag) := ⟨rfl, rfl, rfl, by decide +kernel, rfl, by decide +kernel, by decide +kernel⟩
theorem hb_l_bag (c : SX K mg) (f : Addr) (cdv : Value) (A : Around) (outer : List PySem.Env) (s : Shared) (H : Hp) (E : XK) (hr : Room 0 (A.deeper (envOfC "_law_bag" (defScope s_l_bag) s.heap.objs.size f cdv))) :
    EL (cxOf (Hw.CX P w) P w K mg base N_l_bag "_law_bag" (defScope s_l_bag) f cdv A outer s H E) (WX0 E) true (defBody s_l_bag) (b_l_bag) := by
  have hN := S_l_bag.nd
  refine el_cons ?_ ?_
  · exact es_set 1 (ev_int)
  refine el_cons ?_ ?_
  · refine es_for (eiv_sqS (ev_sl (eb_var 0) (eo_no) (eo_so (ev_int)))) (eg_n (is := [2]) 2) ?_ (passes_of rfl)
    refine el_one ?_
    exact es_set 1 (ev_op op_modN opd_mod (ev_b (ev_op op_addA opd_add (ev_b (ev_op op_addA opd_add (ev_b (ev_op op_mulA opd_mul (eb_var 1) (ev_b (ev_int)))) (ev_b (ev_op op_modN opd_mod (eb_var 2) (ev_b (ev_int)))))) (ev_b (ev_int)))) (ev_b (ev_int)))
  refine el_one ?_
  exact es_retF (ef_lst (eav_cons (by exact ef_v (ef_callT call_list_of cf_list rfl (c.free 0) rfl (ea_cons (ev_b (ev_sl (eb_var 0) (eo_no) (eo_so (ev_int)))) (ea_nil)))) (eav_cons (ev_int) (eav_cons (ev_int) (eav_cons (ev_var 1) (eav_cons (ev_int) (eav_nil)))))))
theorem ok_l_bag (c : SX K mg) : Df P w K mg base 1 "_law_bag" true ["_law_script"] [] m_l_bag := by
  obtain ⟨fd, F⟩ := c.d.def_ 0
  exact df_mk F (defD_ok F S_l_bag (hb_l_bag c _)) (c.glo 46) fun _ _ _ _ _ _ us hl => match us, hl with | [_], _ => rfl
abbrev N_l_take : List Str := ["_law_bag_here", "_law_sides", "_law_cell", "_law_got", "_law_seed"]
theorem S_l_take : FnScope N_l_take ["_law_bag_here", "_law_sides"] (defScope s_l_take) := ⟨rfl, rfl, rfl, by decide +kernel, rfl, by decide +kernel, by decide +kernel⟩
theorem hb_l_take (c : SX K mg) (f : Addr) (cdv : Value) (A : Around) (outer : List PySem.Env) (s : Shared) (H : Hp) (E : XK) (hr : Room 0 (A.deeper (envOfC "_law_take" (defScope s_l_take) s.heap.objs.size f cdv))) :
    EL (cxOf (Hw.CX P w) P w K mg base N_l_take "_law_take" (defScope s_l_take) f cdv A outer s H E) (WX0 E) false (defBody s_l_take) (b_l_take) := by
  have hN := S_l_take.nd
  refine el_cons ?_ ?_
  · refine es_if (PW.pt (ew_and (et_cmp (op_eqD hr.units) opd_eq (ev_b (ev_ioix 0)) (ev_b (ev_int)) rfl) (ew_and1 (et_cmp op_lt opd_cmp (ev_b (ev_ioix 0)) (ev_b (ev_callB call_len cd_len rfl (c.free 1) rfl (ea_cons (ev_b (ev_ioix 0)) (ea_nil)))) rfl)))) ?_ ?_
    · refine el_cons ?_ ?_
      · exact es_set 2 (ev_ix ix_seq opd_ix (ev_b (ev_ioix 0)) (ev_b (ev_ioix 0)))
      refine el_cons ?_ ?_
      · exact es_put 0 (ev_op op_addA opd_add (ev_b (ev_ioix 0)) (ev_b (ev_int))) (ev_b (ev_int))
      refine el_one ?_
      refine es_if (et_cmp op_geV opd_cmp (eb_var 2) (ev_b (ev_op op_pow opd_pow (ev_b (ev_int)) (ev_b (ev_int)))) rfl) ?_ ?_
      · refine el_one ?_
        exact es_put 0 (ev_var 2) (ev_b (ev_int))
      · refine el_one ?_
        exact es_put 0 (ev_op op_modN opd_mod (ev_b (ev_op op_addA opd_add (ev_b (ev_op op_addA opd_add (ev_b (ev_op op_mulA opd_mul (ev_b (ev_ioix 0)) (ev_b (ev_int)))) (ev_b (ev_op op_modN opd_mod (eb_var 2) (ev_b (ev_int)))))) (ev_b (ev_int)))) (ev_b (ev_int))) (ev_b (ev_int))
    · exact el_nil
  refine el_cons ?_ ?_
  · refine es_if (et_cmp op_gtV opd_cmp (ev_b (ev_ioix 0)) (ev_b (ev_int)) rfl) ?_ ?_
    · refine el_cons ?_ ?_
      · exact es_set 3 (ev_op op_modN opd_mod (ev_b (ev_ioix 0)) (eb_var 1))
      refine el_cons ?_ ?_
      · exact es_put 0 (ev_op op_fdivW opd_fdiv (ev_b (ev_ioix 0)) (eb_var 1)) (ev_b (ev_int))
      refine el_one ?_
      exact es_ret (ev_var 3)
    · exact el_nil
  refine el_cons ?_ ?_
  · exact es_put 0 (ev_op op_addA opd_add (ev_b (ev_ioix 0)) (ev_b (ev_int))) (ev_b (ev_int))
  refine el_cons ?_ ?_
  · exact es_set 4 (ev_op op_modN opd_mod (ev_b (ev_op op_addA opd_add (ev_b (ev_ioix 0)) (ev_b (ev_op op_mulA opd_mul (ev_b (ev_ioix 0)) (ev_b (ev_int)))))) (ev_b (ev_int)))
  refine el_cons ?_ ?_
  · exact es_put 0 (ev_op op_modN opd_mod (ev_b (ev_op op_addA opd_add (ev_b (ev_op op_addA opd_add (ev_b (ev_op op_pow opd_pow (eb_var 4) (ev_b (ev_int)))) (ev_b (ev_op op_mulA opd_mul (ev_b (ev_int)) (eb_var 4))))) (ev_b (ev_int)))) (ev_b (ev_int))) (ev_b (ev_int))
  refine el_one ?_
  exact es_ret (ev_op op_modN opd_mod (ev_b (ev_op op_addA opd_add (ev_b (ev_op op_fdivW opd_fdiv (ev_b (ev_ioix 0)) (ev_b (ev_int)))) (ev_b (ev_op op_mulA opd_mul (ev_b (ev_op op_modN opd_mod (ev_b (ev_ioix 0)) (ev_b (ev_int)))) (ev_b (ev_int)))))) (eb_var 1))
theorem ok_l_take (c : SX K mg) : Df P w K mg base 1 "_law_take" false ["_law_bag_here", "_law_sides"] [] m_l_take := by
  obtain ⟨fd, F⟩ := c.d.def_ 1
  exact df_mk F (defD_ok F S_l_take (hb_l_take c _)) (c.glo 47) fun _ _ _ _ _ _ us hl => match us, hl with | [_, _], _ => rfl
abbrev N_l_flags : List Str := ["_law_e", "_law_found"]
theorem S_l_flags : FnScope N_l_flags ["_law_e"] (defScope s_l_flags) := ⟨rfl, rfl, rfl, by decide +kernel, rfl, by decide +kernel, by decide +kernel⟩
def b_l_flags : SS := sSeq (sSetF 1 (eLst (aCons (eUn (isiE excL [false, false, false, false, false, false, false, true, false, false, false, false, false, false, false, false, false, false, false, false, false, false, false, false, false, false, false, false, false, false, false, false, false]) (eVarB 0)) (aCons (eUn (isiE excL [false, false, false, false, false, false, false, false, false, false, false, false, false, false, false, true, false, false, false, false, false, false, false, false, false, false, false, false, false, false, false, false, false]) (eVarB 0)) (aCons (eUn (isiE excL [false, false, false, false, false, false, true, false, false, false, false, false, false, false, false, false, false, false, false, false, false, false, false, false, false, false, false, false, false, false, false, false, false]) (eVarB 0)) (aNil))))))
    (sSeq (sSetF 1 (eBin dCat (eVarB 1) (eLst (aCons (eUn (isiE excL [false, false, false, false, false, false, false, false, true, false, false, false, false, false, false, false, false, false, false, false, false, false, false, false, false, false, false, false, false, false, false, false, false]) (eVarB 0)) (aCons (eUn (isiE excL [false, false, false, false, false, false, false, false, false, false, true, false, false, false, false, false, false, false, false, false, false, false, false, false, false, false, false, false, false, false, false, false, false]) (eVarB 0)) (aNil))))))
    (sSeq (sSetF 1 (eBin dCat (eVarB 1) (eLst (aCons (eUn (isiE excL [false, true, false, false, false, false, false, false, false, false, false, false, false, false, false, false, false, false, false, false, false, false, false, false, false, false, false, false, false, false, false, false, false]) (eVarB 0)) (aCons (eUn (isiE excL [false, false, false, true, false, false, false, false, false, false, false, false, false, false, false, false, false, false, false, false, false, false, false, false, false, false, false, false, false, false, false, false, false]) (eVarB 0)) (aNil))))))
    (sSeq (sSetF 1 (eBin dCat (eVarB 1) (eLst (aCons (eUn (isiE excL [false, false, false, false, false, false, false, false, false, true, false, false, false, false, false, false, false, false, false, false, false, false, false, false, false, false, false, false, false, false, false, false, false]) (eVarB 0)) (aCons (eUn (isiE excL [true, false, false, false, false, false, false, false, false, false, false, false, false, false, false, false, false, false, false, false, false, false, false, false, false, false, false, false, false, false, false, false, false]) (eVarB 0)) (aNil))))))
    (sSeq (sSetF 1 (eBin dCat (eVarB 1) (eLst (aCons (eUn (isiE excL [false, false, false, false, false, false, false, false, false, false, false, false, false, false, false, false, false, false, false, false, false, false, false, false, false, false, false, false, false, true, false, false, false]) (eVarB 0)) (aCons (eUn (isiE excL [false, false, false, false, false, false, false, false, false, false, false, false, false, false, false, false, false, false, false, false, false, false, false, false, false, true, false, false, false, false, false, false, false]) (eVarB 0)) (aCons (eUn (isiE excL [false, false, false, false, false, false, false, false, false, false, false, false, false, true, false, false, false, false, false, false, false, false, false, false, false, false, false, false, false, false, false, false, false]) (eVarB 0)) (aNil)))))))
    (sSeq (sSetF 1 (eBin dCat (eVarB 1) (eLst (aCons (eUn (isiE excL [false, false, false, false, false, false, false, false, false, false, false, false, false, false, false, false, false, true, false, false, false, false, false, false, false, false, false, false, false, false, false, false, false]) (eVarB 0)) (aCons (eUn (isiE excL [false, false, false, false, false, false, false, false, false, false, false, false, false, false, false, false, false, false, false, false, false, false, false, false, false, false, false, false, false, false, false, true, false]) (eVarB 0)) (aNil))))))
    (sSeq (sSetF 1 (eBin dCat (eVarB 1) (eLst (aCons (eUn (isiE excL [false, false, false, false, false, false, false, false, false, false, false, false, true, false, false, false, false, false, false, false, false, false, false, false, false, false, false, false, false, false, false, false, false]) (eVarB 0)) (aCons (eUn (isiE excL [false, false, false, false, false, false, false, false, false, false, false, false, false, false, false, false, false, false, false, false, false, false, false, false, false, false, false, false, false, false, true, false, false]) (eVarB 0)) (aNil))))))
    (sSeq (sSetF 1 (eBin dCat (eVarB 1) (eLst (aCons (eUn (isiE excL [false, false, false, false, false, false, false, false, false, false, false, false, false, false, false, false, false, false, false, false, false, false, false, false, false, false, false, true, false, false, false, false, false]) (eVarB 0)) (aCons (eUn (isiE excL [false, false, false, false, false, true, false, false, false, false, false, false, false, false, false, false, false, false, false, false, false, false, false, false, false, false, false, false, false, false, false, false, false]) (eVarB 0)) (aNil))))))
    (sSeq (sSetF 1 (eBin dCat (eVarB 1) (eLst (aCons (eUn (isiE excL [false, false, false, false, true, false, false, false, false, false, false, false, false, false, false, false, false, false, false, false, false, false, false, false, false, false, false, false, false, false, false, false, false]) (eVarB 0)) (aCons (eUn (isiE excL [false, false, true, false, false, false, false, false, false, false, false, false, false, false, false, false, false, false, false, false, false, false, false, false, false, false, false, false, false, false, false, false, false]) (eVarB 0)) (aCons (eUn (isiE excL [false, false, false, false, false, false, false, false, false, false, false, false, false, false, false, false, true, false, false, false, false, false, false, false, false, false, false, false, false, false, false, false, false]) (eVarB 0)) (aNil)))))))
    (sSeq (sSetF 1 (eBin dCat (eVarB 1) (eLst (aCons (eUn (isiE excL [false, false, false, false, false, false, false, false, false, false, false, false, false, false, false, false, false, false, false, false, false, false, false, false, false, false, false, false, false, false, false, false, true]) (eVarB 0)) (aCons (eUn (isiE excL [false, false, false, false, false, false, false, false, false, false, false, false, false, false, true, false, false, false, false, false, false, false, false, false, false, false, false, false, false, false, false, false, false]) (eVarB 0)) (aCons (eUn (isiE excL [false, false, false, false, false, false, false, false, false, false, false, false, false, false, false, false, false, false, false, false, false, false, false, false, false, false, false, false, true, false, false, false, false]) (eVarB 0)) (aNil)))))))
    (sSeq (sSetF 1 (eBin dCat (eVarB 1) (eLst (aCons (eUn (isiE excL [false, false, false, false, false, false, false, false, false, false, false, true, false, false, false, false, false, false, false, false, false, false, false, false, false, false, false, false, false, false, false, false, false]) (eVarB 0)) (aCons (eUn (isiE excL [false, false, false, false, false, false, false, false, false, false, false, false, false, false, false, false, false, false, false, false, true, false, false, false, false, false, false, false, false, false, false, false, false]) (eVarB 0)) (aCons (eUn (isiE excL [false, false, false, false, false, false, false, false, false, false, false, false, false, false, false, false, false, false, true, false, false, false, false, false, false, false, false, false, false, false, false, false, false]) (eVarB 0)) (aNil)))))))
    (sSeq (sSetF 1 (eBin dCat (eVarB 1) (eLst (aCons (eUn (isiE excL [false, false, false, false, false, false, false, false, false, false, false, false, false, false, false, false, false, false, false, true, false, false, false, false, false, false, false, false, false, false, false, false, false]) (eVarB 0)) (aCons (eUn (isiE excL [false, false, false, false, false, false, false, false, false, false, false, false, false, false, false, false, false, false, false, false, false, true, false, false, false, false, false, false, false, false, false, false, false]) (eVarB 0)) (aCons (eUn (isiE excL [false, false, false, false, false, false, false, false, false, false, false, false, false, false, false, false, false, false, false, false, false, false, false, true, false, false, false, false, false, false, false, false, false]) (eVarB 0)) (aNil)))))))
    (sSeq (sSetF 1 (eBin dCat (eVarB 1) (eLst (aCons (eUn (isiE excL [false, false, false, false, false, false, false, false, false, false, false, false, false, false, false, false, false, false, false, false, false, false, false, false, true, false, false, false, false, false, false, false, false]) (eVarB 0)) (aCons (eUn (isiE excL [false, false, false, false, false, false, false, false, false, false, false, false, false, false, false, false, false, false, false, false, false, false, false, false, false, false, true, false, false, false, false, false, false]) (eVarB 0)) (aNil))))))
    (sSeq (sSetF 1 (eBin dCat (eVarB 1) (eLst (aCons (eUn (isiE excL [false, false, false, false, false, false, false, false, false, false, false, false, false, false, false, false, false, false, false, false, false, false, true, false, false, false, false, false, false, false, false, false, false]) (eVarB 0)) (aNil)))))
    (sRetOwn 1))))))))))))))
def m_l_flags : MF := runB true 2 b_l_flags
theorem hb_l_flags (c : SX K mg) (f : Addr) (cdv : Value) (A : Around) (outer : List PySem.Env) (s : Shared) (H : Hp) (E : XK) (hr : Room 0 (A.deeper (envOfC "_law_flags" (defScope s_l_flags) s.heap.objs.size f cdv))) :
    EL (cxOf (Hw.CX P w) P w K mg base N_l_flags "_law_flags" (defScope s_l_flags) f cdv A outer s H E) (WX0 E) true (defBody s_l_flags) (b_l_flags) := by
  have hN := S_l_flags.nd
  refine el_cons ?_ ?_
  · exact es_setF 1 (ef_lst (eav_cons (by exact ev_isiE "BadNumber" excL [false, false, false, false, false, false, false, true, false, false, false, false, false, false, false, false, false, false, false, false, false, false, false, false, false, false, false, false, false, false, false, false, false] (ec c) rfl (c.free 2) rfl (c.glo 3) (c.tst 0) (eb_var 0)) (eav_cons (by exact ev_isiE "Full" excL [false, false, false, false, false, false, false, false, false, false, false, false, false, false, false, true, false, false, false, false, false, false, false, false, false, false, false, false, false, false, false, false, false] (ec c) rfl (c.free 2) rfl (c.glo 4) (c.tst 1) (eb_var 0)) (eav_cons (by exact ev_isiE "BadNet" excL [false, false, false, false, false, false, true, false, false, false, false, false, false, false, false, false, false, false, false, false, false, false, false, false, false, false, false, false, false, false, false, false, false] (ec c) rfl (c.free 2) rfl (c.glo 5) (c.tst 2) (eb_var 0)) (eav_nil)))))
  refine el_cons ?_ ?_
  · exact es_setF 1 (ef_op op_cat opf_cat (eb_var 1) (ev_b (ef_v (ef_lst (eav_cons (by exact ev_isiE "BadPath" excL [false, false, false, false, false, false, false, false, true, false, false, false, false, false, false, false, false, false, false, false, false, false, false, false, false, false, false, false, false, false, false, false, false] (ec c) rfl (c.free 2) rfl (c.glo 6) (c.tst 3) (eb_var 0)) (eav_cons (by exact ev_isiE "BadStep" excL [false, false, false, false, false, false, false, false, false, false, true, false, false, false, false, false, false, false, false, false, false, false, false, false, false, false, false, false, false, false, false, false, false] (ec c) rfl (c.free 2) rfl (c.glo 7) (c.tst 4) (eb_var 0)) (eav_nil)))))))
  refine el_cons ?_ ?_
  · exact es_setF 1 (ef_op op_cat opf_cat (eb_var 1) (ev_b (ef_v (ef_lst (eav_cons (by exact ev_isiE "BadColors" excL [false, true, false, false, false, false, false, false, false, false, false, false, false, false, false, false, false, false, false, false, false, false, false, false, false, false, false, false, false, false, false, false, false] (ec c) rfl (c.free 2) rfl (c.glo 8) (c.tst 5) (eb_var 0)) (eav_cons (by exact ev_isiE "BadDegree" excL [false, false, false, true, false, false, false, false, false, false, false, false, false, false, false, false, false, false, false, false, false, false, false, false, false, false, false, false, false, false, false, false, false] (ec c) rfl (c.free 2) rfl (c.glo 9) (c.tst 6) (eb_var 0)) (eav_nil)))))))
  refine el_cons ?_ ?_
  · exact es_setF 1 (ef_op op_cat opf_cat (eb_var 1) (ev_b (ef_v (ef_lst (eav_cons (by exact ev_isiE "BadPosition" excL [false, false, false, false, false, false, false, false, false, true, false, false, false, false, false, false, false, false, false, false, false, false, false, false, false, false, false, false, false, false, false, false, false] (ec c) rfl (c.free 2) rfl (c.glo 10) (c.tst 7) (eb_var 0)) (eav_cons (by exact ev_isiE "Apart" excL [true, false, false, false, false, false, false, false, false, false, false, false, false, false, false, false, false, false, false, false, false, false, false, false, false, false, false, false, false, false, false, false, false] (ec c) rfl (c.free 2) rfl (c.glo 11) (c.tst 8) (eb_var 0)) (eav_nil)))))))
  refine el_cons ?_ ?_
  · exact es_setF 1 (ef_op op_cat opf_cat (eb_var 1) (ev_b (ef_v (ef_lst (eav_cons (by exact ev_isiE "TooLong" excL [false, false, false, false, false, false, false, false, false, false, false, false, false, false, false, false, false, false, false, false, false, false, false, false, false, false, false, false, false, true, false, false, false] (ec c) rfl (c.free 2) rfl (c.glo 12) (c.tst 9) (eb_var 0)) (eav_cons (by exact ev_isiE "NotClosed" excL [false, false, false, false, false, false, false, false, false, false, false, false, false, false, false, false, false, false, false, false, false, false, false, false, false, true, false, false, false, false, false, false, false] (ec c) rfl (c.free 2) rfl (c.glo 13) (c.tst 10) (eb_var 0)) (eav_cons (by exact ev_isiE "Bare" excL [false, false, false, false, false, false, false, false, false, false, false, false, false, true, false, false, false, false, false, false, false, false, false, false, false, false, false, false, false, false, false, false, false] (ec c) rfl (c.free 2) rfl (c.glo 14) (c.tst 11) (eb_var 0)) (eav_nil))))))))
  refine el_cons ?_ ?_
  · exact es_setF 1 (ef_op op_cat opf_cat (eb_var 1) (ev_b (ef_v (ef_lst (eav_cons (by exact ev_isiE "NoBeginning" excL [false, false, false, false, false, false, false, false, false, false, false, false, false, false, false, false, false, true, false, false, false, false, false, false, false, false, false, false, false, false, false, false, false] (ec c) rfl (c.free 2) rfl (c.glo 15) (c.tst 12) (eb_var 0)) (eav_cons (by exact ev_isiE "Uneven" excL [false, false, false, false, false, false, false, false, false, false, false, false, false, false, false, false, false, false, false, false, false, false, false, false, false, false, false, false, false, false, false, true, false] (ec c) rfl (c.free 2) rfl (c.glo 16) (c.tst 13) (eb_var 0)) (eav_nil)))))))
  refine el_cons ?_ ?_
  · exact es_setF 1 (ef_op op_cat opf_cat (eb_var 1) (ev_b (ef_v (ef_lst (eav_cons (by exact ev_isiE "BadWeight" excL [false, false, false, false, false, false, false, false, false, false, false, false, true, false, false, false, false, false, false, false, false, false, false, false, false, false, false, false, false, false, false, false, false] (ec c) rfl (c.free 2) rfl (c.glo 17) (c.tst 14) (eb_var 0)) (eav_cons (by exact ev_isiE "Unbalanced" excL [false, false, false, false, false, false, false, false, false, false, false, false, false, false, false, false, false, false, false, false, false, false, false, false, false, false, false, false, false, false, true, false, false] (ec c) rfl (c.free 2) rfl (c.glo 18) (c.tst 15) (eb_var 0)) (eav_nil)))))))
  refine el_cons ?_ ?_
  · exact es_setF 1 (ef_op op_cat opf_cat (eb_var 1) (ev_b (ef_v (ef_lst (eav_cons (by exact ev_isiE "OtherNet" excL [false, false, false, false, false, false, false, false, false, false, false, false, false, false, false, false, false, false, false, false, false, false, false, false, false, false, false, true, false, false, false, false, false] (ec c) rfl (c.free 2) rfl (c.glo 19) (c.tst 16) (eb_var 0)) (eav_cons (by exact ev_isiE "BadName" excL [false, false, false, false, false, true, false, false, false, false, false, false, false, false, false, false, false, false, false, false, false, false, false, false, false, false, false, false, false, false, false, false, false] (ec c) rfl (c.free 2) rfl (c.glo 20) (c.tst 17) (eb_var 0)) (eav_nil)))))))
  refine el_cons ?_ ?_
  · exact es_setF 1 (ef_op op_cat opf_cat (eb_var 1) (ev_b (ef_v (ef_lst (eav_cons (by exact ev_isiE "BadKind" excL [false, false, false, false, true, false, false, false, false, false, false, false, false, false, false, false, false, false, false, false, false, false, false, false, false, false, false, false, false, false, false, false, false] (ec c) rfl (c.free 2) rfl (c.glo 21) (c.tst 18) (eb_var 0)) (eav_cons (by exact ev_isiE "BadDeed" excL [false, false, true, false, false, false, false, false, false, false, false, false, false, false, false, false, false, false, false, false, false, false, false, false, false, false, false, false, false, false, false, false, false] (ec c) rfl (c.free 2) rfl (c.glo 22) (c.tst 19) (eb_var 0)) (eav_cons (by exact ev_isiE "InUse" excL [false, false, false, false, false, false, false, false, false, false, false, false, false, false, false, false, true, false, false, false, false, false, false, false, false, false, false, false, false, false, false, false, false] (ec c) rfl (c.free 2) rfl (c.glo 23) (c.tst 20) (eb_var 0)) (eav_nil))))))))
  refine el_cons ?_ ?_
  · exact es_setF 1 (ef_op op_cat opf_cat (eb_var 1) (ev_b (ef_v (ef_lst (eav_cons (by exact ev_isiE "Unsound" excL [false, false, false, false, false, false, false, false, false, false, false, false, false, false, false, false, false, false, false, false, false, false, false, false, false, false, false, false, false, false, false, false, true] (ec c) rfl (c.free 2) rfl (c.glo 24) (c.tst 21) (eb_var 0)) (eav_cons (by exact ev_isiE "Broken" excL [false, false, false, false, false, false, false, false, false, false, false, false, false, false, true, false, false, false, false, false, false, false, false, false, false, false, false, false, false, false, false, false, false] (ec c) rfl (c.free 2) rfl (c.glo 25) (c.tst 22) (eb_var 0)) (eav_cons (by exact ev_isiE "Stopped" excL [false, false, false, false, false, false, false, false, false, false, false, false, false, false, false, false, false, false, false, false, false, false, false, false, false, false, false, false, true, false, false, false, false] (ec c) rfl (c.free 2) rfl (c.glo 26) (c.tst 23) (eb_var 0)) (eav_nil))))))))
  refine el_cons ?_ ?_
  · exact es_setF 1 (ef_op op_cat opf_cat (eb_var 1) (ev_b (ef_v (ef_lst (eav_cons (by exact ev_isiE "BadText" excL [false, false, false, false, false, false, false, false, false, false, false, true, false, false, false, false, false, false, false, false, false, false, false, false, false, false, false, false, false, false, false, false, false] (ec c) rfl (c.free 2) rfl (c.glo 27) (c.tst 24) (eb_var 0)) (eav_cons (by exact ev_isiE "NoNode" excL [false, false, false, false, false, false, false, false, false, false, false, false, false, false, false, false, false, false, false, false, true, false, false, false, false, false, false, false, false, false, false, false, false] (ec c) rfl (c.free 2) rfl (c.glo 28) (c.tst 25) (eb_var 0)) (eav_cons (by exact ev_isiE "NoEdge" excL [false, false, false, false, false, false, false, false, false, false, false, false, false, false, false, false, false, false, true, false, false, false, false, false, false, false, false, false, false, false, false, false, false] (ec c) rfl (c.free 2) rfl (c.glo 29) (c.tst 26) (eb_var 0)) (eav_nil))))))))
  refine el_cons ?_ ?_
  · exact es_setF 1 (ef_op op_cat opf_cat (eb_var 1) (ev_b (ef_v (ef_lst (eav_cons (by exact ev_isiE "NoNet" excL [false, false, false, false, false, false, false, false, false, false, false, false, false, false, false, false, false, false, false, true, false, false, false, false, false, false, false, false, false, false, false, false, false] (ec c) rfl (c.free 2) rfl (c.glo 30) (c.tst 27) (eb_var 0)) (eav_cons (by exact ev_isiE "NoPath" excL [false, false, false, false, false, false, false, false, false, false, false, false, false, false, false, false, false, false, false, false, false, true, false, false, false, false, false, false, false, false, false, false, false] (ec c) rfl (c.free 2) rfl (c.glo 31) (c.tst 28) (eb_var 0)) (eav_cons (by exact ev_isiE "NoTiling" excL [false, false, false, false, false, false, false, false, false, false, false, false, false, false, false, false, false, false, false, false, false, false, false, true, false, false, false, false, false, false, false, false, false] (ec c) rfl (c.free 2) rfl (c.glo 32) (c.tst 29) (eb_var 0)) (eav_nil))))))))
  refine el_cons ?_ ?_
  · exact es_setF 1 (ef_op op_cat opf_cat (eb_var 1) (ev_b (ef_v (ef_lst (eav_cons (by exact ev_isiE "NoWatch" excL [false, false, false, false, false, false, false, false, false, false, false, false, false, false, false, false, false, false, false, false, false, false, false, false, true, false, false, false, false, false, false, false, false] (ec c) rfl (c.free 2) rfl (c.glo 33) (c.tst 30) (eb_var 0)) (eav_cons (by exact ev_isiE "NothingLeft" excL [false, false, false, false, false, false, false, false, false, false, false, false, false, false, false, false, false, false, false, false, false, false, false, false, false, false, true, false, false, false, false, false, false] (ec c) rfl (c.free 2) rfl (c.glo 34) (c.tst 31) (eb_var 0)) (eav_nil)))))))
  refine el_cons ?_ ?_
  · exact es_setF 1 (ef_op op_cat opf_cat (eb_var 1) (ev_b (ef_v (ef_lst (eav_cons (by exact ev_isiE "NoSwap" excL [false, false, false, false, false, false, false, false, false, false, false, false, false, false, false, false, false, false, false, false, false, false, true, false, false, false, false, false, false, false, false, false, false] (ec c) rfl (c.free 2) rfl (c.glo 35) (c.tst 32) (eb_var 0)) (eav_nil))))))
  refine el_one ?_
  exact es_retOwn 1
theorem ok_l_flags (c : SX K mg) : Df P w K mg base 1 "_law_flags" true ["_law_e"] [] m_l_flags := by
  obtain ⟨fd, F⟩ := c.d.def_ 2
  exact df_mk F (defD_ok F S_l_flags (hb_l_flags c _)) (c.glo 48) fun _ _ _ _ _ _ us hl => match us, hl with | [_], _ => rfl
abbrev N_l_values : List Str := ["_law_e"]
theorem S_l_values : FnScope N_l_values ["_law_e"] (defScope s_l_values) := ⟨rfl, rfl, rfl, by decide +kernel, rfl, by decide +kernel, by decide +kernel⟩
def b_l_values : SS := sSeq (sIf (tOf (eUn (isiE excL [false, false, false, false, false, false, false, true, false, false, false, false, false, false, false, false, false, false, false, false, false, false, false, false, true, false, false, false, false, false, false, false, false]) (eVarB 0))) (sRet (eLst (aCons (eUn (dFldE excL "number") (eVarB 0)) (aNil)))) (sNext))
    (sSeq (sIf (tOf (eUn (isiE excL [false, false, false, false, false, false, false, false, false, false, false, false, false, false, false, true, false, false, false, false, false, false, false, false, false, false, false, false, false, false, false, false, false]) (eVarB 0))) (sRet (eLst (aCons (eUn (dFldE excL "bound") (eVarB 0)) (aNil)))) (sNext))
    (sSeq (sIf (tOf (eUn (isiE excL [false, false, false, false, false, false, true, false, false, false, false, false, false, false, false, false, false, false, false, false, false, false, false, false, false, false, false, false, false, false, false, false, false]) (eVarB 0))) (sRet (eLst (aCons (eUn (dFldE excL "fault") (eVarB 0)) (aNil)))) (sNext))
    (sSeq (sIf (tOf (eUn (isiE excL [false, false, false, false, false, false, false, false, true, false, true, false, true, false, false, false, false, false, false, false, false, false, false, false, false, false, false, false, false, false, true, false, false]) (eVarB 0))) (sRet (eLst (aCons (eUn (dFldE excL "at") (eVarB 0)) (aNil)))) (sNext))
    (sSeq (sIf (tOf (eUn (isiE excL [false, false, false, false, false, false, false, false, false, false, false, false, false, true, false, false, false, false, false, false, false, false, false, false, false, false, false, false, false, false, false, false, false]) (eVarB 0))) (sRet (eLst (aCons (eUn (dFldE excL "color") (eVarB 0)) (aNil)))) (sNext))
    (sSeq (sIf (tOf (eUn (isiE excL [false, false, false, false, false, false, false, false, false, false, false, false, false, false, false, false, false, false, false, false, false, false, false, false, false, false, false, false, false, false, false, true, false]) (eVarB 0))) (sRet (eLst (aCons (eUn (dFldE excL "first") (eVarB 0)) (aCons (eUn (dFldE excL "last") (eVarB 0)) (aNil))))) (sNext))
    (sSeq (sIf (tOf (eUn (isiE excL [false, false, false, false, false, false, false, false, false, false, false, false, false, false, false, false, true, false, false, false, false, false, false, false, false, false, false, false, false, false, false, false, false]) (eVarB 0))) (sRet (eLst (aCons (eUn (dFldE excL "by") (eVarB 0)) (aNil)))) (sNext))
    (sSeq (sIf (tOf (eUn (isiE excL [false, false, false, false, false, false, false, false, false, false, false, false, false, false, false, false, false, false, false, false, false, false, false, false, false, false, false, false, false, false, false, false, true]) (eVarB 0))) (sRet (eLst (aCons (eUn (dFldE excL "name") (eVarB 0)) (aCons (eUn (dFldE excL "fault") (eVarB 0)) (aNil))))) (sNext))
    (sSeq (sIf (tOf (eUn (isiE excL [false, false, false, false, false, false, false, false, false, false, false, false, false, false, true, false, false, false, false, true, false, true, false, true, false, false, false, false, false, false, false, false, false]) (eVarB 0))) (sRet (eLst (aCons (eUn (dFldE excL "name") (eVarB 0)) (aNil)))) (sNext))
    (sSeq (sIf (tOf (eUn (isiE excL [false, false, false, false, false, false, false, false, false, false, false, false, false, false, false, false, false, false, false, false, false, false, false, false, false, false, false, false, true, false, false, false, false]) (eVarB 0))) (sRet (eLst (aCons (eUn (dFldE excL "at") (eVarB 0)) (aCons (eUn (dFldE excL "cause") (eVarB 0)) (aNil))))) (sNext))
    (sSeq (sIf (tOf (eUn (isiE excL [false, false, false, false, false, false, false, false, false, false, false, true, false, false, false, false, false, false, false, false, false, false, false, false, false, false, false, false, false, false, false, false, false]) (eVarB 0))) (sRet (eLst (aCons (eUn (dFldE excL "row") (eVarB 0)) (aNil)))) (sNext))
    (sSeq (sIf (tOf (eUn (isiE excL [false, false, false, false, false, false, false, false, false, false, false, false, false, false, false, false, false, false, false, false, true, false, false, false, false, false, false, false, false, false, false, false, false]) (eVarB 0))) (sRet (eLst (aCons (eUn (dFldE excL "node") (eVarB 0)) (aNil)))) (sNext))
    (sSeq (sIf (tOf (eUn (isiE excL [false, false, false, false, false, false, false, false, false, false, false, false, false, false, false, false, false, false, true, false, false, false, false, false, false, false, false, false, false, false, false, false, false]) (eVarB 0))) (sRet (eLst (aCons (eUn (dFldE excL "edge") (eVarB 0)) (aNil)))) (sNext))
    (sRet (eLst (aNil)))))))))))))))
def m_l_values : MF := runB true 1 b_l_values
theorem hb_l_values (c : SX K mg) (f : Addr) (cdv : Value) (A : Around) (outer : List PySem.Env) (s : Shared) (H : Hp) (E : XK) (hr : Room 0 (A.deeper (envOfC "_law_values" (defScope s_l_values) s.heap.objs.size f cdv))) :
    EL (cxOf (Hw.CX P w) P w K mg base N_l_values "_law_values" (defScope s_l_values) f cdv A outer s H E) (WX0 E) true (defBody s_l_values) (b_l_values) := by
  have hN := S_l_values.nd
  refine el_cons ?_ ?_
  · refine es_if (et_val (ev_isiET ["BadNumber", "NoWatch"] excL [false, false, false, false, false, false, false, true, false, false, false, false, false, false, false, false, false, false, false, false, false, false, false, false, true, false, false, false, false, false, false, false, false] (ec c) rfl (c.free 2) (pa_cons_cs "BadNumber" rfl (c.glo 3) (pa_cons_cs "NoWatch" rfl (c.glo 33) (pa_nil_cs))) (c.tst 33) (eb_var 0))) ?_ ?_
    · refine el_one ?_
      exact es_retF (ef_lst (eav_cons (ev_fldE excL (ec c) (c.tst 34) (eb_var 0)) (eav_nil)))
    · exact el_nil
  refine el_cons ?_ ?_
  · refine es_if (et_val (ev_isiE "Full" excL [false, false, false, false, false, false, false, false, false, false, false, false, false, false, false, true, false, false, false, false, false, false, false, false, false, false, false, false, false, false, false, false, false] (ec c) rfl (c.free 2) rfl (c.glo 4) (c.tst 1) (eb_var 0))) ?_ ?_
    · refine el_one ?_
      exact es_retF (ef_lst (eav_cons (ev_fldE excL (ec c) (c.tst 35) (eb_var 0)) (eav_nil)))
    · exact el_nil
  refine el_cons ?_ ?_
  · refine es_if (et_val (ev_isiE "BadNet" excL [false, false, false, false, false, false, true, false, false, false, false, false, false, false, false, false, false, false, false, false, false, false, false, false, false, false, false, false, false, false, false, false, false] (ec c) rfl (c.free 2) rfl (c.glo 5) (c.tst 2) (eb_var 0))) ?_ ?_
    · refine el_one ?_
      exact es_retF (ef_lst (eav_cons (ev_fldE excL (ec c) (c.tst 36) (eb_var 0)) (eav_nil)))
    · exact el_nil
  refine el_cons ?_ ?_
  · refine es_if (et_val (ev_isiET ["BadPath", "BadStep", "BadWeight", "Unbalanced"] excL [false, false, false, false, false, false, false, false, true, false, true, false, true, false, false, false, false, false, false, false, false, false, false, false, false, false, false, false, false, false, true, false, false] (ec c) rfl (c.free 2) (pa_cons_cs "BadPath" rfl (c.glo 6) (pa_cons_cs "BadStep" rfl (c.glo 7) (pa_cons_cs "BadWeight" rfl (c.glo 17) (pa_cons_cs "Unbalanced" rfl (c.glo 18) (pa_nil_cs))))) (c.tst 37) (eb_var 0))) ?_ ?_
    · refine el_one ?_
      exact es_retF (ef_lst (eav_cons (ev_fldE excL (ec c) (c.tst 38) (eb_var 0)) (eav_nil)))
    · exact el_nil
  refine el_cons ?_ ?_
  · refine es_if (et_val (ev_isiE "Bare" excL [false, false, false, false, false, false, false, false, false, false, false, false, false, true, false, false, false, false, false, false, false, false, false, false, false, false, false, false, false, false, false, false, false] (ec c) rfl (c.free 2) rfl (c.glo 14) (c.tst 11) (eb_var 0))) ?_ ?_
    · refine el_one ?_
      exact es_retF (ef_lst (eav_cons (ev_fldE excL (ec c) (c.tst 39) (eb_var 0)) (eav_nil)))
    · exact el_nil
  refine el_cons ?_ ?_
  · refine es_if (et_val (ev_isiE "Uneven" excL [false, false, false, false, false, false, false, false, false, false, false, false, false, false, false, false, false, false, false, false, false, false, false, false, false, false, false, false, false, false, false, true, false] (ec c) rfl (c.free 2) rfl (c.glo 16) (c.tst 13) (eb_var 0))) ?_ ?_
    · refine el_one ?_
      exact es_retF (ef_lst (eav_cons (ev_fldE excL (ec c) (c.tst 40) (eb_var 0)) (eav_cons (ev_fldE excL (ec c) (c.tst 41) (eb_var 0)) (eav_nil))))
    · exact el_nil
  refine el_cons ?_ ?_
  · refine es_if (et_val (ev_isiE "InUse" excL [false, false, false, false, false, false, false, false, false, false, false, false, false, false, false, false, true, false, false, false, false, false, false, false, false, false, false, false, false, false, false, false, false] (ec c) rfl (c.free 2) rfl (c.glo 23) (c.tst 20) (eb_var 0))) ?_ ?_
    · refine el_one ?_
      exact es_retF (ef_lst (eav_cons (ev_fldE excL (ec c) (c.tst 42) (eb_var 0)) (eav_nil)))
    · exact el_nil
  refine el_cons ?_ ?_
  · refine es_if (et_val (ev_isiE "Unsound" excL [false, false, false, false, false, false, false, false, false, false, false, false, false, false, false, false, false, false, false, false, false, false, false, false, false, false, false, false, false, false, false, false, true] (ec c) rfl (c.free 2) rfl (c.glo 24) (c.tst 21) (eb_var 0))) ?_ ?_
    · refine el_one ?_
      exact es_retF (ef_lst (eav_cons (ev_fldE excL (ec c) (c.tst 43) (eb_var 0)) (eav_cons (ev_fldE excL (ec c) (c.tst 36) (eb_var 0)) (eav_nil))))
    · exact el_nil
  refine el_cons ?_ ?_
  · refine es_if (et_val (ev_isiET ["Broken", "NoNet", "NoPath", "NoTiling"] excL [false, false, false, false, false, false, false, false, false, false, false, false, false, false, true, false, false, false, false, true, false, true, false, true, false, false, false, false, false, false, false, false, false] (ec c) rfl (c.free 2) (pa_cons_cs "Broken" rfl (c.glo 25) (pa_cons_cs "NoNet" rfl (c.glo 30) (pa_cons_cs "NoPath" rfl (c.glo 31) (pa_cons_cs "NoTiling" rfl (c.glo 32) (pa_nil_cs))))) (c.tst 44) (eb_var 0))) ?_ ?_
    · refine el_one ?_
      exact es_retF (ef_lst (eav_cons (ev_fldE excL (ec c) (c.tst 43) (eb_var 0)) (eav_nil)))
    · exact el_nil
  refine el_cons ?_ ?_
  · refine es_if (et_val (ev_isiE "Stopped" excL [false, false, false, false, false, false, false, false, false, false, false, false, false, false, false, false, false, false, false, false, false, false, false, false, false, false, false, false, true, false, false, false, false] (ec c) rfl (c.free 2) rfl (c.glo 26) (c.tst 23) (eb_var 0))) ?_ ?_
    · refine el_one ?_
      exact es_retF (ef_lst (eav_cons (ev_fldE excL (ec c) (c.tst 38) (eb_var 0)) (eav_cons (ev_fldE excL (ec c) (c.tst 45) (eb_var 0)) (eav_nil))))
    · exact el_nil
  refine el_cons ?_ ?_
  · refine es_if (et_val (ev_isiE "BadText" excL [false, false, false, false, false, false, false, false, false, false, false, true, false, false, false, false, false, false, false, false, false, false, false, false, false, false, false, false, false, false, false, false, false] (ec c) rfl (c.free 2) rfl (c.glo 27) (c.tst 24) (eb_var 0))) ?_ ?_
    · refine el_one ?_
      exact es_retF (ef_lst (eav_cons (ev_fldE excL (ec c) (c.tst 46) (eb_var 0)) (eav_nil)))
    · exact el_nil
  refine el_cons ?_ ?_
  · refine es_if (et_val (ev_isiE "NoNode" excL [false, false, false, false, false, false, false, false, false, false, false, false, false, false, false, false, false, false, false, false, true, false, false, false, false, false, false, false, false, false, false, false, false] (ec c) rfl (c.free 2) rfl (c.glo 28) (c.tst 25) (eb_var 0))) ?_ ?_
    · refine el_one ?_
      exact es_retF (ef_lst (eav_cons (ev_fldE excL (ec c) (c.tst 47) (eb_var 0)) (eav_nil)))
    · exact el_nil
  refine el_cons ?_ ?_
  · refine es_if (et_val (ev_isiE "NoEdge" excL [false, false, false, false, false, false, false, false, false, false, false, false, false, false, false, false, false, false, true, false, false, false, false, false, false, false, false, false, false, false, false, false, false] (ec c) rfl (c.free 2) rfl (c.glo 29) (c.tst 26) (eb_var 0))) ?_ ?_
    · refine el_one ?_
      exact es_retF (ef_lst (eav_cons (ev_fldE excL (ec c) (c.tst 48) (eb_var 0)) (eav_nil)))
    · exact el_nil
  refine el_one ?_
  exact es_retF (ef_lst (eav_nil))
theorem ok_l_values (c : SX K mg) : Df P w K mg base 1 "_law_values" true ["_law_e"] [] m_l_values := by
  obtain ⟨fd, F⟩ := c.d.def_ 3
  exact df_mk F (defD_ok F S_l_values (hb_l_values c _)) (c.glo 49) fun _ _ _ _ _ _ us hl => match us, hl with | [_], _ => rfl
abbrev N_l_due : List Str := ["_law_spot", "_law_n", "_law_m"]
theorem S_l_due : FnScope N_l_due ["_law_spot", "_law_n", "_law_m"] (defScope s_l_due) := ⟨rfl, rfl, rfl, by decide +kernel, rfl, by decide +kernel, by decide +kernel⟩
def b_l_due : SS := sSeq (sIf (tOf (eBin dIn (eVarB 0) (eTup (aCons (eC (.int 5)) (aCons (eC (.int 6)) (aCons (eC (.int 7)) (aCons (eC (.int 8)) (aCons (eC (.int 9)) (aCons (eC (.int 10)) (aCons (eC (.int 12)) (aCons (eC (.int 16)) (aCons (eC (.int 17)) (aCons (eC (.int 18)) (aCons (eC (.int 19)) (aCons (eC (.int 31)) (aCons (eC (.int 32)) (aNil))))))))))))))))) (sRet (eLst (aNil))) (sNext))
    (sRet (eIf (tOf (eBin dIn (eVarB 0) (eTup (aCons (eC (.int 13)) (aCons (eC (.int 21)) (aCons (eC (.int 23)) (aNil))))))) (eLst (aCons (eVar 1) (aCons (eVar 2) (aNil)))) (eLst (aCons (eVar 1) (aNil)))))
def m_l_due : MF := runB false 3 b_l_due
theorem hb_l_due (c : SX K mg) (f : Addr) (cdv : Value) (A : Around) (outer : List PySem.Env) (s : Shared) (H : Hp) (E : XK) (hr : Room 0 (A.deeper (envOfC "_law_due" (defScope s_l_due) s.heap.objs.size f cdv))) :
    EL (cxOf (Hw.CX P w) P w K mg base N_l_due "_law_due" (defScope s_l_due) f cdv A outer s H E) (WX0 E) false (defBody s_l_due) (b_l_due) := by
  have hN := S_l_due.nd
  refine el_cons ?_ ?_
  · refine es_if (et_cmp (op_inA (u65 hr)) opd_in (eb_var 0) (ev_b (ev_tup (eav_cons (ev_int) (eav_cons (ev_int) (eav_cons (ev_int) (eav_cons (ev_int) (eav_cons (ev_int) (eav_cons (ev_int) (eav_cons (ev_int) (eav_cons (ev_int) (eav_cons (ev_int) (eav_cons (ev_int) (eav_cons (ev_int) (eav_cons (ev_int) (eav_cons (ev_int) (eav_nil)))))))))))))))) rfl) ?_ ?_
    · refine el_one ?_
      exact es_ret (ef_v (ef_lst (eav_nil)))
    · exact el_nil
  refine el_one ?_
  exact es_ret (ev_if (et_cmp (op_inA (u65 hr)) opd_in (eb_var 0) (ev_b (ev_tup (eav_cons (ev_int) (eav_cons (ev_int) (eav_cons (ev_int) (eav_nil)))))) rfl) (ef_v (ef_lst (eav_cons (ev_var 1) (eav_cons (ev_var 2) (eav_nil))))) (ef_v (ef_lst (eav_cons (ev_var 1) (eav_nil)))))
theorem ok_l_due (c : SX K mg) : Df P w K mg base 1 "_law_due" false ["_law_spot", "_law_n", "_law_m"] [] m_l_due := by
  obtain ⟨fd, F⟩ := c.d.def_ 4
  exact df_mk F (defD_ok F S_l_due (hb_l_due c _)) (c.glo 50) fun _ _ _ _ _ _ us hl => match us, hl with | [_, _, _], _ => rfl
abbrev N_l_errors : List Str := ["_law_n", "_law_m", "_law_some"]
theorem S_l_errors : FnScope N_l_errors ["_law_n", "_law_m"] (defScope s_l_errors) := ⟨rfl, rfl, rfl, by decide +kernel, rfl, by decide +kernel, by decide +kernel⟩
def b_l_errors : SS := sSeq (sSetF 2 (eLst (aCons (eMkE "BadNumber" 1 ["number", "tag"] (fun ds => [ds.getD 0 .non, .str "BadNumber"]) (aCons (eVar 0) (aNil))) (aCons (eMkE "Full" 1 ["bound", "tag"] (fun ds => [ds.getD 0 .non, .str "Full"]) (aCons (eVar 0) (aNil))) (aCons (eMkE "BadNet" 1 ["fault", "tag"] (fun ds => [ds.getD 0 .non, .str "BadNet"]) (aCons (eVar 0) (aNil))) (aCons (eMkE "BadPath" 1 ["at", "tag"] (fun ds => [ds.getD 0 .non, .str "BadPath"]) (aCons (eVar 0) (aNil))) (aCons (eMkE "BadStep" 1 ["at", "tag"] (fun ds => [ds.getD 0 .non, .str "BadStep"]) (aCons (eVar 0) (aNil))) (aCons (eMkE "BadColors" 0 ["tag"] (fun _ => [.str "BadColors"]) aNil) (aNil)))))))))
    (sSeq (sSetF 2 (eBin dCat (eVarB 2) (eLst (aCons (eMkE "BadDegree" 0 ["tag"] (fun _ => [.str "BadDegree"]) aNil) (aCons (eMkE "BadPosition" 0 ["tag"] (fun _ => [.str "BadPosition"]) aNil) (aCons (eMkE "Apart" 0 ["tag"] (fun _ => [.str "Apart"]) aNil) (aCons (eMkE "TooLong" 0 ["tag"] (fun _ => [.str "TooLong"]) aNil) (aCons (eMkE "NotClosed" 0 ["tag"] (fun _ => [.str "NotClosed"]) aNil) (aCons (eMkE "Bare" 1 ["color", "tag"] (fun ds => [ds.getD 0 .non, .str "Bare"]) (aCons (eVar 0) (aNil))) (aNil))))))))))
    (sSeq (sSetF 2 (eBin dCat (eVarB 2) (eLst (aCons (eMkE "NoBeginning" 0 ["tag"] (fun _ => [.str "NoBeginning"]) aNil) (aCons (eMkE "Uneven" 2 ["last", "first", "tag"] (fun ds => [ds.getD 1 .non, ds.getD 0 .non, .str "Uneven"]) (aCons (eVar 0) (aCons (eVar 1) (aNil)))) (aCons (eMkE "BadWeight" 1 ["at", "tag"] (fun ds => [ds.getD 0 .non, .str "BadWeight"]) (aCons (eVar 0) (aNil))) (aCons (eMkE "Unbalanced" 1 ["at", "tag"] (fun ds => [ds.getD 0 .non, .str "Unbalanced"]) (aCons (eVar 0) (aNil))) (aCons (eMkE "OtherNet" 0 ["tag"] (fun _ => [.str "OtherNet"]) aNil) (aNil)))))))))
    (sSeq (sSetF 2 (eBin dCat (eVarB 2) (eLst (aCons (eMkE "BadName" 0 ["tag"] (fun _ => [.str "BadName"]) aNil) (aCons (eMkE "BadKind" 0 ["tag"] (fun _ => [.str "BadKind"]) aNil) (aCons (eMkE "BadDeed" 0 ["tag"] (fun _ => [.str "BadDeed"]) aNil) (aCons (eMkE "InUse" 1 ["by", "tag"] (fun ds => [ds.getD 0 .non, .str "InUse"]) (aCons (eVar 0) (aNil))) (aCons (eMkE "Unsound" 2 ["fault", "name", "tag"] (fun ds => [ds.getD 1 .non, ds.getD 0 .non, .str "Unsound"]) (aCons (eVar 0) (aCons (eVar 1) (aNil)))) (aCons (eMkE "Broken" 1 ["name", "tag"] (fun ds => [ds.getD 0 .non, .str "Broken"]) (aCons (eVar 0) (aNil))) (aNil))))))))))
    (sSeq (sSetF 2 (eBin dCat (eVarB 2) (eLst (aCons (eMkE "Stopped" 2 ["cause", "at", "tag"] (fun ds => [ds.getD 1 .non, ds.getD 0 .non, .str "Stopped"]) (aCons (eVar 0) (aCons (eVar 1) (aNil)))) (aCons (eMkE "BadText" 1 ["row", "tag"] (fun ds => [ds.getD 0 .non, .str "BadText"]) (aCons (eVar 0) (aNil))) (aCons (eMkE "NoNode" 1 ["node", "tag"] (fun ds => [ds.getD 0 .non, .str "NoNode"]) (aCons (eVar 0) (aNil))) (aCons (eMkE "NoEdge" 1 ["edge", "tag"] (fun ds => [ds.getD 0 .non, .str "NoEdge"]) (aCons (eVar 0) (aNil))) (aCons (eMkE "NoNet" 1 ["name", "tag"] (fun ds => [ds.getD 0 .non, .str "NoNet"]) (aCons (eVar 0) (aNil))) (aCons (eMkE "NoPath" 1 ["name", "tag"] (fun ds => [ds.getD 0 .non, .str "NoPath"]) (aCons (eVar 0) (aNil))) (aNil))))))))))
    (sSeq (sSetF 2 (eBin dCat (eVarB 2) (eLst (aCons (eMkE "NoTiling" 1 ["name", "tag"] (fun ds => [ds.getD 0 .non, .str "NoTiling"]) (aCons (eVar 0) (aNil))) (aCons (eMkE "NoWatch" 1 ["number", "tag"] (fun ds => [ds.getD 0 .non, .str "NoWatch"]) (aCons (eVar 0) (aNil))) (aCons (eMkE "NothingLeft" 0 ["tag"] (fun _ => [.str "NothingLeft"]) aNil) (aCons (eMkE "NoSwap" 0 ["tag"] (fun _ => [.str "NoSwap"]) aNil) (aNil))))))))
    (sRetOwn 2))))))
def m_l_errors : MF := runB true 3 b_l_errors
theorem hb_l_errors (c : SX K mg) (f : Addr) (cdv : Value) (A : Around) (outer : List PySem.Env) (s : Shared) (H : Hp) (E : XK) (hr : Room 2 (A.deeper (envOfC "_law_errors" (defScope s_l_errors) s.heap.objs.size f cdv))) :
    EL (cxOf (Hw.CX P w) P w K mg base N_l_errors "_law_errors" (defScope s_l_errors) f cdv A outer s H E) (WX0 E) true (defBody s_l_errors) (b_l_errors) := by
  have hN := S_l_errors.nd
  refine el_cons ?_ ?_
  · exact es_setF 2 (ef_lst (eav_cons (ev_mkE (ez_BadNumber c) hr (eav_cons (ev_var 0) (eav_nil))) (eav_cons (ev_mkE (ez_Full c) hr (eav_cons (ev_var 0) (eav_nil))) (eav_cons (ev_mkE (ez_BadNet c) hr (eav_cons (ev_var 0) (eav_nil))) (eav_cons (ev_mkE (ez_BadPath c) hr (eav_cons (ev_var 0) (eav_nil))) (eav_cons (ev_mkE (ez_BadStep c) hr (eav_cons (ev_var 0) (eav_nil))) (eav_cons (ev_mkE0 (ez_BadColors c) hr) (eav_nil))))))))
  refine el_cons ?_ ?_
  · exact es_setF 2 (ef_op op_cat opf_cat (eb_var 2) (ev_b (ef_v (ef_lst (eav_cons (ev_mkE0 (ez_BadDegree c) hr) (eav_cons (ev_mkE0 (ez_BadPosition c) hr) (eav_cons (ev_mkE0 (ez_Apart c) hr) (eav_cons (ev_mkE0 (ez_TooLong c) hr) (eav_cons (ev_mkE0 (ez_NotClosed c) hr) (eav_cons (ev_mkE (ez_Bare c) hr (eav_cons (ev_var 0) (eav_nil))) (eav_nil)))))))))))
  refine el_cons ?_ ?_
  · exact es_setF 2 (ef_op op_cat opf_cat (eb_var 2) (ev_b (ef_v (ef_lst (eav_cons (ev_mkE0 (ez_NoBeginning c) hr) (eav_cons (ev_mkE (ez_Uneven c) hr (eav_cons (ev_var 0) (eav_cons (ev_var 1) (eav_nil)))) (eav_cons (ev_mkE (ez_BadWeight c) hr (eav_cons (ev_var 0) (eav_nil))) (eav_cons (ev_mkE (ez_Unbalanced c) hr (eav_cons (ev_var 0) (eav_nil))) (eav_cons (ev_mkE0 (ez_OtherNet c) hr) (eav_nil))))))))))
  refine el_cons ?_ ?_
  · exact es_setF 2 (ef_op op_cat opf_cat (eb_var 2) (ev_b (ef_v (ef_lst (eav_cons (ev_mkE0 (ez_BadName c) hr) (eav_cons (ev_mkE0 (ez_BadKind c) hr) (eav_cons (ev_mkE0 (ez_BadDeed c) hr) (eav_cons (ev_mkE (ez_InUse c) hr (eav_cons (ev_var 0) (eav_nil))) (eav_cons (ev_mkE (ez_Unsound c) hr (eav_cons (ev_var 0) (eav_cons (ev_var 1) (eav_nil)))) (eav_cons (ev_mkE (ez_Broken c) hr (eav_cons (ev_var 0) (eav_nil))) (eav_nil)))))))))))
  refine el_cons ?_ ?_
  · exact es_setF 2 (ef_op op_cat opf_cat (eb_var 2) (ev_b (ef_v (ef_lst (eav_cons (ev_mkE (ez_Stopped c) hr (eav_cons (ev_var 0) (eav_cons (ev_var 1) (eav_nil)))) (eav_cons (ev_mkE (ez_BadText c) hr (eav_cons (ev_var 0) (eav_nil))) (eav_cons (ev_mkE (ez_NoNode c) hr (eav_cons (ev_var 0) (eav_nil))) (eav_cons (ev_mkE (ez_NoEdge c) hr (eav_cons (ev_var 0) (eav_nil))) (eav_cons (ev_mkE (ez_NoNet c) hr (eav_cons (ev_var 0) (eav_nil))) (eav_cons (ev_mkE (ez_NoPath c) hr (eav_cons (ev_var 0) (eav_nil))) (eav_nil)))))))))))
  refine el_cons ?_ ?_
  · exact es_setF 2 (ef_op op_cat opf_cat (eb_var 2) (ev_b (ef_v (ef_lst (eav_cons (ev_mkE (ez_NoTiling c) hr (eav_cons (ev_var 0) (eav_nil))) (eav_cons (ev_mkE (ez_NoWatch c) hr (eav_cons (ev_var 0) (eav_nil))) (eav_cons (ev_mkE0 (ez_NothingLeft c) hr) (eav_cons (ev_mkE0 (ez_NoSwap c) hr) (eav_nil)))))))))
  refine el_one ?_
  exact es_retOwn 2
theorem ok_l_errors (c : SX K mg) : Df P w K mg base 3 "_law_errors" true ["_law_n", "_law_m"] [] m_l_errors := by
  obtain ⟨fd, F⟩ := c.d.def_ 5
  exact df_mk F (defD_ok F S_l_errors (hb_l_errors c _)) (c.glo 51) fun _ _ _ _ _ _ us hl => match us, hl with | [_, _], _ => rfl
abbrev N_l_named : List Str := ["_law_n", "_law_m", "_law_some"]
theorem S_l_named : FnScope N_l_named ["_law_n", "_law_m"] (defScope s_l_named) := ⟨rfl, rfl, rfl, by decide +kernel, rfl, by decide +kernel, by decide +kernel⟩
def b_l_named : SS := sSeq (sSet 2 (eLst (aCons (eMkE "Uneven" 2 ["last", "first", "tag"] (fun ds => (fun ds => [ds.getD 1 .non, ds.getD 0 .non, .str "Uneven"]) ds.reverse) (aCons (eVar 1) (aCons (eVar 0) (aNil)))) (aCons (eMkE "Stopped" 2 ["cause", "at", "tag"] (fun ds => (fun ds => [ds.getD 1 .non, ds.getD 0 .non, .str "Stopped"]) ds.reverse) (aCons (eVar 1) (aCons (eVar 0) (aNil)))) (aCons (eMkE "Unsound" 2 ["fault", "name", "tag"] (fun ds => (fun ds => [ds.getD 1 .non, ds.getD 0 .non, .str "Unsound"]) ds.reverse) (aCons (eVar 1) (aCons (eVar 0) (aNil)))) (aCons (eMkE "BadNumber" 1 ["number", "tag"] (fun ds => (fun ds => [ds.getD 0 .non, .str "BadNumber"]) ds.reverse) (aCons (eVar 0) (aNil))) (aNil)))))))
    (sSeq (sSet 2 (eBin dAdd (eVarB 2) (eLst (aCons (eMkE "Full" 1 ["bound", "tag"] (fun ds => (fun ds => [ds.getD 0 .non, .str "Full"]) ds.reverse) (aCons (eVar 0) (aNil))) (aCons (eMkE "BadNet" 1 ["fault", "tag"] (fun ds => (fun ds => [ds.getD 0 .non, .str "BadNet"]) ds.reverse) (aCons (eVar 0) (aNil))) (aCons (eMkE "BadPath" 1 ["at", "tag"] (fun ds => (fun ds => [ds.getD 0 .non, .str "BadPath"]) ds.reverse) (aCons (eVar 0) (aNil))) (aCons (eMkE "Bare" 1 ["color", "tag"] (fun ds => (fun ds => [ds.getD 0 .non, .str "Bare"]) ds.reverse) (aCons (eVar 0) (aNil))) (aCons (eMkE "InUse" 1 ["by", "tag"] (fun ds => (fun ds => [ds.getD 0 .non, .str "InUse"]) ds.reverse) (aCons (eVar 0) (aNil))) (aCons (eMkE "Broken" 1 ["name", "tag"] (fun ds => (fun ds => [ds.getD 0 .non, .str "Broken"]) ds.reverse) (aCons (eVar 0) (aNil))) (aNil))))))))))
    (sSeq (sSet 2 (eBin dAdd (eVarB 2) (eLst (aCons (eMkE "BadText" 1 ["row", "tag"] (fun ds => (fun ds => [ds.getD 0 .non, .str "BadText"]) ds.reverse) (aCons (eVar 0) (aNil))) (aCons (eMkE "NoNode" 1 ["node", "tag"] (fun ds => (fun ds => [ds.getD 0 .non, .str "NoNode"]) ds.reverse) (aCons (eVar 0) (aNil))) (aCons (eMkE "NoEdge" 1 ["edge", "tag"] (fun ds => (fun ds => [ds.getD 0 .non, .str "NoEdge"]) ds.reverse) (aCons (eVar 0) (aNil))) (aCons (eMkE "NoNet" 1 ["name", "tag"] (fun ds => (fun ds => [ds.getD 0 .non, .str "NoNet"]) ds.reverse) (aCons (eVar 0) (aNil))) (aCons (eMkE "NoPath" 1 ["name", "tag"] (fun ds => (fun ds => [ds.getD 0 .non, .str "NoPath"]) ds.reverse) (aCons (eVar 0) (aNil))) (aNil)))))))))
    (sRet (eBin dCat (eVarB 2) (eLst (aCons (eMkE "NoTiling" 1 ["name", "tag"] (fun ds => (fun ds => [ds.getD 0 .non, .str "NoTiling"]) ds.reverse) (aCons (eVar 0) (aNil))) (aCons (eMkE "NoWatch" 1 ["number", "tag"] (fun ds => (fun ds => [ds.getD 0 .non, .str "NoWatch"]) ds.reverse) (aCons (eVar 0) (aNil))) (aCons (eMkE "BadStep" 1 ["at", "tag"] (fun ds => (fun ds => [ds.getD 0 .non, .str "BadStep"]) ds.reverse) (aCons (eVar 0) (aNil))) (aCons (eMkE "BadWeight" 1 ["at", "tag"] (fun ds => (fun ds => [ds.getD 0 .non, .str "BadWeight"]) ds.reverse) (aCons (eVar 0) (aNil))) (aCons (eMkE "Unbalanced" 1 ["at", "tag"] (fun ds => (fun ds => [ds.getD 0 .non, .str "Unbalanced"]) ds.reverse) (aCons (eVar 0) (aNil))) (aNil)))))))))))
def m_l_named : MF := runB true 3 b_l_named
theorem hb_l_named (c : SX K mg) (f : Addr) (cdv : Value) (A : Around) (outer : List PySem.Env) (s : Shared) (H : Hp) (E : XK) (hr : Room 2 (A.deeper (envOfC "_law_named" (defScope s_l_named) s.heap.objs.size f cdv))) :
    EL (cxOf (Hw.CX P w) P w K mg base N_l_named "_law_named" (defScope s_l_named) f cdv A outer s H E) (WX0 E) true (defBody s_l_named) (b_l_named) := by
  have hN := S_l_named.nd
  refine el_cons ?_ ?_
  · exact es_set 2 (ef_v (ef_lst (eav_cons (ev_mkEK (ez_Uneven c) hr (ekv_cons (ev_var 1) (ekv_cons (ev_var 0) (ekv_nil)))) (eav_cons (ev_mkEK (ez_Stopped c) hr (ekv_cons (ev_var 1) (ekv_cons (ev_var 0) (ekv_nil)))) (eav_cons (ev_mkEK (ez_Unsound c) hr (ekv_cons (ev_var 1) (ekv_cons (ev_var 0) (ekv_nil)))) (eav_cons (ev_mkEK (ez_BadNumber c) hr (ekv_cons (ev_var 0) (ekv_nil))) (eav_nil)))))))
  refine el_cons ?_ ?_
  · exact es_set 2 (ev_op op_addA opd_add (eb_var 2) (ev_b (ef_v (ef_lst (eav_cons (ev_mkEK (ez_Full c) hr (ekv_cons (ev_var 0) (ekv_nil))) (eav_cons (ev_mkEK (ez_BadNet c) hr (ekv_cons (ev_var 0) (ekv_nil))) (eav_cons (ev_mkEK (ez_BadPath c) hr (ekv_cons (ev_var 0) (ekv_nil))) (eav_cons (ev_mkEK (ez_Bare c) hr (ekv_cons (ev_var 0) (ekv_nil))) (eav_cons (ev_mkEK (ez_InUse c) hr (ekv_cons (ev_var 0) (ekv_nil))) (eav_cons (ev_mkEK (ez_Broken c) hr (ekv_cons (ev_var 0) (ekv_nil))) (eav_nil)))))))))))
  refine el_cons ?_ ?_
  · exact es_set 2 (ev_op op_addA opd_add (eb_var 2) (ev_b (ef_v (ef_lst (eav_cons (ev_mkEK (ez_BadText c) hr (ekv_cons (ev_var 0) (ekv_nil))) (eav_cons (ev_mkEK (ez_NoNode c) hr (ekv_cons (ev_var 0) (ekv_nil))) (eav_cons (ev_mkEK (ez_NoEdge c) hr (ekv_cons (ev_var 0) (ekv_nil))) (eav_cons (ev_mkEK (ez_NoNet c) hr (ekv_cons (ev_var 0) (ekv_nil))) (eav_cons (ev_mkEK (ez_NoPath c) hr (ekv_cons (ev_var 0) (ekv_nil))) (eav_nil))))))))))
  refine el_one ?_
  exact es_retF (ef_op op_cat opf_cat (eb_var 2) (ev_b (ef_v (ef_lst (eav_cons (ev_mkEK (ez_NoTiling c) hr (ekv_cons (ev_var 0) (ekv_nil))) (eav_cons (ev_mkEK (ez_NoWatch c) hr (ekv_cons (ev_var 0) (ekv_nil))) (eav_cons (ev_mkEK (ez_BadStep c) hr (ekv_cons (ev_var 0) (ekv_nil))) (eav_cons (ev_mkEK (ez_BadWeight c) hr (ekv_cons (ev_var 0) (ekv_nil))) (eav_cons (ev_mkEK (ez_Unbalanced c) hr (ekv_cons (ev_var 0) (ekv_nil))) (eav_nil))))))))))
theorem ok_l_named (c : SX K mg) : Df P w K mg base 3 "_law_named" true ["_law_n", "_law_m"] [] m_l_named := by
  obtain ⟨fd, F⟩ := c.d.def_ 6
  exact df_mk F (defD_ok F S_l_named (hb_l_named c _)) (c.glo 52) fun _ _ _ _ _ _ us hl => match us, hl with | [_, _], _ => rfl
abbrev N_l_alike : List Str := ["_law_found", "_law_due_here", "_law_k"]
theorem S_l_alike : FnScope N_l_alike ["_law_found", "_law_due_here"] (defScope s_l_alike) := ⟨rfl, rfl, rfl, by decide +kernel, rfl, by decide +kernel, by decide +kernel⟩
theorem hb_l_alike (c : SX K mg) {j : Nat} {mf : MF} (hj : 1 ≤ j) (G : Df P w K mg base j "_law_alike" false ["_law_found", "_law_due_here"] [] mf) (f : Addr) (cdv : Value) (A : Around) (outer : List PySem.Env) (s : Shared) (H : Hp) (E : XK) (hr : Room j (A.deeper (envOfC "_law_alike" (defScope s_l_alike) s.heap.objs.size f cdv))) :
    EL (cxOf (Hw.CX P w) P w K mg base N_l_alike "_law_alike" (defScope s_l_alike) f cdv A outer s H E) (WX0 E) false (defBody s_l_alike) (b_l_alike mf) := by
  have hN := S_l_alike.nd
  refine el_cons ?_ ?_
  · refine es_if (PW.pt (ew_or (et_cmp op_isN opd_isN (eb_var 1) (ev_b (ev_non)) rfl) (ew_or1 (et_cmp op_isN opd_isN (eb_var 0) (ev_b (ev_non)) rfl)))) ?_ ?_
    · refine el_one ?_
      exact es_ret (ev_and (ev_cmp op_isN opd_isN (eb_var 0) (ev_b (ev_non)) rfl) (ev_one (ev_cmp op_isN opd_isN (eb_var 1) (ev_b (ev_non)) rfl)))
    · exact el_nil
  refine el_cons ?_ ?_
  · refine es_if (PW.pt (ew_or (et_val (ev_isi "list" rfl (c.free 2) rfl (c.free 0) rfl (eb_var 1))) (ew_or1 (et_val (ev_isi "tuple" rfl (c.free 2) rfl (c.free 36) rfl (eb_var 1)))))) ?_ ?_
    · refine el_cons ?_ ?_
      · refine es_if (PW.pt (ew_or (et_cmp (op_neD hr.units) opd_ne (ev_b (ev_isi "list" rfl (c.free 2) rfl (c.free 0) rfl (eb_var 1))) (ev_b (ev_isi "list" rfl (c.free 2) rfl (c.free 0) rfl (eb_var 0))) rfl) (ew_or1 (et_cmp (op_neD hr.units) opd_ne (ev_b (ev_isi "tuple" rfl (c.free 2) rfl (c.free 36) rfl (eb_var 1))) (ev_b (ev_isi "tuple" rfl (c.free 2) rfl (c.free 36) rfl (eb_var 0))) rfl)))) ?_ ?_
        · refine el_one ?_
          exact es_ret (ev_bl)
        · exact el_nil
      refine el_cons ?_ ?_
      · refine es_if (et_cmp (op_neD hr.units) opd_ne (ev_b (ev_callB call_len cd_len rfl (c.free 1) rfl (ea_cons (eb_var 0) (ea_nil)))) (ev_b (ev_callB call_len cd_len rfl (c.free 1) rfl (ea_cons (eb_var 1) (ea_nil)))) rfl) ?_ ?_
        · refine el_one ?_
          exact es_ret (ev_bl)
        · exact el_nil
      refine el_one ?_
      exact es_ret (ev_callB (cr_all rfl) cd_all rfl (c.free 38) rfl (ea_cons (ev_b (ef_v (ef_lc [("_law_k", 2)] (eiv_b (eiv_rng1 rfl (c.free 37) (ea_cons (ev_b (ev_callB call_len cd_len rfl (c.free 1) rfl (ea_cons (eb_var 1) (ea_nil)))) (ea_nil)))) (blkOk_by rfl) (fun _ _ _ _ _ => eg_n (is := [2]) 2) (fun _ _ _ _ _ => ets_nil) (fun _ _ _ _ _ => ev_c G hr (an_cons (ev_ix ix_seq opd_ix (eb_var 0) (eb_var 2)) (an_cons (ev_ix ix_seq opd_ix (eb_var 1) (eb_var 2)) (an_nil))) (tk := Hw.takes0) (hk := Nat.le_refl _))))) (ea_nil)))
    · exact el_nil
  refine el_cons ?_ ?_
  · refine es_if (PW.pt (ew_or (et_cmp (op_neD hr.units) opd_ne (ev_b (ev_isi "bool" rfl (c.free 2) rfl (c.free 39) rfl (eb_var 1))) (ev_b (ev_isi "bool" rfl (c.free 2) rfl (c.free 39) rfl (eb_var 0))) rfl) (ew_or1 (et_cmp (op_neD hr.units) opd_ne (ev_b (ev_isi "int" rfl (c.free 2) rfl (c.free 40) rfl (eb_var 1))) (ev_b (ev_isi "int" rfl (c.free 2) rfl (c.free 40) rfl (eb_var 0))) rfl)))) ?_ ?_
    · refine el_one ?_
      exact es_ret (ev_bl)
    · exact el_nil
  refine el_one ?_
  exact es_ret (ev_and (ev_cmp (op_eqD hr.units) opd_eq (ev_b (ev_isi "str" rfl (c.free 2) rfl (c.free 41) rfl (eb_var 1))) (ev_b (ev_isi "str" rfl (c.free 2) rfl (c.free 41) rfl (eb_var 0))) rfl) (ev_one (ev_cmp (op_eqD hr.units) opd_eq (eb_var 0) (eb_var 1) rfl)))
theorem ok_l_alike : ∀ (n : Nat) (c : SX K mg), Df P w K mg base (n + 1) "_law_alike" false ["_law_found", "_law_due_here"] [] (m_l_alike n)
  | 0, c => by
    obtain ⟨fd, F⟩ := c.d.def_ 7
    exact df_mk F fn_bad (c.glo 53) fun _ _ _ _ _ _ us hl => match us, hl with | [_, _], _ => rfl
  | n + 1, c => by
    have G := ok_l_alike n c
    obtain ⟨fd, F⟩ := c.d.def_ 7
    have e := df_mk F (defD_ok F S_l_alike (hb_l_alike c (j := n + 1) (by omega) G _)) (c.glo 53) fun _ _ _ _ _ _ us hl => match us, hl with | [_, _], _ => rfl
    rw [show n + 1 + 1 = n + 1 + 1 by omega]
    exact e
abbrev N_law : List Str := ["_law_script", "_law_bag_here", "_law_n", "_law_m", "_law_words", "_law_some", "_law_spot", "_law_e", "_law_kin", "_law_low", "_law_k"]
theorem S_law : FnScope N_law ["_law_script"] (defScope s_law) := ⟨rfl, rfl, rfl, by decide +kernel, rfl, by decide +kernel, by decide +kernel⟩
def lt_law_0 : SS := sSeq (sIf (tNot (tOf (eCall (m_l_alike 8) (rCons (eBin dAdd (eVarB 8) (eLst (aCons (eUn (isiE excL [false, false, false, false, false, false, false, false, false, false, false, false, false, false, false, false, false, false, true, true, true, true, true, true, true, false, true, false, false, false, false, false, false]) (eVarB 7)) (aNil)))) (rCons (eLst (aCons (eVar 9) (aCons (eVar 9) (aCons (eNot (eVar 9)) (aCons (eNot (eVar 9)) (aNil)))))) (rNil)))))) (sRet (eC (.bl false))) (sNext))
    (sIf (tNot (tOf (eCall (m_l_alike 8) (rCons (eLst (aCons (eUn (dFldE excL "tag") (eVarB 7)) (aCons (eCall m_l_values (rCons (eVar 7) (rNil))) (aNil)))) (rCons (eLst (aCons (eBin dIx (eVarB 4) (eVarB 6)) (aCons (eCall m_l_due (rCons (eVar 6) (rCons (eVar 2) (rCons (eVar 3) (rNil))))) (aNil)))) (rNil)))))) (sRet (eC (.bl false))) (sNext))
def lt_law_1 : SS := sSeq (sSet 9 (eBin dLt (eVarB 6) (eC (.int 25))))
    (lt_law_0)
def lt_law_2 : SS := sSeq (sSet 8 (eLst (aCons (eUn (isiE excL [true, true, true, true, true, true, true, true, true, true, true, true, true, true, true, true, true, true, false, false, false, false, false, false, false, true, false, true, true, true, true, true, true]) (eVarB 7)) (aCons (eUn (isiE excL [true, true, true, true, true, true, true, true, true, true, true, true, true, true, true, true, true, true, false, false, false, false, false, false, false, true, false, true, true, true, true, true, true]) (eVarB 7)) (aCons (eUn (isiE excL [false, false, false, false, false, false, false, false, false, false, false, false, false, false, false, false, false, false, true, true, true, true, true, true, true, false, true, false, false, false, false, false, false]) (eVarB 7)) (aNil))))))
    (lt_law_1)
def lt_law_3 : SS := sSeq (sIf (tNot (tOf (eCall (m_l_alike 8) (rCons (eCall m_l_flags (rCons (eVar 7) (rNil))) (rCons (eLc (iRng1 (aCons (eC (.int 33)) (aNil))) (gN 10) [10] (tYes) (eBin dEq (eVarB 10) (eVarB 6))) (rNil)))))) (sRet (eC (.bl false))) (sNext))
    (lt_law_2)
def lt_law_4 : SS := sSeq (sSet 7 (eBin dIx (eVarB 5) (eVarB 6)))
    (lt_law_3)
def lb_law_0 : SS := lt_law_4
def lt_law_5 : SS := sSeq (sIf (tNot (tOf (eCall (m_l_alike 8) (rCons (eLc (iSqS (eCall m_l_named (rCons (eVar 2) (rCons (eVar 3) (rNil))))) (gN 7) [7] (tYes) (eCall m_l_values (rCons (eVar 7) (rNil)))) (rCons (eBin dAdd (eBin dMulT (eLst (aCons (eLst (aCons (eVar 2) (aCons (eVar 3) (aNil)))) (aNil))) (eC (.int 3))) (eBin dMulT (eLst (aCons (eLst (aCons (eVar 2) (aNil))) (aNil))) (eC (.int 17)))) (rNil)))))) (sRet (eC (.bl false))) (sNext))
    (sRet (eC (.bl true)))
def lt_law_6 : SS := sSeq (sFor (iRng1 (aCons (eC (.int 33)) (aNil))) (gN 6) lb_law_0)
    (lt_law_5)
def lt_law_7 : SS := sSeq (sSet 5 (eCall m_l_errors (rCons (eVar 2) (rCons (eVar 3) (rNil)))))
    (lt_law_6)
def lt_law_8 : SS := sSeq (sSet 4 (eBin dAdd (eVarB 4) (eSplit (eC (.str "NoNode NoEdge NoNet NoPath NoTiling NoWatch NothingLeft NoSwap")) (eC (.str " ")))))
    (lt_law_7)
def lt_law_9 : SS := sSeq (sSet 4 (eBin dAdd (eVarB 4) (eSplit (eC (.str "OtherNet BadName BadKind BadDeed InUse Unsound Broken Stopped BadText")) (eC (.str " ")))))
    (lt_law_8)
def lt_law_10 : SS := sSeq (sSet 4 (eBin dAdd (eVarB 4) (eSplit (eC (.str "Apart TooLong NotClosed Bare NoBeginning Uneven BadWeight Unbalanced")) (eC (.str " ")))))
    (lt_law_9)
def lt_law_11 : SS := sSeq (sSet 4 (eSplit (eC (.str "BadNumber Full BadNet BadPath BadStep BadColors BadDegree BadPosition")) (eC (.str " "))))
    (lt_law_10)
def lt_law_12 : SS := sSeq (sPar 2 3 (eBin dSub (eCallIo m_l_take (rIo 1 (rCons (eBin dPow (eC (.int 10)) (eC (.int 9))) (rNil)))) (eC (.int 7))) (eBin dAdd (eC (.int 3)) (eCallIo m_l_take (rIo 1 (rCons (eBin dPow (eC (.int 10)) (eC (.int 9))) (rNil))))))
    (lt_law_11)
def lt_law_13 : SS := sSeq (sSetF 1 (eCall m_l_bag (rCons (eVar 0) (rNil))))
    (sLend 1 (lt_law_12))
def b_law : SS := lt_law_13
def m_law : MF := runB false 11 b_law
theorem hb_law (c : SX K mg) (f : Addr) (cdv : Value) (A : Around) (outer : List PySem.Env) (s : Shared) (H : Hp) (E : XK) (hr : Room 9 (A.deeper (envOfC "law" (defScope s_law) s.heap.objs.size f cdv))) :
    EL (cxOf (Hw.CX P w) P w K mg base N_law "law" (defScope s_law) f cdv A outer s H E) (WX0 E) false (defBody s_law) (b_law) := by
  have hN := S_law.nd
  refine el_cons ?_ ?_
  · exact es_setF 1 (ef_c (ok_l_bag c) hr (an_cons (ev_var 0) (an_nil)))
  refine el_lend 1 ?_
  refine el_cons ?_ ?_
  · exact es_par 2 3 (ev_op op_sub opd_sub (ev_b (ev_cIo (ok_l_take c) hr (an_io 1 (an_cons (ev_op op_pow opd_pow (ev_b (ev_int)) (ev_b (ev_int))) (an_nil))))) (ev_b (ev_int))) (ev_op op_addA opd_add (ev_b (ev_int)) (ev_b (ev_cIo (ok_l_take c) hr (an_io 1 (an_cons (ev_op op_pow opd_pow (ev_b (ev_int)) (ev_b (ev_int))) (an_nil))))))
  refine el_cons ?_ ?_
  · exact es_set 4 (ef_v (ef_split (ev_str) (ev_str)))
  refine el_cons ?_ ?_
  · exact es_set 4 (ev_op op_addA opd_add (eb_var 4) (ev_b (ef_v (ef_split (ev_str) (ev_str)))))
  refine el_cons ?_ ?_
  · exact es_set 4 (ev_op op_addA opd_add (eb_var 4) (ev_b (ef_v (ef_split (ev_str) (ev_str)))))
  refine el_cons ?_ ?_
  · exact es_set 4 (ev_op op_addA opd_add (eb_var 4) (ev_b (ef_v (ef_split (ev_str) (ev_str)))))
  refine el_cons ?_ ?_
  · exact es_set 5 (ef_v (ef_c (ok_l_errors c) hr (an_cons (ev_var 2) (an_cons (ev_var 3) (an_nil)))))
  refine el_cons ?_ ?_
  · refine es_for (eiv_rng1 rfl (c.free 37) (ea_cons (ev_b (ev_int)) (ea_nil))) (eg_n (is := [6]) 6) ?_ (passes_of rfl)
    refine el_cons ?_ ?_
    · exact es_set 7 (ev_ix ix_seq opd_ix (eb_var 5) (eb_var 6))
    refine el_cons ?_ ?_
    · refine es_if (et_not (et_val (ev_c (ok_l_alike 8 c) hr (an_cons (ef_v (ef_c (ok_l_flags c) hr (an_cons (ev_var 7) (an_nil)))) (an_cons (by exact ef_v (ef_lc [("_law_k", 10)] (eiv_b (eiv_rng1 rfl (c.free 37) (ea_cons (ev_b (ev_int)) (ea_nil)))) (blkOk_by rfl) (fun _ _ _ _ _ => eg_n (is := [10]) 10) (fun _ _ _ _ _ => ets_nil) (fun _ _ _ _ _ => ev_cmp (op_eqD hr.units) opd_eq (eb_var 10) (eb_var 6) rfl))) (an_nil)))))) ?_ ?_
      · refine el_one ?_
        exact es_ret (ev_bl)
      · exact el_nil
    refine el_cons ?_ ?_
    · exact es_set 8 (ef_v (ef_lst (eav_cons (by exact ev_isiE "RoadError" excL [true, true, true, true, true, true, true, true, true, true, true, true, true, true, true, true, true, true, false, false, false, false, false, false, false, true, false, true, true, true, true, true, true] (ec c) rfl (c.free 2) rfl (c.glo 42) (c.tst 49) (eb_var 7)) (eav_cons (by exact ev_isiEb "ValueError" excL [true, true, true, true, true, true, true, true, true, true, true, true, true, true, true, true, true, true, false, false, false, false, false, false, false, true, false, true, true, true, true, true, true] (ec c) rfl (c.free 2) rfl (c.free 43) rfl (c.tst 50) (eb_var 7)) (eav_cons (by exact ev_isiE "RoadMissing" excL [false, false, false, false, false, false, false, false, false, false, false, false, false, false, false, false, false, false, true, true, true, true, true, true, true, false, true, false, false, false, false, false, false] (ec c) rfl (c.free 2) rfl (c.glo 44) (c.tst 51) (eb_var 7)) (eav_nil))))))
    refine el_cons ?_ ?_
    · exact es_set 9 (ev_cmp op_lt opd_cmp (eb_var 6) (ev_b (ev_int)) rfl)
    refine el_cons ?_ ?_
    · refine es_if (et_not (et_val (ev_c (ok_l_alike 8 c) hr (an_cons (by exact ev_op op_addA opd_add (eb_var 8) (ev_b (ef_v (ef_lst (eav_cons (by exact ev_isiEb "LookupError" excL [false, false, false, false, false, false, false, false, false, false, false, false, false, false, false, false, false, false, true, true, true, true, true, true, true, false, true, false, false, false, false, false, false] (ec c) rfl (c.free 2) rfl (c.free 45) rfl (c.tst 52) (eb_var 7)) (eav_nil)))))) (an_cons (ef_v (ef_lst (eav_cons (ev_var 9) (eav_cons (ev_var 9) (eav_cons (ev_not (ev_var 9)) (eav_cons (ev_not (ev_var 9)) (eav_nil))))))) (an_nil)))))) ?_ ?_
      · refine el_one ?_
        exact es_ret (ev_bl)
      · exact el_nil
    refine el_one ?_
    refine es_if (et_not (et_val (ev_c (ok_l_alike 8 c) hr (an_cons (ef_v (ef_lst (eav_cons (ev_fldE excL (ec c) (c.tst 53) (eb_var 7)) (eav_cons (ef_v (ef_c (ok_l_values c) hr (an_cons (ev_var 7) (an_nil)))) (eav_nil))))) (an_cons (ef_v (ef_lst (eav_cons (ev_ix ix_seq opd_ix (eb_var 4) (eb_var 6)) (eav_cons (ev_c (ok_l_due c) hr (an_cons (ev_var 6) (an_cons (ev_var 2) (an_cons (ev_var 3) (an_nil))))) (eav_nil))))) (an_nil)))))) ?_ ?_
    · refine el_one ?_
      exact es_ret (ev_bl)
    · exact el_nil
  refine el_cons ?_ ?_
  · refine es_if (et_not (et_val (ev_c (ok_l_alike 8 c) hr (an_cons (by exact ef_v (ef_lc [("_law_e", 7)] (eiv_b (eiv_sqS (ef_v (ef_c (ok_l_named c) hr (an_cons (ev_var 2) (an_cons (ev_var 3) (an_nil))))))) (blkOk_by rfl) (fun _ _ _ _ _ => eg_n (is := [7]) 7) (fun _ _ _ _ _ => ets_nil) (fun _ _ _ _ _ => ef_v (ef_c (ok_l_values c) hr (an_cons (ev_var 7) (an_nil)) (tk := Hw.takes0))))) (an_cons (ev_op op_addA opd_add (ev_b (ev_op op_mulT opd_mulT (ev_b (ef_v (ef_lst (eav_cons (ef_v (ef_lst (eav_cons (ev_var 2) (eav_cons (ev_var 3) (eav_nil))))) (eav_nil))))) (ev_b (ev_int)))) (ev_b (ev_op op_mulT opd_mulT (ev_b (ef_v (ef_lst (eav_cons (ef_v (ef_lst (eav_cons (ev_var 2) (eav_nil)))) (eav_nil))))) (ev_b (ev_int))))) (an_nil)))))) ?_ ?_
    · refine el_one ?_
      exact es_ret (ev_bl)
    · exact el_nil
  refine el_one ?_
  exact es_ret (ev_bl)
theorem ok_law (c : SX K mg) {fd : FuncData} (F : FunD K "law" "law" (defArgs s_law) (defBody s_law) (defScope s_law) [] [] (fAd K ("law", none)) fd) : FnOk P w K mg base (Hw.CX P w) 10 (fAd K ("law", none)) fd ["_law_script"] (SpOf ⟨K, mg⟩ false 1 m_law) :=
  defD_ok (k := 9) F S_law (hb_law c _)
end
end K01
set_option maxHeartbeats 400000
namespace Hw
open PySem PySem.Spec L2
def alB : Nat → D → Bool
  | _, .non => true
  | _, .bl _ => true
  | _, .int _ => true
  | _, .str x => PyData.strOk x
  | n + 1, .lst ds => ds.all (alB n) && decide (ds.length ≤ 16777216)
  | n + 1, .tup ds => ds.all (alB n) && decide (ds.length ≤ 16777216)
  | _, _ => false
class Aln (n : Nat) (d : D) : Prop where
  ok : alB n d = true
class AlnL (n : Nat) (ds : List D) : Prop where
  ok : ds.all (alB n) = true
section
variable {n : Nat} {d : D} {ds es : List D}
instance : Aln n .non := ⟨by cases n <;> rfl⟩
instance {i : Int} : Aln n (.int i) := ⟨by cases n <;> rfl⟩
instance {i : Bool} : Aln n (.bl i) := ⟨by cases n <;> rfl⟩
instance {x : Str} [h : StrOk x] : Aln n (.str x) := ⟨by cases n <;> exact h.ok⟩
instance : AlnL n [] := ⟨rfl⟩
instance [h : Aln n d] [g : AlnL n ds] : AlnL n (d :: ds) := ⟨by rw [List.all_cons, h.ok, g.ok]; rfl⟩
instance [h : AlnL n ds] [g : AlnL n es] : AlnL n (ds ++ es) := ⟨by rw [List.all_append, h.ok, g.ok]; rfl⟩
instance {α : Type} {f : α → D} {xs : List α} [h : ∀ x, Aln n (f x)] : AlnL n (xs.map f) := ⟨by
  rw [List.all_map]
  exact List.all_eq_true.mpr fun x _ => (h x).ok⟩
theorem aln_tup [h : AlnL n ds] (hl : ds.length ≤ 16777216) : Aln (n + 1) (.tup ds) := ⟨by unfold alB; rw [h.ok, decide_eq_true hl]; rfl⟩
theorem aln_lst [h : AlnL n ds] (hl : ds.length ≤ 16777216) : Aln (n + 1) (.lst ds) := ⟨by unfold alB; rw [h.ok, decide_eq_true hl]; rfl⟩
instance [h : Aln n d] : Aln (n + 1) (.tup [d]) := aln_tup (Nat.le_trans (show 1 ≤ 3 by decide) (by decide))
instance {d1 d2 : D} [h : Aln n d1] [g : Aln n d2] : Aln (n + 1) (.tup [d1, d2]) := aln_tup (Nat.le_trans (show 2 ≤ 3 by decide) (by decide))
instance {d1 d2 d3 : D} [h : Aln n d1] [g : Aln n d2] [g3 : Aln n d3] : Aln (n + 1) (.tup [d1, d2, d3]) := aln_tup (Nat.le_trans (show 3 ≤ 3 by decide) (by decide))
instance {d1 d2 d3 d4 : D} [h : Aln n d1] [g : Aln n d2] [g3 : Aln n d3] [g4 : Aln n d4] : Aln (n + 1) (.tup [d1, d2, d3, d4]) := aln_tup (Nat.le_trans (show 4 ≤ 4 by decide) (by decide))
instance : Aln (n + 1) (.tup []) := aln_tup (by decide)
instance : Aln (n + 1) (.lst []) := aln_lst (by decide)
instance [h : Aln n d] : Aln (n + 1) (.lst [d]) := aln_lst (Nat.le_trans (show 1 ≤ 3 by decide) (by decide))
instance {d1 d2 : D} [h : Aln n d1] [g : Aln n d2] : Aln (n + 1) (.lst [d1, d2]) := aln_lst (Nat.le_trans (show 2 ≤ 3 by decide) (by decide))
instance {d1 d2 d3 : D} [h : Aln n d1] [g : Aln n d2] [g3 : Aln n d3] : Aln (n + 1) (.lst [d1, d2, d3]) := aln_lst (Nat.le_trans (show 3 ≤ 3 by decide) (by decide))
end
theorem all_range_eq {α : Type} [DecidableEq α] (ds es : List α) (h : ds.length = es.length) : ((List.range es.length).all fun k => decide (ds[k]? = es[k]?)) = decide (ds = es) := by
  rw [Bool.eq_iff_iff, List.all_eq_true, decide_eq_true_iff]
  constructor
  · intro g
    apply List.ext_getElem?
    intro k
    by_cases hk : k < es.length
    · exact of_decide_eq_true (g k (List.mem_range.mpr hk))
    · rw [List.getElem?_eq_none (by omega), List.getElem?_eq_none (by omega)]
  · rintro rfl k _
    exact decide_eq_true rfl
end Hw
namespace Cm
open PySem PySem.Spec L2 Hw
theorem alike_flat (n : Nat) (d e : D) (h : alB 0 d = true) (g : alB 0 e = true) : m_l_alike (n + 1) [.fz d, .fz e] [] = .ok (.bl (decide (d = e))) [] := by
  cases d <;> first | (cases h; done) | (cases e <;> first | (cases g; done) | skip)
  all_goals first | (simp! [m_l_alike, b_l_alike, Bool.beq_eq_decide_eq]; done) | skip
  all_goals first | (simp! [m_l_alike, b_l_alike, Bool.beq_eq_decide_eq, beq_self_eq_true]; done) | skip
  all_goals
    rename_i x y
    haveI : StrOk x := ⟨h⟩
    haveI : StrOk y := ⟨g⟩
    simp! [m_l_alike, b_l_alike, Bool.beq_eq_decide_eq, beq_self_eq_true]
theorem alike_seq (n : Nat) (ds es : List D) (hd : ds.length ≤ 16777216) (he : es.length ≤ 16777216) (ih : ∀ d ∈ ds, ∀ e ∈ es, m_l_alike n [.fz d, .fz e] [] = .ok (.bl (decide (d = e))) []) :
    m_l_alike (n + 1) [.fz (.lst ds), .fz (.lst es)] [] = .ok (.bl (decide (ds = es))) [] ∧ m_l_alike (n + 1) [.fz (.tup ds), .fz (.tup es)] [] = .ok (.bl (decide (ds = es))) [] := by
  by_cases hl : ds.length = es.length
  · have key : ∀ (x y : D), (∀ i : Nat, dIx x (.int i) = ds[i]?) → (∀ i : Nat, dIx y (.int i) = es[i]?) → lcL (gN 2) tYes (eCall (m_l_alike n) (rCons (eBin dIx (eVarB 0) (eVarB 2)) (rCons (eBin dIx (eVarB 1) (eVarB 2)) rNil))) [.fz x, .fz y, .no] ((List.range es.length).map fun (n : Nat) => D.int n) [] = .ok ((List.range es.length).map fun k => .bl (decide (ds[k]? = es[k]?))) [] := by
      intro x y hx hy
      refine lc_map (fun k => .bl (decide (ds[k]? = es[k]?))) fun k hk => ⟨_, rfl, ?_⟩
      have hk' : k < es.length := List.mem_range.mp hk
      have h1 := List.getElem?_eq_getElem (l := ds) (i := k) (by omega)
      have h2 := List.getElem?_eq_getElem (l := es) (i := k) hk'
      simp! [hx, hy, h1, h2, ih _ (List.getElem_mem _) _ (List.getElem_mem _), Option.some.injEq]
    have kl := key (.lst ds) (.lst es) (fun i => Zfo i) (fun i => Zfo i)
    have kt := key (.tup ds) (.tup es) (fun i => Zfo i) (fun i => Zfo i)
    constructor
    · simp! (disch := omega) [m_l_alike, b_l_alike, Bool.beq_eq_decide_eq, beq_self_eq_true, hl, rng_if, kl, List.length_map, List.length_range, he, cAll_map, all_range_eq _ _ hl]
    · simp! (disch := omega) [m_l_alike, b_l_alike, Bool.beq_eq_decide_eq, beq_self_eq_true, hl, rng_if, kt, List.length_map, List.length_range, he, cAll_map, all_range_eq _ _ hl]
  · have hne : ¬ ds = es := fun h => hl (by rw [h])
    have hl' : ¬ (ds.length : Int) = es.length := by omega
    constructor <;> simp! [m_l_alike, b_l_alike, Bool.beq_eq_decide_eq, beq_self_eq_true, hl', hne]
theorem alike_mix (n : Nat) (d e : D) (ds : List D) (h : (alB 0 d = true ∧ (e = .lst ds ∨ e = .tup ds)) ∨ (alB 0 e = true ∧ (d = .lst ds ∨ d = .tup ds)) ∨ (d = .lst ds ∧ ∃ es, e = .tup es) ∨ (d = .tup ds ∧ ∃ es, e = .lst es)) : m_l_alike (n + 1) [.fz d, .fz e] [] = .ok (.bl (decide (d = e))) [] := by
  rcases h with ⟨h, rfl | rfl⟩ | ⟨h, rfl | rfl⟩ | ⟨rfl, es, rfl⟩ | ⟨rfl, es, rfl⟩
  · cases d <;> first | (cases h; done) | (simp! [m_l_alike, b_l_alike, Bool.beq_eq_decide_eq, beq_self_eq_true]; done)
  · cases d <;> first | (cases h; done) | (simp! [m_l_alike, b_l_alike, Bool.beq_eq_decide_eq, beq_self_eq_true]; done)
  · cases e <;> first | (cases h; done) | (simp! [m_l_alike, b_l_alike, Bool.beq_eq_decide_eq, beq_self_eq_true]; done)
  · cases e <;> first | (cases h; done) | (simp! [m_l_alike, b_l_alike, Bool.beq_eq_decide_eq, beq_self_eq_true]; done)
  · simp! [m_l_alike, b_l_alike, Bool.beq_eq_decide_eq, beq_self_eq_true]
  · simp! [m_l_alike, b_l_alike, Bool.beq_eq_decide_eq, beq_self_eq_true]
theorem alB_0 {n : Nat} {d : D} (h : alB n d = true) : alB 0 d = true ∨ ∃ ds, (d = .lst ds ∨ d = .tup ds) ∧ ∃ m, n = m + 1 ∧ ds.all (alB m) = true ∧ ds.length ≤ 16777216 := by
  cases d <;> first | (cases n <;> cases h; done) | skip
  · exact .inl rfl
  · exact .inl rfl
  · exact .inl rfl
  · exact .inl (by cases n <;> exact h)
  · cases n with
    | zero => cases h
    | succ m =>
      unfold alB at h
      rw [Bool.and_eq_true, decide_eq_true_iff] at h
      exact .inr ⟨_, .inl rfl, m, rfl, h.1, h.2⟩
  · cases n with
    | zero => cases h
    | succ m =>
      unfold alB at h
      rw [Bool.and_eq_true, decide_eq_true_iff] at h
      exact .inr ⟨_, .inr rfl, m, rfl, h.1, h.2⟩
theorem alike_ok : ∀ (n : Nat) (d e : D), alB n d = true → alB n e = true → m_l_alike (n + 1) [.fz d, .fz e] [] = .ok (.bl (decide (d = e))) [] := by
  intro n
  induction n with
  | zero => exact fun d e => alike_flat 0 d e
  | succ n ih =>
    intro d e h g
    rcases alB_0 h with h | ⟨ds, hd, m, hm, h1, h2⟩
    · rcases alB_0 g with g | ⟨es, he, m, hm, g1, g2⟩
      · exact alike_flat _ d e h g
      · exact alike_mix _ d e es (.inl ⟨h, he⟩)
    · rcases alB_0 g with g | ⟨es, he, m', hm', g1, g2⟩
      · exact alike_mix _ d e ds (.inr (.inl ⟨g, hd⟩))
      · cases hm; cases hm'
        obtain ⟨k1, k2⟩ := alike_seq (n + 1) ds es h2 g2 fun d hd e he => ih d e (List.all_eq_true.mp h1 d hd) (List.all_eq_true.mp g1 e he)
        rcases hd with rfl | rfl <;> rcases he with rfl | rfl
        · rw [k1]; simp only [D.lst.injEq]
        · exact alike_mix _ _ _ ds (.inr (.inr (.inl ⟨rfl, es, rfl⟩)))
        · exact alike_mix _ _ _ ds (.inr (.inr (.inr ⟨rfl, es, rfl⟩)))
        · rw [k2]; simp only [D.tup.injEq]
end Cm
set_option maxHeartbeats 400000
namespace Hw
open PySem PySem.Spec L2
theorem eqv_int (a b : Int) : PyData.eqv (.int a) (.int b) = decide (a = b) := by
  show (a == b) = decide (a = b)
  exact (Bool.eq_iff_iff.mpr (by simp))
theorem okPd_int (a : Int) : okPd (.int a) = true := rfl
theorem dEq_int (a b : Int) : dEq (.int a) (.int b) = some (.bl (decide (a = b))) := by
  unfold dEq
  rw [okPd_int, okPd_int, Bool.and_self, if_pos rfl]
  show some (D.bl (PyData.eqv (.int a) (.int b))) = _
  rw [eqv_int]
theorem dLt_int (a b : Int) : dLt (.int a) (.int b) = some (.bl (decide (a < b))) := rfl
theorem dGt_int (a b : Int) : dGt (.int a) (.int b) = some (.bl (decide (b < a))) := rfl
theorem dGe_int (a b : Int) : dGe (.int a) (.int b) = some (.bl (decide (b ≤ a))) := rfl
theorem dAdd_int (a b : Int) : dAdd (.int a) (.int b) = some (.int (a + b)) := rfl
theorem dMod_int {a b : Int} (h : 0 < b) : dMod (.int a) (.int b) = some (.int (a % b)) := by
  simp [dMod, dInt, h]
theorem dFdiv_int {a b : Int} (h : 0 < b) (h2 : b.natAbs.log2 < 9000) : dFdiv (.int a) (.int b) = some (.int (a / b)) := by
  simp [dFdiv, dInt, h, h2]
theorem dMul_intR {a b : Int} (h : -(2 ^ 64) < b ∧ b < 2 ^ 64) : dMul (.int a) (.int b) = some (.int (a * b)) := by
  simp only [dMul]
  rw [if_pos (.inl (.inr h))]
theorem dMul_intL {a b : Int} (h : -(2 ^ 64) < a ∧ a < 2 ^ 64) : dMul (.int a) (.int b) = some (.int (a * b)) := by
  simp only [dMul]
  rw [if_pos (.inl (.inl h))]
theorem dPow_int {a b : Int} (h : 0 ≤ b ∧ b ≤ 1000000 ∧ a.natAbs < 2 ^ 64) : dPow (.int a) (.int b) = some (.int (a ^ b.toNat)) := by
  simp only [dPow, dInt]
  rw [if_pos h]
  rfl
end Hw
set_option maxHeartbeats 400000
namespace Cm
open PySem PySem.Spec L2 Hw
def bagD (cs : List Int) (i x y z : Int) : D := .lst [.lst (cs.map D.int), .int i, .int x, .int y, .int z]
theorem io_ix (cs : List Int) (i x y z : Int) (ρ : Rho) (h : ρ[0]? = some (.io 0)) : eIoIx 0 0 ρ [bagD cs i x y z] = .ok (.lst (cs.map D.int)) [bagD cs i x y z] ∧ eIoIx 0 1 ρ [bagD cs i x y z] = .ok (.int i) [bagD cs i x y z] ∧ eIoIx 0 2 ρ [bagD cs i x y z] = .ok (.int x) [bagD cs i x y z] ∧
    eIoIx 0 3 ρ [bagD cs i x y z] = .ok (.int y) [bagD cs i x y z] ∧ eIoIx 0 4 ρ [bagD cs i x y z] = .ok (.int z) [bagD cs i x y z] := by
  refine ⟨?_, ?_, ?_, ?_, ?_⟩ <;> (unfold eIoIx; rw [h]; rfl)
theorem put2 (cs : List Int) (i x y z v : Int) (ρ : Rho) (h : ρ[0]? = some (.io 0)) (m : SE) (hm : m ρ [bagD cs i x y z] = .ok (.int v) [bagD cs i x y z]) : sPut 0 (eC (.int 2)) m ρ [bagD cs i x y z] = .nx ρ [bagD cs i v y z] := by
  unfold sPut
  rw [hm]
  simp only [Out.andS, getC, h, eC]
  unfold setC
  rw [h]
  rfl
theorem put1 (cs : List Int) (i x y z v : Int) (ρ : Rho) (h : ρ[0]? = some (.io 0)) (m : SE) (hm : m ρ [bagD cs i x y z] = .ok (.int v) [bagD cs i x y z]) : sPut 0 (eC (.int 1)) m ρ [bagD cs i x y z] = .nx ρ [bagD cs v x y z] := by
  unfold sPut
  rw [hm]
  simp only [Out.andS, getC, h, eC]
  unfold setC
  rw [h]
  rfl
theorem put3 (cs : List Int) (i x y z v : Int) (ρ : Rho) (h : ρ[0]? = some (.io 0)) (m : SE) (hm : m ρ [bagD cs i x y z] = .ok (.int v) [bagD cs i x y z]) : sPut 0 (eC (.int 3)) m ρ [bagD cs i x y z] = .nx ρ [bagD cs i x v z] := by
  unfold sPut
  rw [hm]
  simp only [Out.andS, getC, h, eC]
  unfold setC
  rw [h]
  rfl
theorem put4 (cs : List Int) (i x y z v : Int) (ρ : Rho) (h : ρ[0]? = some (.io 0)) (m : SE) (hm : m ρ [bagD cs i x y z] = .ok (.int v) [bagD cs i x y z]) : sPut 0 (eC (.int 4)) m ρ [bagD cs i x y z] = .nx ρ [bagD cs i x y v] := by
  unfold sPut
  rw [hm]
  simp only [Out.andS, getC, h, eC]
  unfold setC
  rw [h]
  rfl
theorem bin_int {f : D → D → Option D} {a b : SE} {ρ : Rho} {τ : Tau} {i j : Int} {z : D} (ha : a ρ τ = .ok (.int i) τ) (hb : b ρ τ = .ok (.int j) τ) (hf : f (.int i) (.int j) = some z) : eBin f a b ρ τ = .ok z τ := by
  unfold eBin
  rw [ha]
  simp only [Out.bind]
  rw [hb]
  simp only [Out.bind, Out.of, hf]
theorem seq_nx {a b : SS} {ρ ρ1 : Rho} {τ τ1 : Tau} (h : a ρ τ = .nx ρ1 τ1) : sSeq a b ρ τ = b ρ1 τ1 := by
  unfold sSeq
  rw [h]
theorem seq_ret {a b : SS} {ρ : Rho} {τ τ1 : Tau} {d : D} (h : a ρ τ = .ret d τ1) : sSeq a b ρ τ = .ret d τ1 := by
  unfold sSeq
  rw [h]
theorem if_t {t : ST} {a b : SS} {ρ : Rho} {τ τ1 : Tau} (h : t ρ τ = .ok true τ1) : sIf t a b ρ τ = a ρ τ1 := by
  unfold sIf
  rw [h]
  simp only [Out.andS, if_pos]
theorem if_f {t : ST} {a b : SS} {ρ : Rho} {τ τ1 : Tau} (h : t ρ τ = .ok false τ1) : sIf t a b ρ τ = b ρ τ1 := by
  unfold sIf
  rw [h]
  simp [Out.andS]
theorem set_ok' {i : Nat} {m : SE} {ρ : Rho} {τ τ1 : Tau} {d : D} (h : m ρ τ = .ok d τ1) : sSet i m ρ τ = .nx (ρ.set i (.fz d)) τ1 := by
  unfold sSet
  rw [h]
  rfl
theorem ret_ok' {m : SE} {ρ : Rho} {τ τ1 : Tau} {d : D} (h : m ρ τ = .ok d τ1) : sRet m ρ τ = .ret d τ1 := by
  unfold sRet
  rw [h]
  rfl
theorem tof_ok {m : SE} {ρ : Rho} {τ τ1 : Tau} {b : Bool} (h : m ρ τ = .ok (.bl b) τ1) : tOf m ρ τ = .ok b τ1 := by
  unfold tOf
  rw [h]
  rfl
def tkTail : SS := sSeq (sIf (tOf (eBin dGt (eIoIx 0 2) (eC (.int 0)))) (sSeq (sSet 3 (eBin dMod (eIoIx 0 2) (eVarB 1)))
    (sSeq (sPut 0 (eC (.int 2)) (eBin dFdiv (eIoIx 0 2) (eVarB 1)))
    (sRet (eVar 3)))) (sNext))
    (sSeq (sPut 0 (eC (.int 4)) (eBin dAdd (eIoIx 0 4) (eC (.int 1))))
    (sSeq (sSet 4 (eBin dMod (eBin dAdd (eIoIx 0 3) (eBin dMul (eIoIx 0 4) (eC (.int 9241)))) (eC (.int 2147483647))))
    (sSeq (sPut 0 (eC (.int 3)) (eBin dMod (eBin dAdd (eBin dAdd (eBin dPow (eVarB 4) (eC (.int 3))) (eBin dMul (eC (.int 50021)) (eVarB 4))) (eC (.int 4099))) (eC (.int 2147483647))))
    (sRet (eBin dMod (eBin dAdd (eBin dFdiv (eIoIx 0 3) (eC (.int 67))) (eBin dMul (eBin dMod (eIoIx 0 3) (eC (.int 7919))) (eC (.int 37)))) (eVarB 1))))))
theorem varB {ρ : Rho} {τ : Tau} {i : Nat} {d : D} (h : ρ[i]? = some (.fz d)) : eVarB i ρ τ = .ok d τ := by
  unfold eVarB
  rw [h]
theorem tail_ok (cs : List Int) (i x y z n : Int) (a b c : Sv) (h1 : 1 ≤ n) (h2 : n.natAbs.log2 < 9000) (hx : 0 ≤ x) : ∃ v i' x' y' z', tkTail [.io 0, .fz (.int n), a, b, c] [bagD cs i x y z] = .ret (.int v) [bagD cs i' x' y' z'] ∧ 0 ≤ v ∧ v < n ∧ i' = i ∧ 0 ≤ x' := by
  have k : ∀ (j : Int) (ρ : Rho) (τ : Tau), eC (.int j) ρ τ = .ok (.int j) τ := fun _ _ _ => rfl
  by_cases c1 : 0 < x
  · refine ⟨x % n, i, x / n, y, z, ?_, Int.emod_nonneg _ (by omega), Int.emod_lt_of_pos _ (by omega), rfl, Int.ediv_nonneg hx (by omega)⟩
    unfold tkTail
    have e1 := tof_ok (bin_int (f := dGt) (io_ix cs i x y z [.io 0, .fz (.int n), a, b, c] rfl).2.2.1 (k 0 _ _) (by rw [dGt_int, decide_eq_true c1]))
    refine (seq_ret ((if_t e1).trans ?_))
    have e2 := bin_int (f := dMod) (io_ix cs i x y z [.io 0, .fz (.int n), a, b, c] rfl).2.2.1 (varB (i := 1) (d := .int n) rfl) (dMod_int (a := x) (b := n) (by omega))
    refine (seq_nx (set_ok' (i := 3) e2)).trans ?_
    have e3 := bin_int (f := dFdiv) (io_ix cs i x y z [.io 0, .fz (.int n), a, .fz (.int (x % n)), c] rfl).2.2.1 (varB (i := 1) (d := .int n) rfl) (dFdiv_int (a := x) (b := n) (by omega) h2)
    exact (seq_nx (put2 cs i x y z (x / n) [.io 0, .fz (.int n), a, .fz (.int (x % n)), c] rfl _ e3)).trans (ret_ok' rfl)
  · have hx0 : x = 0 := by omega
    subst hx0
    have e1 := tof_ok (bin_int (f := dGt) (io_ix cs i 0 y z [.io 0, .fz (.int n), a, b, c] rfl).2.2.1 (k 0 _ _) (by rw [dGt_int, decide_eq_false (by omega)]))
    have q : ∃ v y', tkTail [.io 0, .fz (.int n), a, b, c] [bagD cs i 0 y z] = .ret (.int (v % n)) [bagD cs i 0 y' (z + 1)] := by
      unfold tkTail
      have e2 := bin_int (f := dAdd) (io_ix cs i 0 y z [.io 0, .fz (.int n), a, b, c] rfl).2.2.2.2 (k 1 _ _) (dAdd_int _ _)
      have e3 := bin_int (f := dMod) (bin_int (f := dAdd) (io_ix cs i 0 y (z + 1) [.io 0, .fz (.int n), a, b, c] rfl).2.2.2.1 (bin_int (f := dMul) (io_ix cs i 0 y (z + 1) [.io 0, .fz (.int n), a, b, c] rfl).2.2.2.2 (k 9241 _ _) (dMul_intR (by omega))) (dAdd_int _ _)) (k 2147483647 _ _) (dMod_int (by omega))
      have hs := Int.emod_nonneg (y + (z + 1) * 9241) (b := 2147483647) (by omega)
      have hs2 := Int.emod_lt_of_pos (y + (z + 1) * 9241) (b := 2147483647) (by omega)
      generalize (y + (z + 1) * 9241) % 2147483647 = sd at e3 hs hs2
      have v4 : ∀ τ : Tau, eVarB 4 [.io 0, .fz (.int n), a, b, .fz (.int sd)] τ = .ok (.int sd) τ := fun τ => rfl
      have e4 := bin_int (f := dMod) (bin_int (f := dAdd) (bin_int (f := dAdd) (bin_int (f := dPow) (v4 [bagD cs i 0 y (z + 1)]) (k 3 _ _) (dPow_int ⟨by omega, by omega, by omega⟩)) (bin_int (f := dMul) (k 50021 _ _) (v4 _) (dMul_intL (by omega))) (dAdd_int _ _)) (k 4099 _ _) (dAdd_int _ _)) (k 2147483647 _ _) (dMod_int (by omega))
      generalize (sd ^ Int.toNat 3 + 50021 * sd + 4099) % 2147483647 = w at e4
      have e5 := bin_int (f := dMod) (bin_int (f := dAdd) (bin_int (f := dFdiv) (io_ix cs i 0 w (z + 1) [.io 0, .fz (.int n), a, b, .fz (.int sd)] rfl).2.2.2.1 (k 67 _ _) (dFdiv_int (by omega) (by decide))) (bin_int (f := dMul) (bin_int (f := dMod) (io_ix cs i 0 w (z + 1) [.io 0, .fz (.int n), a, b, .fz (.int sd)] rfl).2.2.2.1 (k 7919 _ _) (dMod_int (by omega))) (k 37 _ _) (dMul_intR (by omega))) (dAdd_int _ _)) (varB (i := 1) (d := .int n) rfl) (dMod_int (by omega))
      exact ⟨_, w, (seq_nx ((if_f e1).trans rfl)).trans ((seq_nx (put4 cs i 0 y z (z + 1) _ rfl _ e2)).trans ((seq_nx (set_ok' (i := 4) e3)).trans ((seq_nx (put3 cs i 0 y (z + 1) w [.io 0, .fz (.int n), a, b, .fz (.int sd)] rfl _ e4)).trans (ret_ok' e5))))⟩
    obtain ⟨v, y', q⟩ := q
    exact ⟨v % n, i, 0, y', z + 1, q, Int.emod_nonneg _ (by omega), Int.emod_lt_of_pos _ (by omega), rfl, Int.le_refl _⟩
end Cm
set_option maxHeartbeats 400000
namespace Cm
open PySem PySem.Spec L2 Hw
def tkHead : SS := sIf (tAnd (tOf (eBin dEq (eIoIx 0 2) (eC (.int 0)))) (tOf (eBin dLt (eIoIx 0 1) (eCallB cLen (aCons (eIoIx 0 0) (aNil)))))) (sSeq (sSet 2 (eBin dIx (eIoIx 0 0) (eIoIx 0 1)))
    (sSeq (sPut 0 (eC (.int 1)) (eBin dAdd (eIoIx 0 1) (eC (.int 1))))
    (sIf (tOf (eBin dGe (eVarB 2) (eBin dPow (eC (.int 10)) (eC (.int 18))))) (sPut 0 (eC (.int 2)) (eVar 2)) (sPut 0 (eC (.int 3)) (eBin dMod (eBin dAdd (eBin dAdd (eBin dMul (eIoIx 0 3) (eC (.int 40013))) (eBin dMod (eVarB 2) (eC (.int 2147483563)))) (eC (.int 7))) (eC (.int 2147483647))))))) (sNext)
theorem b_take_eq : b_l_take = sSeq tkHead tkTail := rfl
theorem and_f {a b : ST} {ρ : Rho} {τ τ1 : Tau} (h : a ρ τ = .ok false τ1) : tAnd a b ρ τ = .ok false τ1 := by
  unfold Hw.tAnd
  rw [h]
  rfl
theorem and_t {a b : ST} {ρ : Rho} {τ τ1 : Tau} (h : a ρ τ = .ok true τ1) : tAnd a b ρ τ = b ρ τ1 := by
  unfold Hw.tAnd
  rw [h]
  rfl
theorem kk (j : Int) (ρ : Rho) (τ : Tau) : eC (.int j) ρ τ = .ok (.int j) τ := rfl
theorem ix_cs (cs : List Int) (i : Int) (h : 0 ≤ i) (h2 : i < cs.length) : ∃ v, dIx (.lst (cs.map D.int)) (.int i) = some (.int v) := by
  have hn : i.toNat < cs.length := by omega
  refine ⟨cs[i.toNat]'hn, ?_⟩
  show atI (cs.map D.int) i = _
  unfold atI
  have e : ixN cs.length i = some i.toNat := by
    unfold ixN
    simp [h, h2, hn]
    try omega
  simp [e, hn, List.getElem?_eq_getElem]
theorem head_ok (cs : List Int) (i x y z n : Int) (hi : 0 ≤ i) (hx : 0 ≤ x) : ∃ a i' x' y', tkHead [.io 0, .fz (.int n), .no, .no, .no] [bagD cs i x y z] = .nx [.io 0, .fz (.int n), a, .no, .no] [bagD cs i' x' y' z] ∧ 0 ≤ i' ∧ 0 ≤ x' := by
  unfold tkHead
  have e1 := tof_ok (bin_int (f := dEq) (io_ix cs i x y z [.io 0, .fz (.int n), .no, .no, .no] rfl).2.2.1 (kk 0 _ _) (dEq_int _ _))
  by_cases c1 : x = 0
  · have el : eCallB cLen (aCons (eIoIx 0 0) (aNil)) [.io 0, .fz (.int n), .no, .no, .no] [bagD cs i x y z] = .ok (.int cs.length) [bagD cs i x y z] := by
      unfold eCallB aCons aNil
      rw [(io_ix cs i x y z [.io 0, .fz (.int n), .no, .no, .no] rfl).1]
      simp [Out.bind, Out.of, cLen]
    have e2 := tof_ok (bin_int (f := dLt) (io_ix cs i x y z [.io 0, .fz (.int n), .no, .no, .no] rfl).2.1 el (dLt_int _ _))
    have e3 := (and_t (b := tOf (eBin dLt (eIoIx 0 1) (eCallB cLen (aCons (eIoIx 0 0) (aNil))))) (e1.trans (by rw [decide_eq_true c1]))).trans e2
    by_cases c2 : i < cs.length
    · rw [decide_eq_true c2] at e3
      obtain ⟨v, hv⟩ := ix_cs cs i hi c2
      have s1 := set_ok' (i := 2) (m := eBin dIx (eIoIx 0 0) (eIoIx 0 1)) (d := .int v) (ρ := [.io 0, .fz (.int n), .no, .no, .no]) (τ := [bagD cs i x y z]) (τ1 := [bagD cs i x y z]) (by
        unfold eBin
        rw [(io_ix cs i x y z [.io 0, .fz (.int n), .no, .no, .no] rfl).1]
        simp only [Out.bind]
        rw [(io_ix cs i x y z [.io 0, .fz (.int n), .no, .no, .no] rfl).2.1]
        simp only [Out.bind, Out.of, hv])
      have s2 := put1 cs i x y z (i + 1) [.io 0, .fz (.int n), .fz (.int v), .no, .no] rfl _ (bin_int (f := dAdd) (io_ix cs i x y z _ rfl).2.1 (kk 1 _ _) (dAdd_int _ _))
      have vb : ∀ τ, eVarB 2 [.io 0, .fz (.int n), .fz (.int v), .no, .no] τ = .ok (.int v) τ := fun τ => rfl
      have ep : ∀ τ, eBin dPow (eC (.int 10)) (eC (.int 18)) [.io 0, .fz (.int n), .fz (.int v), .no, .no] τ = .ok (.int (10 ^ (18 : Int).toNat)) τ := fun τ => bin_int (f := dPow) (kk 10 _ _) (kk 18 _ _) (dPow_int ⟨by omega, by omega, by decide⟩)
      have e4 := tof_ok (bin_int (f := dGe) (vb [bagD cs (i + 1) x y z]) (ep _) (dGe_int _ _))
      by_cases c3 : v ≥ 10 ^ (18 : Int).toNat
      · rw [decide_eq_true c3] at e4
        have s3 := put2 cs (i + 1) x y z v [.io 0, .fz (.int n), .fz (.int v), .no, .no] rfl (eVar 2) rfl
        exact ⟨_, _, _, _, (if_t e3).trans ((seq_nx s1).trans ((seq_nx s2).trans ((if_t e4).trans s3))), by omega, Int.le_trans (by decide) c3⟩
      · rw [decide_eq_false c3] at e4
        have e5 := bin_int (f := dMod) (bin_int (f := dAdd) (bin_int (f := dAdd) (bin_int (f := dMul) (io_ix cs (i + 1) x y z [.io 0, .fz (.int n), .fz (.int v), .no, .no] rfl).2.2.2.1 (kk 40013 _ _) (dMul_intR (by omega))) (bin_int (f := dMod) (vb _) (kk 2147483563 _ _) (dMod_int (by omega))) (dAdd_int _ _)) (kk 7 _ _) (dAdd_int _ _)) (kk 2147483647 _ _) (dMod_int (by omega))
        have s3 := put3 cs (i + 1) x y z _ [.io 0, .fz (.int n), .fz (.int v), .no, .no] rfl _ e5
        exact ⟨_, _, _, _, (if_t e3).trans ((seq_nx s1).trans ((seq_nx s2).trans ((if_f e4).trans s3))), by omega, hx⟩
    · rw [decide_eq_false c2] at e3
      exact ⟨_, _, _, _, (if_f e3).trans rfl, hi, hx⟩
  · have e3 := and_f (b := tOf (eBin dLt (eIoIx 0 1) (eCallB cLen (aCons (eIoIx 0 0) (aNil))))) (e1.trans (by rw [decide_eq_false c1]))
    exact ⟨_, _, _, _, (if_f e3).trans rfl, hi, hx⟩
theorem take_ok (cs : List Int) (i x y z n : Int) (h1 : 1 ≤ n) (h2 : n.natAbs.log2 < 9000) (hi : 0 ≤ i) (hx : 0 ≤ x) : ∃ v i' x' y' z', m_l_take [.io 0, .fz (.int n)] [bagD cs i x y z] = .ok (.int v) [bagD cs i' x' y' z'] ∧ 0 ≤ v ∧ v < n ∧ 0 ≤ i' ∧ 0 ≤ x' := by
  obtain ⟨a, i1, x1, y1, e1, g1, g2⟩ := head_ok cs i x y z n hi hx
  obtain ⟨v, i2, x2, y2, z2, e2, g3, g4, g5, g6⟩ := tail_ok cs i1 x1 y1 z n a .no .no h1 h2 g2
  refine ⟨v, i2, x2, y2, z2, ?_, g3, g4, by omega, g6⟩
  have e : b_l_take [.io 0, .fz (.int n), .no, .no, .no] [bagD cs i x y z] = .ret (.int v) [bagD cs i2 x2 y2 z2] := by
    rw [b_take_eq]
    exact (seq_nx e1).trans e2
  show (match b_l_take [.io 0, .fz (.int n), .no, .no, .no] [bagD cs i x y z] with | .ret d τ' => Out.ok d τ' | .nx _ τ' => if false = true then .bad else .ok .non τ' | .exc e _ τ' => .exc e τ' | _ => .bad) = _
  rw [e]
end Cm
set_option maxHeartbeats 400000
namespace Cm
open PySem PySem.Spec L2 Hw
def Good (d : D) : Prop := ∃ (cs : List Int) (i x y z : Int), d = bagD cs i x y z ∧ 0 ≤ i ∧ 0 ≤ x
theorem take_good {d : D} {n : Int} (g : Good d) (h1 : 1 ≤ n) (h2 : n.natAbs.log2 < 9000) : ∃ v d', m_l_take [.io 0, .fz (.int n)] [d] = .ok (.int v) [d'] ∧ 0 ≤ v ∧ v < n ∧ Good d' := by
  obtain ⟨cs, i, x, y, z, rfl, hi, hx⟩ := g
  obtain ⟨v, i', x', y', z', e, a, b, c1, c2⟩ := take_ok cs i x y z n h1 h2 hi hx
  exact ⟨v, _, e, a, b, cs, i', x', y', z', rfl, c1, c2⟩
theorem log2_small {n : Nat} (h : n < 2 ^ 200) : n.log2 < 9000 := by
  by_cases h0 : n = 0
  · subst h0
    decide
  · have := (Nat.log2_lt h0).mpr h
    omega
end Cm
set_option maxHeartbeats 400000
namespace Cm
open PySem PySem.Spec L2 Hw
def bagBody : SS := sSet 1 (eBin dMod (eBin dAdd (eBin dAdd (eBin dMul (eVarB 1) (eC (.int 60811))) (eBin dMod (eVarB 2) (eC (.int 2147483579)))) (eC (.int 23))) (eC (.int 2147483647)))
theorem for_nx {g : SG} {body : SS} {d : D} {ds : List D} {ρ ρ1 ρ2 : Rho} {τ τ2 : Tau} (h1 : g d ρ = some ρ1) (h2 : body ρ1 τ = .nx ρ2 τ2) : forL g body (d :: ds) ρ τ = forL g body ds ρ2 τ2 := by
  conv => lhs; unfold forL
  rw [h1]
  simp only [h2]
theorem bag_loop (d0 : Sv) : ∀ (cs : List Int) (s : Int) (c : Sv), ∃ s' c', forL (gN 2) bagBody (cs.map D.int) [d0, .fz (.int s), c] [] = .nx [d0, .fz (.int s'), c'] [] := by
  intro cs
  induction cs with
  | nil => exact fun s c => ⟨s, c, rfl⟩
  | cons v cs ih =>
    intro s c
    have e : bagBody [d0, .fz (.int s), .fz (.int v)] [] = .nx [d0, .fz (.int (((s * 60811 + v % 2147483579) + 23) % 2147483647)), .fz (.int v)] [] :=
      set_ok' (i := 1) (ρ := [d0, .fz (.int s), .fz (.int v)]) (bin_int (f := dMod) (bin_int (f := dAdd) (bin_int (f := dAdd) (bin_int (f := dMul) (varB (i := 1) (d := .int s) rfl) (kk 60811 _ _) (dMul_intR (by omega))) (bin_int (f := dMod) (varB (i := 2) (d := .int v) rfl) (kk 2147483579 _ _) (dMod_int (by omega))) (dAdd_int _ _)) (kk 23 _ _) (dAdd_int _ _)) (kk 2147483647 _ _) (dMod_int (by omega)))
    obtain ⟨s', c', h⟩ := ih (((s * 60811 + v % 2147483579) + 23) % 2147483647) (.fz (.int v))
    exact ⟨s', c', (for_nx rfl e).trans h⟩
end Cm
set_option maxHeartbeats 400000
namespace Cm
open PySem PySem.Spec L2 Hw
theorem bag_good (ns : List Int) : ∃ d, m_l_bag [.fz (.scr ns)] [] = .ok d [] ∧ Good d := by
  have e0 : ∀ a b : Sv, eSl dSl (eVarB 0) (oNo) (oSo (eC (.int 63))) [.fz (.scr ns), a, b] [] = .ok (.lst ((cutD ns none (some 63)).map D.int)) [] := fun _ _ => rfl
  obtain ⟨s', c', h⟩ := bag_loop (.fz (.scr ns)) (cutD ns none (some 63)) 9477 .no
  refine ⟨bagD (cutD ns none (some 63)) 0 0 s' 0, ?_, _, _, _, _, _, rfl, by omega, by omega⟩
  have e1 : sFor (iSqS (eSl dSl (eVarB 0) (oNo) (oSo (eC (.int 63))))) (gN 2) bagBody [.fz (.scr ns), .fz (.int 9477), .no] [] = .nx [.fz (.scr ns), .fz (.int s'), c'] [] := h
  have e2 : b_l_bag [.fz (.scr ns), .no, .no] [] = .ret (bagD (cutD ns none (some 63)) 0 0 s' 0) [] := by
    refine (seq_nx (ρ1 := [.fz (.scr ns), .fz (.int 9477), .no]) rfl).trans ((seq_nx e1).trans (ret_ok' ?_))
    rfl
  show (match b_l_bag [.fz (.scr ns), .no, .no] [] with | .ret d τ' => Out.ok d τ' | .nx _ τ' => if true = true then .bad else .ok .non τ' | .exc e _ τ' => .exc e τ' | _ => .bad) = _
  rw [e2]
end Cm
set_option maxHeartbeats 400000
namespace Cm
open PySem PySem.Spec L2 Hw
instance : StrOk "no" := ⟨by decide +kernel⟩
instance : StrOk "told" := ⟨by decide +kernel⟩
instance : StrOk "edge" := ⟨by decide +kernel⟩
instance : StrOk "swap" := ⟨by decide +kernel⟩
instance : StrOk "BadNet" := ⟨by decide +kernel⟩
instance : StrOk "BadNumber" := ⟨by decide +kernel⟩
instance : StrOk "Full" := ⟨by decide +kernel⟩
section
variable {b : Bool} {ds : List D} {i : Int} {lo hi : Option Int} {g : SGs} {ρ : Rho}
end
end Cm
set_option maxHeartbeats 400000
namespace Cm
open PySem PySem.Spec L2 Hw
end Cm
set_option maxHeartbeats 400000
namespace Cm
open PySem PySem.Spec L2 Hw
end Cm
set_option maxHeartbeats 400000
namespace Cm
open PySem PySem.Spec L2 Hw
instance : StrOk "twice" := ⟨by decide +kernel⟩
instance : StrOk "lacking" := ⟨by decide +kernel⟩
instance : StrOk "cube" := ⟨by decide +kernel⟩
end Cm
set_option maxHeartbeats 400000
namespace Cm
open PySem PySem.Spec L2 Hw
end Cm
set_option maxHeartbeats 400000
namespace Cm
open PySem PySem.Spec L2 Hw
def lk : List (List Int) → List (List Int) → List Int → Option (List Int)
  | k :: ks, v :: vs, x => if k = x then some v else lk ks vs x
  | _, _, _ => none
end Cm
set_option maxHeartbeats 400000
namespace Cm
open PySem PySem.Spec L2 Hw
end Cm
set_option maxHeartbeats 400000
namespace Cm
open PySem PySem.Spec L2 Hw
end Cm
set_option maxHeartbeats 400000
namespace Cm
open PySem PySem.Spec L2 Hw
end Cm
set_option maxHeartbeats 400000
namespace Cm
open PySem PySem.Spec L2 Hw
def excO : Option Exc → Out D
  | none => .ok .non []
  | some e => .exc e []
end Cm
set_option maxHeartbeats 400000
namespace Cm
open PySem PySem.Spec L2 Hw
end Cm
set_option maxHeartbeats 1600000
namespace K01
open PySem PySem.Spec L2 Hw Cm
def wrdA : List Str := ["BadNumber", "Full", "BadNet", "BadPath", "BadStep", "BadColors", "BadDegree", "BadPosition", "Apart", "TooLong", "NotClosed", "Bare", "NoBeginning", "Uneven", "BadWeight", "Unbalanced"]
def wrdB : List Str := ["OtherNet", "BadName", "BadKind", "BadDeed", "InUse", "Unsound", "Broken", "Stopped", "BadText", "NoNode", "NoEdge", "NoNet", "NoPath", "NoTiling", "NoWatch", "NothingLeft", "NoSwap"]
def wrdL : List D := wrdA.map D.str ++ wrdB.map D.str
def errL (n m : Int) : List D := match m_l_errors [.fz (.int n), .fz (.int m)] [] with
  | .ok (.lst l) _ => l
  | _ => []
def st6 (s : D) (n m : Int) (y6 y7 y8 y9 : Sv) : Rho := [.fz s, .io 0, .fz (.int n), .fz (.int m), .fz (.lst wrdL), .fz (.lst (errL n m)), y6, y7, y8, y9, .no]
theorem head_ok (s : D) (n m : Int) (τ : Tau) : lt_law_11 [.fz s, .io 0, .fz (.int n), .fz (.int m), .no, .no, .no, .no, .no, .no, .no] τ = lt_law_6 (st6 s n m .no .no .no .no) τ := by
  kernel_rfl
def eA3 : SE := eLst (aCons (eUn (dFldE excL "tag") (eVarB 7)) (aCons (eCall m_l_values (rCons (eVar 7) (rNil))) (aNil)))
def eB3 : SE := eLst (aCons (eBin dIx (eVarB 4) (eVarB 6)) (aCons (eCall m_l_due (rCons (eVar 6) (rCons (eVar 2) (rCons (eVar 3) (rNil))))) (aNil)))
def tst3 (a b : SE) : SS := sIf (tNot (tOf (eCall (m_l_alike 8) (rCons a (rCons b (rNil)))))) (sRet (eC (.bl false))) (sNext)
theorem tst3_ok {a b : SE} {ρ : Rho} {τ : Tau} {x : D} (ha : a ρ τ = .ok x τ) (hb : b ρ τ = .ok x τ) (h : alB 7 x = true) : tst3 a b ρ τ = .nx ρ τ := by
  have hk : m_l_alike 8 [.fz x, .fz x] [] = .ok (.bl true) [] := by rw [alike_ok 7 x x h h, decide_eq_true rfl]
  simp! [tst3, ha, hb, hk]
theorem turn_0 (s : D) (n m : Int) (y7 y8 y9 : Sv) (τ : Tau) : ∃ y7' y8' y9', lb_law_0 (st6 s n m (.fz (.int 0)) y7 y8 y9) τ = .nx (st6 s n m (.fz (.int 0)) y7' y8' y9') τ := by
  have h1 : lb_law_0 (st6 s n m (.fz (.int 0)) y7 y8 y9) τ = tst3 eA3 eB3 (st6 s n m (.fz (.int 0)) (.fz ((errL n m).getD 0 .non)) (.fz (.lst [.bl true, .bl true, .bl false])) (.fz (.bl true))) τ := by kernel_rfl
  have h2 : eA3 (st6 s n m (.fz (.int 0)) (.fz ((errL n m).getD 0 .non)) (.fz (.lst [.bl true, .bl true, .bl false])) (.fz (.bl true))) τ = .ok (.lst [.str "BadNumber", .lst [.int n]]) τ := by kernel_rfl
  have h3 : eB3 (st6 s n m (.fz (.int 0)) (.fz ((errL n m).getD 0 .non)) (.fz (.lst [.bl true, .bl true, .bl false])) (.fz (.bl true))) τ = .ok (.lst [.str "BadNumber", .lst [.int n]]) τ := by kernel_rfl
  exact ⟨_, _, _, h1.trans (tst3_ok h2 h3 (by kernel_rfl))⟩
theorem turn_1 (s : D) (n m : Int) (y7 y8 y9 : Sv) (τ : Tau) : ∃ y7' y8' y9', lb_law_0 (st6 s n m (.fz (.int 1)) y7 y8 y9) τ = .nx (st6 s n m (.fz (.int 1)) y7' y8' y9') τ := by
  have h1 : lb_law_0 (st6 s n m (.fz (.int 1)) y7 y8 y9) τ = tst3 eA3 eB3 (st6 s n m (.fz (.int 1)) (.fz ((errL n m).getD 1 .non)) (.fz (.lst [.bl true, .bl true, .bl false])) (.fz (.bl true))) τ := by kernel_rfl
  have h2 : eA3 (st6 s n m (.fz (.int 1)) (.fz ((errL n m).getD 1 .non)) (.fz (.lst [.bl true, .bl true, .bl false])) (.fz (.bl true))) τ = .ok (.lst [.str "Full", .lst [.int n]]) τ := by kernel_rfl
  have h3 : eB3 (st6 s n m (.fz (.int 1)) (.fz ((errL n m).getD 1 .non)) (.fz (.lst [.bl true, .bl true, .bl false])) (.fz (.bl true))) τ = .ok (.lst [.str "Full", .lst [.int n]]) τ := by kernel_rfl
  exact ⟨_, _, _, h1.trans (tst3_ok h2 h3 (by kernel_rfl))⟩
theorem turn_2 (s : D) (n m : Int) (y7 y8 y9 : Sv) (τ : Tau) : ∃ y7' y8' y9', lb_law_0 (st6 s n m (.fz (.int 2)) y7 y8 y9) τ = .nx (st6 s n m (.fz (.int 2)) y7' y8' y9') τ := by
  have h1 : lb_law_0 (st6 s n m (.fz (.int 2)) y7 y8 y9) τ = tst3 eA3 eB3 (st6 s n m (.fz (.int 2)) (.fz ((errL n m).getD 2 .non)) (.fz (.lst [.bl true, .bl true, .bl false])) (.fz (.bl true))) τ := by kernel_rfl
  have h2 : eA3 (st6 s n m (.fz (.int 2)) (.fz ((errL n m).getD 2 .non)) (.fz (.lst [.bl true, .bl true, .bl false])) (.fz (.bl true))) τ = .ok (.lst [.str "BadNet", .lst [.int n]]) τ := by kernel_rfl
  have h3 : eB3 (st6 s n m (.fz (.int 2)) (.fz ((errL n m).getD 2 .non)) (.fz (.lst [.bl true, .bl true, .bl false])) (.fz (.bl true))) τ = .ok (.lst [.str "BadNet", .lst [.int n]]) τ := by kernel_rfl
  exact ⟨_, _, _, h1.trans (tst3_ok h2 h3 (by kernel_rfl))⟩
theorem turn_3 (s : D) (n m : Int) (y7 y8 y9 : Sv) (τ : Tau) : ∃ y7' y8' y9', lb_law_0 (st6 s n m (.fz (.int 3)) y7 y8 y9) τ = .nx (st6 s n m (.fz (.int 3)) y7' y8' y9') τ := by
  have h1 : lb_law_0 (st6 s n m (.fz (.int 3)) y7 y8 y9) τ = tst3 eA3 eB3 (st6 s n m (.fz (.int 3)) (.fz ((errL n m).getD 3 .non)) (.fz (.lst [.bl true, .bl true, .bl false])) (.fz (.bl true))) τ := by kernel_rfl
  have h2 : eA3 (st6 s n m (.fz (.int 3)) (.fz ((errL n m).getD 3 .non)) (.fz (.lst [.bl true, .bl true, .bl false])) (.fz (.bl true))) τ = .ok (.lst [.str "BadPath", .lst [.int n]]) τ := by kernel_rfl
  have h3 : eB3 (st6 s n m (.fz (.int 3)) (.fz ((errL n m).getD 3 .non)) (.fz (.lst [.bl true, .bl true, .bl false])) (.fz (.bl true))) τ = .ok (.lst [.str "BadPath", .lst [.int n]]) τ := by kernel_rfl
  exact ⟨_, _, _, h1.trans (tst3_ok h2 h3 (by kernel_rfl))⟩
theorem turn_4 (s : D) (n m : Int) (y7 y8 y9 : Sv) (τ : Tau) : ∃ y7' y8' y9', lb_law_0 (st6 s n m (.fz (.int 4)) y7 y8 y9) τ = .nx (st6 s n m (.fz (.int 4)) y7' y8' y9') τ := by
  have h1 : lb_law_0 (st6 s n m (.fz (.int 4)) y7 y8 y9) τ = tst3 eA3 eB3 (st6 s n m (.fz (.int 4)) (.fz ((errL n m).getD 4 .non)) (.fz (.lst [.bl true, .bl true, .bl false])) (.fz (.bl true))) τ := by kernel_rfl
  have h2 : eA3 (st6 s n m (.fz (.int 4)) (.fz ((errL n m).getD 4 .non)) (.fz (.lst [.bl true, .bl true, .bl false])) (.fz (.bl true))) τ = .ok (.lst [.str "BadStep", .lst [.int n]]) τ := by kernel_rfl
  have h3 : eB3 (st6 s n m (.fz (.int 4)) (.fz ((errL n m).getD 4 .non)) (.fz (.lst [.bl true, .bl true, .bl false])) (.fz (.bl true))) τ = .ok (.lst [.str "BadStep", .lst [.int n]]) τ := by kernel_rfl
  exact ⟨_, _, _, h1.trans (tst3_ok h2 h3 (by kernel_rfl))⟩
theorem turn_5 (s : D) (n m : Int) (y7 y8 y9 : Sv) (τ : Tau) : ∃ y7' y8' y9', lb_law_0 (st6 s n m (.fz (.int 5)) y7 y8 y9) τ = .nx (st6 s n m (.fz (.int 5)) y7' y8' y9') τ := by
  have h1 : lb_law_0 (st6 s n m (.fz (.int 5)) y7 y8 y9) τ = tst3 eA3 eB3 (st6 s n m (.fz (.int 5)) (.fz ((errL n m).getD 5 .non)) (.fz (.lst [.bl true, .bl true, .bl false])) (.fz (.bl true))) τ := by kernel_rfl
  have h2 : eA3 (st6 s n m (.fz (.int 5)) (.fz ((errL n m).getD 5 .non)) (.fz (.lst [.bl true, .bl true, .bl false])) (.fz (.bl true))) τ = .ok (.lst [.str "BadColors", .lst []]) τ := by kernel_rfl
  have h3 : eB3 (st6 s n m (.fz (.int 5)) (.fz ((errL n m).getD 5 .non)) (.fz (.lst [.bl true, .bl true, .bl false])) (.fz (.bl true))) τ = .ok (.lst [.str "BadColors", .lst []]) τ := by kernel_rfl
  exact ⟨_, _, _, h1.trans (tst3_ok h2 h3 (by kernel_rfl))⟩
theorem turn_6 (s : D) (n m : Int) (y7 y8 y9 : Sv) (τ : Tau) : ∃ y7' y8' y9', lb_law_0 (st6 s n m (.fz (.int 6)) y7 y8 y9) τ = .nx (st6 s n m (.fz (.int 6)) y7' y8' y9') τ := by
  have h1 : lb_law_0 (st6 s n m (.fz (.int 6)) y7 y8 y9) τ = tst3 eA3 eB3 (st6 s n m (.fz (.int 6)) (.fz ((errL n m).getD 6 .non)) (.fz (.lst [.bl true, .bl true, .bl false])) (.fz (.bl true))) τ := by kernel_rfl
  have h2 : eA3 (st6 s n m (.fz (.int 6)) (.fz ((errL n m).getD 6 .non)) (.fz (.lst [.bl true, .bl true, .bl false])) (.fz (.bl true))) τ = .ok (.lst [.str "BadDegree", .lst []]) τ := by kernel_rfl
  have h3 : eB3 (st6 s n m (.fz (.int 6)) (.fz ((errL n m).getD 6 .non)) (.fz (.lst [.bl true, .bl true, .bl false])) (.fz (.bl true))) τ = .ok (.lst [.str "BadDegree", .lst []]) τ := by kernel_rfl
  exact ⟨_, _, _, h1.trans (tst3_ok h2 h3 (by kernel_rfl))⟩
theorem turn_7 (s : D) (n m : Int) (y7 y8 y9 : Sv) (τ : Tau) : ∃ y7' y8' y9', lb_law_0 (st6 s n m (.fz (.int 7)) y7 y8 y9) τ = .nx (st6 s n m (.fz (.int 7)) y7' y8' y9') τ := by
  have h1 : lb_law_0 (st6 s n m (.fz (.int 7)) y7 y8 y9) τ = tst3 eA3 eB3 (st6 s n m (.fz (.int 7)) (.fz ((errL n m).getD 7 .non)) (.fz (.lst [.bl true, .bl true, .bl false])) (.fz (.bl true))) τ := by kernel_rfl
  have h2 : eA3 (st6 s n m (.fz (.int 7)) (.fz ((errL n m).getD 7 .non)) (.fz (.lst [.bl true, .bl true, .bl false])) (.fz (.bl true))) τ = .ok (.lst [.str "BadPosition", .lst []]) τ := by kernel_rfl
  have h3 : eB3 (st6 s n m (.fz (.int 7)) (.fz ((errL n m).getD 7 .non)) (.fz (.lst [.bl true, .bl true, .bl false])) (.fz (.bl true))) τ = .ok (.lst [.str "BadPosition", .lst []]) τ := by kernel_rfl
  exact ⟨_, _, _, h1.trans (tst3_ok h2 h3 (by kernel_rfl))⟩
theorem turn_8 (s : D) (n m : Int) (y7 y8 y9 : Sv) (τ : Tau) : ∃ y7' y8' y9', lb_law_0 (st6 s n m (.fz (.int 8)) y7 y8 y9) τ = .nx (st6 s n m (.fz (.int 8)) y7' y8' y9') τ := by
  have h1 : lb_law_0 (st6 s n m (.fz (.int 8)) y7 y8 y9) τ = tst3 eA3 eB3 (st6 s n m (.fz (.int 8)) (.fz ((errL n m).getD 8 .non)) (.fz (.lst [.bl true, .bl true, .bl false])) (.fz (.bl true))) τ := by kernel_rfl
  have h2 : eA3 (st6 s n m (.fz (.int 8)) (.fz ((errL n m).getD 8 .non)) (.fz (.lst [.bl true, .bl true, .bl false])) (.fz (.bl true))) τ = .ok (.lst [.str "Apart", .lst []]) τ := by kernel_rfl
  have h3 : eB3 (st6 s n m (.fz (.int 8)) (.fz ((errL n m).getD 8 .non)) (.fz (.lst [.bl true, .bl true, .bl false])) (.fz (.bl true))) τ = .ok (.lst [.str "Apart", .lst []]) τ := by kernel_rfl
  exact ⟨_, _, _, h1.trans (tst3_ok h2 h3 (by kernel_rfl))⟩
theorem turn_9 (s : D) (n m : Int) (y7 y8 y9 : Sv) (τ : Tau) : ∃ y7' y8' y9', lb_law_0 (st6 s n m (.fz (.int 9)) y7 y8 y9) τ = .nx (st6 s n m (.fz (.int 9)) y7' y8' y9') τ := by
  have h1 : lb_law_0 (st6 s n m (.fz (.int 9)) y7 y8 y9) τ = tst3 eA3 eB3 (st6 s n m (.fz (.int 9)) (.fz ((errL n m).getD 9 .non)) (.fz (.lst [.bl true, .bl true, .bl false])) (.fz (.bl true))) τ := by kernel_rfl
  have h2 : eA3 (st6 s n m (.fz (.int 9)) (.fz ((errL n m).getD 9 .non)) (.fz (.lst [.bl true, .bl true, .bl false])) (.fz (.bl true))) τ = .ok (.lst [.str "TooLong", .lst []]) τ := by kernel_rfl
  have h3 : eB3 (st6 s n m (.fz (.int 9)) (.fz ((errL n m).getD 9 .non)) (.fz (.lst [.bl true, .bl true, .bl false])) (.fz (.bl true))) τ = .ok (.lst [.str "TooLong", .lst []]) τ := by kernel_rfl
  exact ⟨_, _, _, h1.trans (tst3_ok h2 h3 (by kernel_rfl))⟩
theorem turn_10 (s : D) (n m : Int) (y7 y8 y9 : Sv) (τ : Tau) : ∃ y7' y8' y9', lb_law_0 (st6 s n m (.fz (.int 10)) y7 y8 y9) τ = .nx (st6 s n m (.fz (.int 10)) y7' y8' y9') τ := by
  have h1 : lb_law_0 (st6 s n m (.fz (.int 10)) y7 y8 y9) τ = tst3 eA3 eB3 (st6 s n m (.fz (.int 10)) (.fz ((errL n m).getD 10 .non)) (.fz (.lst [.bl true, .bl true, .bl false])) (.fz (.bl true))) τ := by kernel_rfl
  have h2 : eA3 (st6 s n m (.fz (.int 10)) (.fz ((errL n m).getD 10 .non)) (.fz (.lst [.bl true, .bl true, .bl false])) (.fz (.bl true))) τ = .ok (.lst [.str "NotClosed", .lst []]) τ := by kernel_rfl
  have h3 : eB3 (st6 s n m (.fz (.int 10)) (.fz ((errL n m).getD 10 .non)) (.fz (.lst [.bl true, .bl true, .bl false])) (.fz (.bl true))) τ = .ok (.lst [.str "NotClosed", .lst []]) τ := by kernel_rfl
  exact ⟨_, _, _, h1.trans (tst3_ok h2 h3 (by kernel_rfl))⟩
theorem turn_11 (s : D) (n m : Int) (y7 y8 y9 : Sv) (τ : Tau) : ∃ y7' y8' y9', lb_law_0 (st6 s n m (.fz (.int 11)) y7 y8 y9) τ = .nx (st6 s n m (.fz (.int 11)) y7' y8' y9') τ := by
  have h1 : lb_law_0 (st6 s n m (.fz (.int 11)) y7 y8 y9) τ = tst3 eA3 eB3 (st6 s n m (.fz (.int 11)) (.fz ((errL n m).getD 11 .non)) (.fz (.lst [.bl true, .bl true, .bl false])) (.fz (.bl true))) τ := by kernel_rfl
  have h2 : eA3 (st6 s n m (.fz (.int 11)) (.fz ((errL n m).getD 11 .non)) (.fz (.lst [.bl true, .bl true, .bl false])) (.fz (.bl true))) τ = .ok (.lst [.str "Bare", .lst [.int n]]) τ := by kernel_rfl
  have h3 : eB3 (st6 s n m (.fz (.int 11)) (.fz ((errL n m).getD 11 .non)) (.fz (.lst [.bl true, .bl true, .bl false])) (.fz (.bl true))) τ = .ok (.lst [.str "Bare", .lst [.int n]]) τ := by kernel_rfl
  exact ⟨_, _, _, h1.trans (tst3_ok h2 h3 (by kernel_rfl))⟩
theorem turn_12 (s : D) (n m : Int) (y7 y8 y9 : Sv) (τ : Tau) : ∃ y7' y8' y9', lb_law_0 (st6 s n m (.fz (.int 12)) y7 y8 y9) τ = .nx (st6 s n m (.fz (.int 12)) y7' y8' y9') τ := by
  have h1 : lb_law_0 (st6 s n m (.fz (.int 12)) y7 y8 y9) τ = tst3 eA3 eB3 (st6 s n m (.fz (.int 12)) (.fz ((errL n m).getD 12 .non)) (.fz (.lst [.bl true, .bl true, .bl false])) (.fz (.bl true))) τ := by kernel_rfl
  have h2 : eA3 (st6 s n m (.fz (.int 12)) (.fz ((errL n m).getD 12 .non)) (.fz (.lst [.bl true, .bl true, .bl false])) (.fz (.bl true))) τ = .ok (.lst [.str "NoBeginning", .lst []]) τ := by kernel_rfl
  have h3 : eB3 (st6 s n m (.fz (.int 12)) (.fz ((errL n m).getD 12 .non)) (.fz (.lst [.bl true, .bl true, .bl false])) (.fz (.bl true))) τ = .ok (.lst [.str "NoBeginning", .lst []]) τ := by kernel_rfl
  exact ⟨_, _, _, h1.trans (tst3_ok h2 h3 (by kernel_rfl))⟩
theorem turn_13 (s : D) (n m : Int) (y7 y8 y9 : Sv) (τ : Tau) : ∃ y7' y8' y9', lb_law_0 (st6 s n m (.fz (.int 13)) y7 y8 y9) τ = .nx (st6 s n m (.fz (.int 13)) y7' y8' y9') τ := by
  have h1 : lb_law_0 (st6 s n m (.fz (.int 13)) y7 y8 y9) τ = tst3 eA3 eB3 (st6 s n m (.fz (.int 13)) (.fz ((errL n m).getD 13 .non)) (.fz (.lst [.bl true, .bl true, .bl false])) (.fz (.bl true))) τ := by kernel_rfl
  have h2 : eA3 (st6 s n m (.fz (.int 13)) (.fz ((errL n m).getD 13 .non)) (.fz (.lst [.bl true, .bl true, .bl false])) (.fz (.bl true))) τ = .ok (.lst [.str "Uneven", .lst [.int n, .int m]]) τ := by kernel_rfl
  have h3 : eB3 (st6 s n m (.fz (.int 13)) (.fz ((errL n m).getD 13 .non)) (.fz (.lst [.bl true, .bl true, .bl false])) (.fz (.bl true))) τ = .ok (.lst [.str "Uneven", .lst [.int n, .int m]]) τ := by kernel_rfl
  exact ⟨_, _, _, h1.trans (tst3_ok h2 h3 (by kernel_rfl))⟩
theorem turn_14 (s : D) (n m : Int) (y7 y8 y9 : Sv) (τ : Tau) : ∃ y7' y8' y9', lb_law_0 (st6 s n m (.fz (.int 14)) y7 y8 y9) τ = .nx (st6 s n m (.fz (.int 14)) y7' y8' y9') τ := by
  have h1 : lb_law_0 (st6 s n m (.fz (.int 14)) y7 y8 y9) τ = tst3 eA3 eB3 (st6 s n m (.fz (.int 14)) (.fz ((errL n m).getD 14 .non)) (.fz (.lst [.bl true, .bl true, .bl false])) (.fz (.bl true))) τ := by kernel_rfl
  have h2 : eA3 (st6 s n m (.fz (.int 14)) (.fz ((errL n m).getD 14 .non)) (.fz (.lst [.bl true, .bl true, .bl false])) (.fz (.bl true))) τ = .ok (.lst [.str "BadWeight", .lst [.int n]]) τ := by kernel_rfl
  have h3 : eB3 (st6 s n m (.fz (.int 14)) (.fz ((errL n m).getD 14 .non)) (.fz (.lst [.bl true, .bl true, .bl false])) (.fz (.bl true))) τ = .ok (.lst [.str "BadWeight", .lst [.int n]]) τ := by kernel_rfl
  exact ⟨_, _, _, h1.trans (tst3_ok h2 h3 (by kernel_rfl))⟩
theorem turn_15 (s : D) (n m : Int) (y7 y8 y9 : Sv) (τ : Tau) : ∃ y7' y8' y9', lb_law_0 (st6 s n m (.fz (.int 15)) y7 y8 y9) τ = .nx (st6 s n m (.fz (.int 15)) y7' y8' y9') τ := by
  have h1 : lb_law_0 (st6 s n m (.fz (.int 15)) y7 y8 y9) τ = tst3 eA3 eB3 (st6 s n m (.fz (.int 15)) (.fz ((errL n m).getD 15 .non)) (.fz (.lst [.bl true, .bl true, .bl false])) (.fz (.bl true))) τ := by kernel_rfl
  have h2 : eA3 (st6 s n m (.fz (.int 15)) (.fz ((errL n m).getD 15 .non)) (.fz (.lst [.bl true, .bl true, .bl false])) (.fz (.bl true))) τ = .ok (.lst [.str "Unbalanced", .lst [.int n]]) τ := by kernel_rfl
  have h3 : eB3 (st6 s n m (.fz (.int 15)) (.fz ((errL n m).getD 15 .non)) (.fz (.lst [.bl true, .bl true, .bl false])) (.fz (.bl true))) τ = .ok (.lst [.str "Unbalanced", .lst [.int n]]) τ := by kernel_rfl
  exact ⟨_, _, _, h1.trans (tst3_ok h2 h3 (by kernel_rfl))⟩
theorem turn_16 (s : D) (n m : Int) (y7 y8 y9 : Sv) (τ : Tau) : ∃ y7' y8' y9', lb_law_0 (st6 s n m (.fz (.int 16)) y7 y8 y9) τ = .nx (st6 s n m (.fz (.int 16)) y7' y8' y9') τ := by
  have h1 : lb_law_0 (st6 s n m (.fz (.int 16)) y7 y8 y9) τ = tst3 eA3 eB3 (st6 s n m (.fz (.int 16)) (.fz ((errL n m).getD 16 .non)) (.fz (.lst [.bl true, .bl true, .bl false])) (.fz (.bl true))) τ := by kernel_rfl
  have h2 : eA3 (st6 s n m (.fz (.int 16)) (.fz ((errL n m).getD 16 .non)) (.fz (.lst [.bl true, .bl true, .bl false])) (.fz (.bl true))) τ = .ok (.lst [.str "OtherNet", .lst []]) τ := by kernel_rfl
  have h3 : eB3 (st6 s n m (.fz (.int 16)) (.fz ((errL n m).getD 16 .non)) (.fz (.lst [.bl true, .bl true, .bl false])) (.fz (.bl true))) τ = .ok (.lst [.str "OtherNet", .lst []]) τ := by kernel_rfl
  exact ⟨_, _, _, h1.trans (tst3_ok h2 h3 (by kernel_rfl))⟩
theorem turn_17 (s : D) (n m : Int) (y7 y8 y9 : Sv) (τ : Tau) : ∃ y7' y8' y9', lb_law_0 (st6 s n m (.fz (.int 17)) y7 y8 y9) τ = .nx (st6 s n m (.fz (.int 17)) y7' y8' y9') τ := by
  have h1 : lb_law_0 (st6 s n m (.fz (.int 17)) y7 y8 y9) τ = tst3 eA3 eB3 (st6 s n m (.fz (.int 17)) (.fz ((errL n m).getD 17 .non)) (.fz (.lst [.bl true, .bl true, .bl false])) (.fz (.bl true))) τ := by kernel_rfl
  have h2 : eA3 (st6 s n m (.fz (.int 17)) (.fz ((errL n m).getD 17 .non)) (.fz (.lst [.bl true, .bl true, .bl false])) (.fz (.bl true))) τ = .ok (.lst [.str "BadName", .lst []]) τ := by kernel_rfl
  have h3 : eB3 (st6 s n m (.fz (.int 17)) (.fz ((errL n m).getD 17 .non)) (.fz (.lst [.bl true, .bl true, .bl false])) (.fz (.bl true))) τ = .ok (.lst [.str "BadName", .lst []]) τ := by kernel_rfl
  exact ⟨_, _, _, h1.trans (tst3_ok h2 h3 (by kernel_rfl))⟩
theorem turn_18 (s : D) (n m : Int) (y7 y8 y9 : Sv) (τ : Tau) : ∃ y7' y8' y9', lb_law_0 (st6 s n m (.fz (.int 18)) y7 y8 y9) τ = .nx (st6 s n m (.fz (.int 18)) y7' y8' y9') τ := by
  have h1 : lb_law_0 (st6 s n m (.fz (.int 18)) y7 y8 y9) τ = tst3 eA3 eB3 (st6 s n m (.fz (.int 18)) (.fz ((errL n m).getD 18 .non)) (.fz (.lst [.bl true, .bl true, .bl false])) (.fz (.bl true))) τ := by kernel_rfl
  have h2 : eA3 (st6 s n m (.fz (.int 18)) (.fz ((errL n m).getD 18 .non)) (.fz (.lst [.bl true, .bl true, .bl false])) (.fz (.bl true))) τ = .ok (.lst [.str "BadKind", .lst []]) τ := by kernel_rfl
  have h3 : eB3 (st6 s n m (.fz (.int 18)) (.fz ((errL n m).getD 18 .non)) (.fz (.lst [.bl true, .bl true, .bl false])) (.fz (.bl true))) τ = .ok (.lst [.str "BadKind", .lst []]) τ := by kernel_rfl
  exact ⟨_, _, _, h1.trans (tst3_ok h2 h3 (by kernel_rfl))⟩
theorem turn_19 (s : D) (n m : Int) (y7 y8 y9 : Sv) (τ : Tau) : ∃ y7' y8' y9', lb_law_0 (st6 s n m (.fz (.int 19)) y7 y8 y9) τ = .nx (st6 s n m (.fz (.int 19)) y7' y8' y9') τ := by
  have h1 : lb_law_0 (st6 s n m (.fz (.int 19)) y7 y8 y9) τ = tst3 eA3 eB3 (st6 s n m (.fz (.int 19)) (.fz ((errL n m).getD 19 .non)) (.fz (.lst [.bl true, .bl true, .bl false])) (.fz (.bl true))) τ := by kernel_rfl
  have h2 : eA3 (st6 s n m (.fz (.int 19)) (.fz ((errL n m).getD 19 .non)) (.fz (.lst [.bl true, .bl true, .bl false])) (.fz (.bl true))) τ = .ok (.lst [.str "BadDeed", .lst []]) τ := by kernel_rfl
  have h3 : eB3 (st6 s n m (.fz (.int 19)) (.fz ((errL n m).getD 19 .non)) (.fz (.lst [.bl true, .bl true, .bl false])) (.fz (.bl true))) τ = .ok (.lst [.str "BadDeed", .lst []]) τ := by kernel_rfl
  exact ⟨_, _, _, h1.trans (tst3_ok h2 h3 (by kernel_rfl))⟩
theorem turn_20 (s : D) (n m : Int) (y7 y8 y9 : Sv) (τ : Tau) : ∃ y7' y8' y9', lb_law_0 (st6 s n m (.fz (.int 20)) y7 y8 y9) τ = .nx (st6 s n m (.fz (.int 20)) y7' y8' y9') τ := by
  have h1 : lb_law_0 (st6 s n m (.fz (.int 20)) y7 y8 y9) τ = tst3 eA3 eB3 (st6 s n m (.fz (.int 20)) (.fz ((errL n m).getD 20 .non)) (.fz (.lst [.bl true, .bl true, .bl false])) (.fz (.bl true))) τ := by kernel_rfl
  have h2 : eA3 (st6 s n m (.fz (.int 20)) (.fz ((errL n m).getD 20 .non)) (.fz (.lst [.bl true, .bl true, .bl false])) (.fz (.bl true))) τ = .ok (.lst [.str "InUse", .lst [.int n]]) τ := by kernel_rfl
  have h3 : eB3 (st6 s n m (.fz (.int 20)) (.fz ((errL n m).getD 20 .non)) (.fz (.lst [.bl true, .bl true, .bl false])) (.fz (.bl true))) τ = .ok (.lst [.str "InUse", .lst [.int n]]) τ := by kernel_rfl
  exact ⟨_, _, _, h1.trans (tst3_ok h2 h3 (by kernel_rfl))⟩
theorem turn_21 (s : D) (n m : Int) (y7 y8 y9 : Sv) (τ : Tau) : ∃ y7' y8' y9', lb_law_0 (st6 s n m (.fz (.int 21)) y7 y8 y9) τ = .nx (st6 s n m (.fz (.int 21)) y7' y8' y9') τ := by
  have h1 : lb_law_0 (st6 s n m (.fz (.int 21)) y7 y8 y9) τ = tst3 eA3 eB3 (st6 s n m (.fz (.int 21)) (.fz ((errL n m).getD 21 .non)) (.fz (.lst [.bl true, .bl true, .bl false])) (.fz (.bl true))) τ := by kernel_rfl
  have h2 : eA3 (st6 s n m (.fz (.int 21)) (.fz ((errL n m).getD 21 .non)) (.fz (.lst [.bl true, .bl true, .bl false])) (.fz (.bl true))) τ = .ok (.lst [.str "Unsound", .lst [.int n, .int m]]) τ := by kernel_rfl
  have h3 : eB3 (st6 s n m (.fz (.int 21)) (.fz ((errL n m).getD 21 .non)) (.fz (.lst [.bl true, .bl true, .bl false])) (.fz (.bl true))) τ = .ok (.lst [.str "Unsound", .lst [.int n, .int m]]) τ := by kernel_rfl
  exact ⟨_, _, _, h1.trans (tst3_ok h2 h3 (by kernel_rfl))⟩
theorem turn_22 (s : D) (n m : Int) (y7 y8 y9 : Sv) (τ : Tau) : ∃ y7' y8' y9', lb_law_0 (st6 s n m (.fz (.int 22)) y7 y8 y9) τ = .nx (st6 s n m (.fz (.int 22)) y7' y8' y9') τ := by
  have h1 : lb_law_0 (st6 s n m (.fz (.int 22)) y7 y8 y9) τ = tst3 eA3 eB3 (st6 s n m (.fz (.int 22)) (.fz ((errL n m).getD 22 .non)) (.fz (.lst [.bl true, .bl true, .bl false])) (.fz (.bl true))) τ := by kernel_rfl
  have h2 : eA3 (st6 s n m (.fz (.int 22)) (.fz ((errL n m).getD 22 .non)) (.fz (.lst [.bl true, .bl true, .bl false])) (.fz (.bl true))) τ = .ok (.lst [.str "Broken", .lst [.int n]]) τ := by kernel_rfl
  have h3 : eB3 (st6 s n m (.fz (.int 22)) (.fz ((errL n m).getD 22 .non)) (.fz (.lst [.bl true, .bl true, .bl false])) (.fz (.bl true))) τ = .ok (.lst [.str "Broken", .lst [.int n]]) τ := by kernel_rfl
  exact ⟨_, _, _, h1.trans (tst3_ok h2 h3 (by kernel_rfl))⟩
theorem turn_23 (s : D) (n m : Int) (y7 y8 y9 : Sv) (τ : Tau) : ∃ y7' y8' y9', lb_law_0 (st6 s n m (.fz (.int 23)) y7 y8 y9) τ = .nx (st6 s n m (.fz (.int 23)) y7' y8' y9') τ := by
  have h1 : lb_law_0 (st6 s n m (.fz (.int 23)) y7 y8 y9) τ = tst3 eA3 eB3 (st6 s n m (.fz (.int 23)) (.fz ((errL n m).getD 23 .non)) (.fz (.lst [.bl true, .bl true, .bl false])) (.fz (.bl true))) τ := by kernel_rfl
  have h2 : eA3 (st6 s n m (.fz (.int 23)) (.fz ((errL n m).getD 23 .non)) (.fz (.lst [.bl true, .bl true, .bl false])) (.fz (.bl true))) τ = .ok (.lst [.str "Stopped", .lst [.int n, .int m]]) τ := by kernel_rfl
  have h3 : eB3 (st6 s n m (.fz (.int 23)) (.fz ((errL n m).getD 23 .non)) (.fz (.lst [.bl true, .bl true, .bl false])) (.fz (.bl true))) τ = .ok (.lst [.str "Stopped", .lst [.int n, .int m]]) τ := by kernel_rfl
  exact ⟨_, _, _, h1.trans (tst3_ok h2 h3 (by kernel_rfl))⟩
theorem turn_24 (s : D) (n m : Int) (y7 y8 y9 : Sv) (τ : Tau) : ∃ y7' y8' y9', lb_law_0 (st6 s n m (.fz (.int 24)) y7 y8 y9) τ = .nx (st6 s n m (.fz (.int 24)) y7' y8' y9') τ := by
  have h1 : lb_law_0 (st6 s n m (.fz (.int 24)) y7 y8 y9) τ = tst3 eA3 eB3 (st6 s n m (.fz (.int 24)) (.fz ((errL n m).getD 24 .non)) (.fz (.lst [.bl true, .bl true, .bl false])) (.fz (.bl true))) τ := by kernel_rfl
  have h2 : eA3 (st6 s n m (.fz (.int 24)) (.fz ((errL n m).getD 24 .non)) (.fz (.lst [.bl true, .bl true, .bl false])) (.fz (.bl true))) τ = .ok (.lst [.str "BadText", .lst [.int n]]) τ := by kernel_rfl
  have h3 : eB3 (st6 s n m (.fz (.int 24)) (.fz ((errL n m).getD 24 .non)) (.fz (.lst [.bl true, .bl true, .bl false])) (.fz (.bl true))) τ = .ok (.lst [.str "BadText", .lst [.int n]]) τ := by kernel_rfl
  exact ⟨_, _, _, h1.trans (tst3_ok h2 h3 (by kernel_rfl))⟩
theorem turn_25 (s : D) (n m : Int) (y7 y8 y9 : Sv) (τ : Tau) : ∃ y7' y8' y9', lb_law_0 (st6 s n m (.fz (.int 25)) y7 y8 y9) τ = .nx (st6 s n m (.fz (.int 25)) y7' y8' y9') τ := by
  have h1 : lb_law_0 (st6 s n m (.fz (.int 25)) y7 y8 y9) τ = tst3 eA3 eB3 (st6 s n m (.fz (.int 25)) (.fz ((errL n m).getD 25 .non)) (.fz (.lst [.bl false, .bl false, .bl true])) (.fz (.bl false))) τ := by kernel_rfl
  have h2 : eA3 (st6 s n m (.fz (.int 25)) (.fz ((errL n m).getD 25 .non)) (.fz (.lst [.bl false, .bl false, .bl true])) (.fz (.bl false))) τ = .ok (.lst [.str "NoNode", .lst [.int n]]) τ := by kernel_rfl
  have h3 : eB3 (st6 s n m (.fz (.int 25)) (.fz ((errL n m).getD 25 .non)) (.fz (.lst [.bl false, .bl false, .bl true])) (.fz (.bl false))) τ = .ok (.lst [.str "NoNode", .lst [.int n]]) τ := by kernel_rfl
  exact ⟨_, _, _, h1.trans (tst3_ok h2 h3 (by kernel_rfl))⟩
theorem turn_26 (s : D) (n m : Int) (y7 y8 y9 : Sv) (τ : Tau) : ∃ y7' y8' y9', lb_law_0 (st6 s n m (.fz (.int 26)) y7 y8 y9) τ = .nx (st6 s n m (.fz (.int 26)) y7' y8' y9') τ := by
  have h1 : lb_law_0 (st6 s n m (.fz (.int 26)) y7 y8 y9) τ = tst3 eA3 eB3 (st6 s n m (.fz (.int 26)) (.fz ((errL n m).getD 26 .non)) (.fz (.lst [.bl false, .bl false, .bl true])) (.fz (.bl false))) τ := by kernel_rfl
  have h2 : eA3 (st6 s n m (.fz (.int 26)) (.fz ((errL n m).getD 26 .non)) (.fz (.lst [.bl false, .bl false, .bl true])) (.fz (.bl false))) τ = .ok (.lst [.str "NoEdge", .lst [.int n]]) τ := by kernel_rfl
  have h3 : eB3 (st6 s n m (.fz (.int 26)) (.fz ((errL n m).getD 26 .non)) (.fz (.lst [.bl false, .bl false, .bl true])) (.fz (.bl false))) τ = .ok (.lst [.str "NoEdge", .lst [.int n]]) τ := by kernel_rfl
  exact ⟨_, _, _, h1.trans (tst3_ok h2 h3 (by kernel_rfl))⟩
theorem turn_27 (s : D) (n m : Int) (y7 y8 y9 : Sv) (τ : Tau) : ∃ y7' y8' y9', lb_law_0 (st6 s n m (.fz (.int 27)) y7 y8 y9) τ = .nx (st6 s n m (.fz (.int 27)) y7' y8' y9') τ := by
  have h1 : lb_law_0 (st6 s n m (.fz (.int 27)) y7 y8 y9) τ = tst3 eA3 eB3 (st6 s n m (.fz (.int 27)) (.fz ((errL n m).getD 27 .non)) (.fz (.lst [.bl false, .bl false, .bl true])) (.fz (.bl false))) τ := by kernel_rfl
  have h2 : eA3 (st6 s n m (.fz (.int 27)) (.fz ((errL n m).getD 27 .non)) (.fz (.lst [.bl false, .bl false, .bl true])) (.fz (.bl false))) τ = .ok (.lst [.str "NoNet", .lst [.int n]]) τ := by kernel_rfl
  have h3 : eB3 (st6 s n m (.fz (.int 27)) (.fz ((errL n m).getD 27 .non)) (.fz (.lst [.bl false, .bl false, .bl true])) (.fz (.bl false))) τ = .ok (.lst [.str "NoNet", .lst [.int n]]) τ := by kernel_rfl
  exact ⟨_, _, _, h1.trans (tst3_ok h2 h3 (by kernel_rfl))⟩
theorem turn_28 (s : D) (n m : Int) (y7 y8 y9 : Sv) (τ : Tau) : ∃ y7' y8' y9', lb_law_0 (st6 s n m (.fz (.int 28)) y7 y8 y9) τ = .nx (st6 s n m (.fz (.int 28)) y7' y8' y9') τ := by
  have h1 : lb_law_0 (st6 s n m (.fz (.int 28)) y7 y8 y9) τ = tst3 eA3 eB3 (st6 s n m (.fz (.int 28)) (.fz ((errL n m).getD 28 .non)) (.fz (.lst [.bl false, .bl false, .bl true])) (.fz (.bl false))) τ := by kernel_rfl
  have h2 : eA3 (st6 s n m (.fz (.int 28)) (.fz ((errL n m).getD 28 .non)) (.fz (.lst [.bl false, .bl false, .bl true])) (.fz (.bl false))) τ = .ok (.lst [.str "NoPath", .lst [.int n]]) τ := by kernel_rfl
  have h3 : eB3 (st6 s n m (.fz (.int 28)) (.fz ((errL n m).getD 28 .non)) (.fz (.lst [.bl false, .bl false, .bl true])) (.fz (.bl false))) τ = .ok (.lst [.str "NoPath", .lst [.int n]]) τ := by kernel_rfl
  exact ⟨_, _, _, h1.trans (tst3_ok h2 h3 (by kernel_rfl))⟩
theorem turn_29 (s : D) (n m : Int) (y7 y8 y9 : Sv) (τ : Tau) : ∃ y7' y8' y9', lb_law_0 (st6 s n m (.fz (.int 29)) y7 y8 y9) τ = .nx (st6 s n m (.fz (.int 29)) y7' y8' y9') τ := by
  have h1 : lb_law_0 (st6 s n m (.fz (.int 29)) y7 y8 y9) τ = tst3 eA3 eB3 (st6 s n m (.fz (.int 29)) (.fz ((errL n m).getD 29 .non)) (.fz (.lst [.bl false, .bl false, .bl true])) (.fz (.bl false))) τ := by kernel_rfl
  have h2 : eA3 (st6 s n m (.fz (.int 29)) (.fz ((errL n m).getD 29 .non)) (.fz (.lst [.bl false, .bl false, .bl true])) (.fz (.bl false))) τ = .ok (.lst [.str "NoTiling", .lst [.int n]]) τ := by kernel_rfl
  have h3 : eB3 (st6 s n m (.fz (.int 29)) (.fz ((errL n m).getD 29 .non)) (.fz (.lst [.bl false, .bl false, .bl true])) (.fz (.bl false))) τ = .ok (.lst [.str "NoTiling", .lst [.int n]]) τ := by kernel_rfl
  exact ⟨_, _, _, h1.trans (tst3_ok h2 h3 (by kernel_rfl))⟩
theorem turn_30 (s : D) (n m : Int) (y7 y8 y9 : Sv) (τ : Tau) : ∃ y7' y8' y9', lb_law_0 (st6 s n m (.fz (.int 30)) y7 y8 y9) τ = .nx (st6 s n m (.fz (.int 30)) y7' y8' y9') τ := by
  have h1 : lb_law_0 (st6 s n m (.fz (.int 30)) y7 y8 y9) τ = tst3 eA3 eB3 (st6 s n m (.fz (.int 30)) (.fz ((errL n m).getD 30 .non)) (.fz (.lst [.bl false, .bl false, .bl true])) (.fz (.bl false))) τ := by kernel_rfl
  have h2 : eA3 (st6 s n m (.fz (.int 30)) (.fz ((errL n m).getD 30 .non)) (.fz (.lst [.bl false, .bl false, .bl true])) (.fz (.bl false))) τ = .ok (.lst [.str "NoWatch", .lst [.int n]]) τ := by kernel_rfl
  have h3 : eB3 (st6 s n m (.fz (.int 30)) (.fz ((errL n m).getD 30 .non)) (.fz (.lst [.bl false, .bl false, .bl true])) (.fz (.bl false))) τ = .ok (.lst [.str "NoWatch", .lst [.int n]]) τ := by kernel_rfl
  exact ⟨_, _, _, h1.trans (tst3_ok h2 h3 (by kernel_rfl))⟩
theorem turn_31 (s : D) (n m : Int) (y7 y8 y9 : Sv) (τ : Tau) : ∃ y7' y8' y9', lb_law_0 (st6 s n m (.fz (.int 31)) y7 y8 y9) τ = .nx (st6 s n m (.fz (.int 31)) y7' y8' y9') τ := by
  have h1 : lb_law_0 (st6 s n m (.fz (.int 31)) y7 y8 y9) τ = tst3 eA3 eB3 (st6 s n m (.fz (.int 31)) (.fz ((errL n m).getD 31 .non)) (.fz (.lst [.bl false, .bl false, .bl true])) (.fz (.bl false))) τ := by kernel_rfl
  have h2 : eA3 (st6 s n m (.fz (.int 31)) (.fz ((errL n m).getD 31 .non)) (.fz (.lst [.bl false, .bl false, .bl true])) (.fz (.bl false))) τ = .ok (.lst [.str "NothingLeft", .lst []]) τ := by kernel_rfl
  have h3 : eB3 (st6 s n m (.fz (.int 31)) (.fz ((errL n m).getD 31 .non)) (.fz (.lst [.bl false, .bl false, .bl true])) (.fz (.bl false))) τ = .ok (.lst [.str "NothingLeft", .lst []]) τ := by kernel_rfl
  exact ⟨_, _, _, h1.trans (tst3_ok h2 h3 (by kernel_rfl))⟩
theorem turn_32 (s : D) (n m : Int) (y7 y8 y9 : Sv) (τ : Tau) : ∃ y7' y8' y9', lb_law_0 (st6 s n m (.fz (.int 32)) y7 y8 y9) τ = .nx (st6 s n m (.fz (.int 32)) y7' y8' y9') τ := by
  have h1 : lb_law_0 (st6 s n m (.fz (.int 32)) y7 y8 y9) τ = tst3 eA3 eB3 (st6 s n m (.fz (.int 32)) (.fz ((errL n m).getD 32 .non)) (.fz (.lst [.bl false, .bl false, .bl true])) (.fz (.bl false))) τ := by kernel_rfl
  have h2 : eA3 (st6 s n m (.fz (.int 32)) (.fz ((errL n m).getD 32 .non)) (.fz (.lst [.bl false, .bl false, .bl true])) (.fz (.bl false))) τ = .ok (.lst [.str "NoSwap", .lst []]) τ := by kernel_rfl
  have h3 : eB3 (st6 s n m (.fz (.int 32)) (.fz ((errL n m).getD 32 .non)) (.fz (.lst [.bl false, .bl false, .bl true])) (.fz (.bl false))) τ = .ok (.lst [.str "NoSwap", .lst []]) τ := by kernel_rfl
  exact ⟨_, _, _, h1.trans (tst3_ok h2 h3 (by kernel_rfl))⟩
end K01
set_option maxHeartbeats 1600000
namespace K01
open PySem PySem.Spec L2 Hw Cm
theorem turn_k (s : D) (n m : Int) (y7 y8 y9 : Sv) (τ : Tau) {k : Nat} (hk : k < 33) : ∃ y7' y8' y9', lb_law_0 (st6 s n m (.fz (.int (k : Nat))) y7 y8 y9) τ = .nx (st6 s n m (.fz (.int (k : Nat))) y7' y8' y9') τ := by
  have h : k = 0 ∨ k = 1 ∨ k = 2 ∨ k = 3 ∨ k = 4 ∨ k = 5 ∨ k = 6 ∨ k = 7 ∨ k = 8 ∨ k = 9 ∨ k = 10 ∨ k = 11 ∨ k = 12 ∨ k = 13 ∨ k = 14 ∨ k = 15 ∨ k = 16 ∨ k = 17 ∨ k = 18 ∨ k = 19 ∨ k = 20 ∨ k = 21 ∨ k = 22 ∨ k = 23 ∨ k = 24 ∨ k = 25 ∨ k = 26 ∨ k = 27 ∨ k = 28 ∨ k = 29 ∨ k = 30 ∨ k = 31 ∨ k = 32 := by omega
  rcases h with rfl | rfl | rfl | rfl | rfl | rfl | rfl | rfl | rfl | rfl | rfl | rfl | rfl | rfl | rfl | rfl | rfl | rfl | rfl | rfl | rfl | rfl | rfl | rfl | rfl | rfl | rfl | rfl | rfl | rfl | rfl | rfl | rfl
  · exact turn_0 s n m y7 y8 y9 τ
  · exact turn_1 s n m y7 y8 y9 τ
  · exact turn_2 s n m y7 y8 y9 τ
  · exact turn_3 s n m y7 y8 y9 τ
  · exact turn_4 s n m y7 y8 y9 τ
  · exact turn_5 s n m y7 y8 y9 τ
  · exact turn_6 s n m y7 y8 y9 τ
  · exact turn_7 s n m y7 y8 y9 τ
  · exact turn_8 s n m y7 y8 y9 τ
  · exact turn_9 s n m y7 y8 y9 τ
  · exact turn_10 s n m y7 y8 y9 τ
  · exact turn_11 s n m y7 y8 y9 τ
  · exact turn_12 s n m y7 y8 y9 τ
  · exact turn_13 s n m y7 y8 y9 τ
  · exact turn_14 s n m y7 y8 y9 τ
  · exact turn_15 s n m y7 y8 y9 τ
  · exact turn_16 s n m y7 y8 y9 τ
  · exact turn_17 s n m y7 y8 y9 τ
  · exact turn_18 s n m y7 y8 y9 τ
  · exact turn_19 s n m y7 y8 y9 τ
  · exact turn_20 s n m y7 y8 y9 τ
  · exact turn_21 s n m y7 y8 y9 τ
  · exact turn_22 s n m y7 y8 y9 τ
  · exact turn_23 s n m y7 y8 y9 τ
  · exact turn_24 s n m y7 y8 y9 τ
  · exact turn_25 s n m y7 y8 y9 τ
  · exact turn_26 s n m y7 y8 y9 τ
  · exact turn_27 s n m y7 y8 y9 τ
  · exact turn_28 s n m y7 y8 y9 τ
  · exact turn_29 s n m y7 y8 y9 τ
  · exact turn_30 s n m y7 y8 y9 τ
  · exact turn_31 s n m y7 y8 y9 τ
  · exact turn_32 s n m y7 y8 y9 τ
def eA5 : SE := eLc (iSqS (eCall m_l_named (rCons (eVar 2) (rCons (eVar 3) (rNil))))) (gN 7) [7] (tYes) (eCall m_l_values (rCons (eVar 7) (rNil)))
def eB5 : SE := eBin dAdd (eBin dMulT (eLst (aCons (eLst (aCons (eVar 2) (aCons (eVar 3) (aNil)))) (aNil))) (eC (.int 3))) (eBin dMulT (eLst (aCons (eLst (aCons (eVar 2) (aNil))) (aNil))) (eC (.int 17)))
theorem end_ok (s : D) (n m : Int) (y6 y7 y8 y9 : Sv) (τ : Tau) : lt_law_5 (st6 s n m y6 y7 y8 y9) τ = .ret (.bl true) τ := by
  have h1 : lt_law_5 = sSeq (tst3 eA5 eB5) (sRet (eC (.bl true))) := by kernel_rfl
  have h2 : eA5 (st6 s n m y6 y7 y8 y9) τ = .ok (.lst (List.replicate 3 (.lst [.int n, .int m]) ++ List.replicate 17 (.lst [.int n]))) τ := by kernel_rfl
  have h3 : eB5 (st6 s n m y6 y7 y8 y9) τ = .ok (.lst (List.replicate 3 (.lst [.int n, .int m]) ++ List.replicate 17 (.lst [.int n]))) τ := by kernel_rfl
  have h4 := tst3_ok h2 h3 (by kernel_rfl)
  rw [h1]
  simp! [h4]
theorem tail_6 (s : D) (n m : Int) (τ : Tau) : lt_law_6 (st6 s n m .no .no .no .no) τ = .ret (.bl true) τ := by
  obtain ⟨ρ2, τ2, h1, rfl, y6, y7, y8, y9, rfl⟩ := for_fold (g := gN 6) (body := lb_law_0) (fun k : Nat => .int k) (fun (_ : Unit) _ => ()) (fun _ ρ t => t = τ ∧ ∃ y6 y7 y8 y9, ρ = st6 s n m y6 y7 y8 y9)
    (List.range 33) () (st6 s n m .no .no .no .no) τ ⟨rfl, _, _, _, _, rfl⟩ (by
      rintro k hk _ ρ t ⟨rfl, y6, y7, y8, y9, rfl⟩
      obtain ⟨a, b, c, h⟩ := turn_k s n m y7 y8 y9 t (List.mem_range.mp hk)
      have e : turn (gN 6) lb_law_0 (.int (k : Nat)) (st6 s n m y6 y7 y8 y9) t = lb_law_0 (st6 s n m (.fz (.int (k : Nat))) y7 y8 y9) t := rfl
      rw [e, h]
      exact ⟨rfl, _, _, _, _, rfl⟩)
  have he := end_ok s n m y6 y7 y8 y9 τ2
  generalize st6 s n m .no .no .no .no = R0 at *
  generalize st6 s n m y6 y7 y8 y9 = R1 at *
  simp! +arith [lt_law_6, h1, he]
theorem law_true (ns : List Int) : m_law [.fz (.scr ns)] [] = .ok (.bl true) [] := by
  obtain ⟨b, hb, g⟩ := bag_good ns
  obtain ⟨v, d1, e1, _, _, g1⟩ := take_good (n := 1000000000) g (by decide) (log2_small (n := 1000000000) (by decide))
  obtain ⟨u, d2, e2, _, _, g2⟩ := take_good (n := 1000000000) g1 (by decide) (log2_small (n := 1000000000) (by decide))
  have dp : dPow (.int 10) (.int 9) = some (.int 1000000000) := by kernel_rfl
  have h1 := head_ok (.scr ns) (v - 7) (3 + u) [d2]
  have h2 := tail_6 (.scr ns) (v - 7) (3 + u) [d2]
  rw [h2] at h1
  have gb : isGrp b = false := by
    unfold Good at g
    obtain ⟨_, _, _, _, _, rfl, _⟩ := g
    rfl
  simp! +arith [m_law, b_law, lt_law_13, hb]
  rw [a_Lend]
  simp! +arith [lt_law_12, dp, e1, e2, Ze6, Ze5, h1, gb, Bool.false_eq_true, if_false, List.take_zero]
end K01
set_option maxHeartbeats 0
namespace K01
open PySem PySem.Spec L2 Hw PyProof.Rows
open He (Fa DefD ga ma fAd cT)
theorem at_end {w : World} {K : PySem.W.Frag} {mg : Str → Option Value} {h : Heap} {f : Addr} (KX : K.In h) (G : h.Ns mainGlobals mg) (hfa : mg ("law" : Str) = some (.ref f)) (c : He.SaysX fa fn [] tf exT w h K) :
    LamX.LawAtS PySem.Challenge.rw_hueroads_k01_errors_and_their_families w K (Hw.CX (PySem.Challenge.rw_hueroads_k01_errors_and_their_families).prog w) 10 63 "_law_script" mg f h := by
  have cx : SX K mg := by
    letI : Tb := ⟨[]⟩
    exact Sx.mk' KX G c.t.d c.more
  obtain ⟨fd, F⟩ := c.t.d.defs (d := dd_law) (by simp [fn])
  have e := hfa.symm.trans (PySem.W.mg_of KX G (He.eqO_ok (c.t.d.facts (f := .glo "law") (by simp [fa]))))
  cases e
  have bA := FunD.bindsA (ps := ["_law_script"]) F fun _ _ _ _ _ _ us hl => match us, hl with | [_], _ => rfl
  refine law_at (mf := m_law) KX c (LT K) (fun p hp => ?_) (fun s u => bA s [u] rfl) (fun base b1 b2 b3 => ?_) (fun ns hl _ => law_true ns)
  · simp [LT] at hp
  · exact @ok_law ⟨LT K⟩ _ w K mg base cx fd F
end K01
open PySem PySem.W PySem.Calls PyProof.Rows
theorem PySem.Challenge.cw_hueroads_k01_errors_and_their_families_holds : PySem.Challenge.rw_hueroads_k01_errors_and_their_families.Holds := by
  w_on; o_law
  refine HandSHeadRun.head_any (r := OpenLaw.row PySem.Challenge.rw_hueroads_k01_errors_and_their_families) (q := view (OpenLaw.row PySem.Challenge.rw_hueroads_k01_errors_and_their_families).prog [45]) (H := K01.hk) (ob := K01.ob) (M := 40000) (loose := K01.names) (d := HandSHeadRun.topDef (OpenLaw.row PySem.Challenge.rw_hueroads_k01_errors_and_their_families).prog 45) (kwd := []) K01.ob_eq
    (by kernel_rfl) (fun s => by kernel_rfl) K01.run (by kernel_rfl) (by kernel_rfl) (by kernel_rfl) (by rfl) (by first | assumption | decide +kernel) (by decide +kernel) ⟨rfl, rfl, rfl, rfl, rfl, by decide +kernel⟩ ?hw ?hc
  case hw => w_witness2
  case hc =>
    refine LamX.walk_ofTsE (l := PySem.Challenge.rw_hueroads_k01_errors_and_their_families) (n := 63) (k := 10) (x := "_law_script") (CX := fun w => Hw.CX (PySem.Challenge.rw_hueroads_k01_errors_and_their_families).prog w) rfl (by decide) (by kernel_rfl) ⟨rfl, by decide, by decide⟩ ?F (fun _ _ _ _ _ z => Hw.cx_no z)
    intro w mg fa h Y G hmg0
    obtain ⟨K, KX, c⟩ := Y
    have hmg : mg ("law" : PySem.Str) = some (.ref fa) := by
      have e : (HandSHeadRun.topDef (OpenLaw.row PySem.Challenge.rw_hueroads_k01_errors_and_their_families).prog 45).name = ("law" : PySem.Str) := by kernel_rfl
      rw [← e]
      exact hmg0
    exact ⟨K, KX, K01.at_end KX G hmg c⟩
