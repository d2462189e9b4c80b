import PyProof.Rows.All
import Wide.All
import OpenK.AllK
import Wide.FinOn
import HandS.ForMost
import HandS.ForExc
import HandS.IsInst
import HandS.ExcInit
import HandS.ExcField
import HandS.ExcIs
import HandS.ExcValue
import HandS.MakeKwOnly
import HandS.Lambda
import HandS.Nested
import HandS.Iter
import HandS.Flow
import HandS.TryMany
import HandS.DictComp
import HandS.Wide
import HandS.Deep
import HandS.Conv
import HandS.ListItems
import KE.SortData
import KE.DataMinMax
import HandS.Zip
import KE.GoesMore
import KE.KItemsList
import HandS.Star
import HandS.OwnEq
import HandS.WordsDict
import HandS.DeepEq
import PyProof.InstEq
import PyProof.IsiH_set
import KE.KDictZip
import HandS.Head0
import HandS.Head1
import HandS.Head2
import HandS.HeadHook4
import HandS.HeadWalk
import HandS.TryOnly
import PySem.Challenge.RW_dealhouse_k00_errors_made
import HandS.NestedK
section
set_option Elab.async false
set_option linter.all false
set_option autoImplicit false
set_option maxRecDepth 100000
set_option maxHeartbeats 16000000
namespace TL
open PySem PySem.Spec PyProof.Rows L2 He
def bts : List String := ["bool", "int", "str", "list", "tuple", "dict"]
def bts7 : List String := ["NoneType", "bool", "int", "str", "list", "tuple", "dict"]
/-- a class's body at j -/
def clsDef (st : Stmt) (j : Nat) : Stmt := match st with
  | .ClassDef (body := b) .. => b.getD j (.Pass ⟨0, 0, 0, 0⟩)
  | _ => .Pass ⟨0, 0, 0, 0⟩
/-- a def's row in the head's list -/
def dd (x : Str) (st : Stmt) : DefD := ⟨(x, none), x, x, defArgs st, defBody st, defScope st, [], []⟩
def dm (c m qual : Str) (st : Stmt) : DefD := ⟨(c, some m), m, qual, defArgs st, defBody st, defScope st, [], []⟩
def kiB (K : PySem.W.Frag) (ks : List Str) (tb : Str → Str → Bool) : Bool :=
  (ks.all fun c => decide (PySem.W.findIn K (.ref (ga K c)) "__class__" = some (some (.builtin "object.__class__"))) && decide (PySem.W.mroIn K (ga K c) (.type "object") = some true) &&
    (bts.all fun T => decide (PySem.W.kitOne K (.ref (ga K c)) (.type T) = some false)) && (bts7.all fun T => decide (PySem.W.kitOne K (.type T) (.ref (ga K c)) = some false)) && (ks.all fun c' => decide (PySem.W.kitOne K (.ref (ga K c)) (.ref (ga K c')) = some (tb c c')))) &&
  decide (PySem.W.specialIn K (.builtin "object.__class__") "__get__" = some (some (.builtin "getset_descriptor.__get__"))) && decide (PySem.W.takesIn K (.builtin "object.__class__") = some true)
def kfB (K : PySem.W.Frag) (fs : List Str) : Bool := fs.all fun x => match K.lookup (ga K x) with
  | some o => decide (o.cls = .type "function")
  | none => false
def oexO (K : PySem.W.Frag) (C : Addr) (o : Obj) : Bool := match o with
  | ⟨.type T, _, .cls cd, sl⟩ => decide (T = "type") && (match cd.mro, sl.toList with
    | .ref D :: bm, [_, _, _, _, some (.builtin n), _] => decide (D = C) && decide (n = "ValueError.__new__") && cd.hasDict && !cd.hasDel && PySem.HandSPX.refsVE bm
    | _, _ => false)
  | _ => false
def oexB (K : PySem.W.Frag) (C : Addr) : Bool := (match K.lookup C with
    | some o => oexO K C o
    | none => false) && decide (PySem.W.findIn K (.ref C) "__setattr__" = some (some (.builtin "object.__setattr__"))) && decide (PySem.W.subIn K (.ref C) (.type "BaseException") = some true) && decide (PySem.W.typeIn K (.ref C) = some (.type "type")) && PySem.W.keepIn K (.ref C)
def eviB (K : PySem.W.Frag) (c : Str) (fs : List Str) : Bool := oexB K (ga K c) && decide (PySem.W.findIn K (.ref (ga K c)) "__init__" = some (some (.ref (ma K (ga K c) "__init__")))) && decide (PySem.W.typeIn K (.ref (ma K (ga K c) "__init__")) = some (.type "function")) && fs.all fun fld => decide (PySem.W.findIn K (.ref (ga K c)) fld = some none)
def excB (K : PySem.W.Frag) (D : Addr) : Bool := decide (PySem.W.findIn K (.ref D) "__getattribute__" = some (some (.builtin "BaseException.__getattribute__"))) && decide (PySem.W.findIn K (.ref D) "__getattr__" = some none) && decide (PySem.W.subIn K (.ref D) (.type "BaseException") = some true) && PySem.W.hasDictIn K D &&
  decide (PySem.W.findIn K (.ref D) "__class__" = some (some (.builtin "object.__class__"))) && decide (PySem.W.mroIn K D (.type "object") = some true)
def excB0 (K : PySem.W.Frag) : Bool := decide (PySem.W.specialIn K (.builtin "object.__class__") "__get__" = some (some (.builtin "getset_descriptor.__get__"))) && decide (PySem.W.takesIn K (.builtin "object.__class__") = some true)
def mroX (C D : Addr) : List Value := .ref C :: (if C = D then PySem.HandSPX.veTail else .ref D :: PySem.HandSPX.veTail)
def mroB (K : PySem.W.Frag) (C D : Addr) : Bool := match PySem.W.clsIn K C with
  | some cd => decide (cd.mro = mroX C D)
  | none => false
def nodB : List Nat → Bool
  | [] => true
  | a :: r => r.all (fun b => !Nat.beq a b) && nodB r
def kxB (K : PySem.W.Frag) (xs : List Str) (bs : List String) (fx : Str → List Str) (bt : String → Bool) (d : Str) : Bool := excB0 K && nodB (xs.map (ga K)) && xs.all fun c => excB K (ga K c) && mroB K (ga K c) (ga K d) && decide (PySem.W.typeIn K (.ref (ga K c)) = some (.type "type")) &&
  (bs.all fun T => decide (PySem.W.kitMeta T = true ∧ PySem.HandSPX.veTail.contains (.type T) = bt T)) && (fx c).all fun g => decide (PySem.W.findIn K (.ref (ga K c)) g = some none)
/-- the tables of defs that make lambdas, unlike one another -/
def tabNd (K : PySem.W.Frag) (ns : List Str) : Bool := nodB (ns.map fun x => (cT K (x, none)).2)
def ev0B (K : PySem.W.Frag) (c : Str) : Bool := PySem.W.excIn K (ga K c) PySem.HandSPX.veTail "ValueError.__new__" && PySem.W.keepIn K (.ref (ga K c))
def top (i : Nat) : Stmt := PySem.Challenge.pw_dealhouse_k00_errors_made.main.body.getD i (.Pass ⟨0, 0, 0, 0⟩)
abbrev s_Ldraw : Stmt := top 68
abbrev s_Lmixed : Stmt := top 69
abbrev s_Lstart : Stmt := top 67
abbrev s_Lmade_a : Stmt := top 70
abbrev s_Lmade_b : Stmt := top 71
abbrev s_Lmade_c : Stmt := top 72
abbrev s_Lmade_d : Stmt := top 73
abbrev s_Lkinds_a : Stmt := top 74
abbrev s_Lkinds_b : Stmt := top 75
abbrev s_Lkinds_c : Stmt := top 76
abbrev s_Lkinds_d : Stmt := top 77
abbrev s_Lkinds : Stmt := top 78
abbrev s_Lis_own : Stmt := top 79
abbrev s_Lsame : Stmt := top 80
abbrev s_Lare_these : Stmt := top 81
abbrev s_law : Stmt := top 82
def ksC : List Str := []
def tbC (a b : Str) : Bool := decide (a = b)
def fsC : List Str := []
def xsC : List Str := (["DealError", "AsksOn", "BadAllotment", "BadAsk", "BadAsker", "BadBounds", "BadCrossing", "BadDealing", "BadDeed", "BadDepth", "BadDraw", "BadForm", "BadGivers", "BadGoods", "BadHouses", "BadKind", "BadKnown", "BadLetting", "BadLies", "BadLot", "BadLots", "BadLottery", "BadMarket", "BadName", "BadNeeds", "BadNotice", "BadNumber", "BadOrder", "BadPairing", "BadPairings"] : List Str) ++ (["BadPaper", "BadPapers", "BadPeople", "BadPlace", "BadQuestion", "BadRanks", "BadResult", "BadRing", "BadRow", "BadRule", "BadSession", "BadSides", "BadSteps", "BadStock", "BadTable", "BadText", "BadThings", "BadTown", "BadWish", "BadWishes", "HasTie", "InUse", "IsWatched", "NoBetterRow", "NoCount", "NoFirm", "NoPerson", "NoRule", "NoTie", "NotFirm"] : List Str) ++ (["NotNow", "NotWatched", "Stays", "TurnsRound", "WouldChange"] : List Str)
def fxC : Str → List Str
  | "AsksOn" => ["many"]
  | "BadAllotment" => ["thing"]
  | "BadAsk" => ["thing"]
  | "BadAsker" => ["thing"]
  | "BadBounds" => ["thing"]
  | "BadCrossing" => ["thing"]
  | "BadDealing" => ["thing"]
  | "BadDeed" => ["thing"]
  | "BadDepth" => ["thing"]
  | "BadDraw" => ["thing"]
  | "BadForm" => ["thing"]
  | "BadGivers" => ["index"]
  | "BadGoods" => ["index"]
  | "BadHouses" => ["thing"]
  | "BadKind" => ["thing"]
  | "BadKnown" => ["thing"]
  | "BadLetting" => ["thing"]
  | "BadLies" => ["thing"]
  | "BadLot" => ["index"]
  | "BadLots" => ["thing"]
  | "BadLottery" => ["fault"]
  | "BadMarket" => ["thing"]
  | "BadName" => ["thing"]
  | "BadNeeds" => ["index"]
  | "BadNotice" => ["thing"]
  | "BadNumber" => ["thing"]
  | "BadOrder" => ["index"]
  | "BadPairing" => ["thing"]
  | "BadPairings" => ["index"]
  | "BadPaper" => ["thing"]
  | "BadPapers" => ["index"]
  | "BadPeople" => ["index"]
  | "BadPlace" => ["thing"]
  | "BadQuestion" => ["thing"]
  | "BadRanks" => ["thing"]
  | "BadResult" => ["thing"]
  | "BadRing" => ["thing"]
  | "BadRow" => ["index"]
  | "BadRule" => ["thing"]
  | "BadSession" => ["thing"]
  | "BadSides" => ["thing"]
  | "BadSteps" => ["thing"]
  | "BadStock" => ["thing"]
  | "BadTable" => ["fault"]
  | "BadText" => ["line", "sign"]
  | "BadThings" => ["thing"]
  | "BadTown" => ["thing"]
  | "BadWish" => ["thing"]
  | "BadWishes" => ["thing"]
  | "HasTie" => ["one", "other"]
  | "InUse" => ["question"]
  | "IsWatched" => ["question"]
  | "NoBetterRow" => ["thing"]
  | "NoCount" => ["thing"]
  | "NoFirm" => ["ring"]
  | "NoPerson" => ["thing"]
  | "NoRule" => ["thing"]
  | "NoTie" => ["one", "other"]
  | "NotFirm" => ["pairing"]
  | "NotNow" => ["why"]
  | "NotWatched" => ["question"]
  | "Stays" => ["one", "other"]
  | "TurnsRound" => ["person", "ring"]
  | "WouldChange" => ["question", "why"]
  | _ => []
def bsC : List String := ["ValueError", "LookupError", "ArithmeticError", "TypeError"]
def btC (T : String) : Bool := decide (T = "ValueError")
abbrev s_AsksOn : Stmt := clsDef (top 2) 0
abbrev s_BadAllotment : Stmt := clsDef (top 3) 0
abbrev s_BadAsk : Stmt := clsDef (top 4) 0
abbrev s_BadAsker : Stmt := clsDef (top 5) 0
abbrev s_BadBounds : Stmt := clsDef (top 6) 0
abbrev s_BadCrossing : Stmt := clsDef (top 7) 0
abbrev s_BadDealing : Stmt := clsDef (top 8) 0
abbrev s_BadDeed : Stmt := clsDef (top 9) 0
abbrev s_BadDepth : Stmt := clsDef (top 10) 0
abbrev s_BadDraw : Stmt := clsDef (top 11) 0
abbrev s_BadForm : Stmt := clsDef (top 12) 0
abbrev s_BadGivers : Stmt := clsDef (top 13) 0
abbrev s_BadGoods : Stmt := clsDef (top 14) 0
abbrev s_BadHouses : Stmt := clsDef (top 15) 0
abbrev s_BadKind : Stmt := clsDef (top 16) 0
abbrev s_BadKnown : Stmt := clsDef (top 17) 0
abbrev s_BadLetting : Stmt := clsDef (top 18) 0
abbrev s_BadLies : Stmt := clsDef (top 19) 0
abbrev s_BadLot : Stmt := clsDef (top 20) 0
abbrev s_BadLots : Stmt := clsDef (top 21) 0
abbrev s_BadLottery : Stmt := clsDef (top 22) 0
abbrev s_BadMarket : Stmt := clsDef (top 23) 0
abbrev s_BadName : Stmt := clsDef (top 24) 0
abbrev s_BadNeeds : Stmt := clsDef (top 25) 0
abbrev s_BadNotice : Stmt := clsDef (top 26) 0
abbrev s_BadNumber : Stmt := clsDef (top 27) 0
abbrev s_BadOrder : Stmt := clsDef (top 28) 0
abbrev s_BadPairing : Stmt := clsDef (top 29) 0
abbrev s_BadPairings : Stmt := clsDef (top 30) 0
abbrev s_BadPaper : Stmt := clsDef (top 31) 0
abbrev s_BadPapers : Stmt := clsDef (top 32) 0
abbrev s_BadPeople : Stmt := clsDef (top 33) 0
abbrev s_BadPlace : Stmt := clsDef (top 34) 0
abbrev s_BadQuestion : Stmt := clsDef (top 35) 0
abbrev s_BadRanks : Stmt := clsDef (top 36) 0
abbrev s_BadResult : Stmt := clsDef (top 37) 0
abbrev s_BadRing : Stmt := clsDef (top 38) 0
abbrev s_BadRow : Stmt := clsDef (top 39) 0
abbrev s_BadRule : Stmt := clsDef (top 40) 0
abbrev s_BadSession : Stmt := clsDef (top 41) 0
abbrev s_BadSides : Stmt := clsDef (top 42) 0
abbrev s_BadSteps : Stmt := clsDef (top 43) 0
abbrev s_BadStock : Stmt := clsDef (top 44) 0
abbrev s_BadTable : Stmt := clsDef (top 45) 0
abbrev s_BadText : Stmt := clsDef (top 46) 0
abbrev s_BadThings : Stmt := clsDef (top 47) 0
abbrev s_BadTown : Stmt := clsDef (top 48) 0
abbrev s_BadWish : Stmt := clsDef (top 49) 0
abbrev s_BadWishes : Stmt := clsDef (top 50) 0
abbrev s_HasTie : Stmt := clsDef (top 51) 0
abbrev s_InUse : Stmt := clsDef (top 52) 0
abbrev s_IsWatched : Stmt := clsDef (top 53) 0
abbrev s_NoBetterRow : Stmt := clsDef (top 54) 0
abbrev s_NoCount : Stmt := clsDef (top 55) 0
abbrev s_NoFirm : Stmt := clsDef (top 56) 0
abbrev s_NoPerson : Stmt := clsDef (top 57) 0
abbrev s_NoRule : Stmt := clsDef (top 58) 0
abbrev s_NoTie : Stmt := clsDef (top 59) 0
abbrev s_NotFirm : Stmt := clsDef (top 60) 0
abbrev s_NotNow : Stmt := clsDef (top 61) 0
abbrev s_NotWatched : Stmt := clsDef (top 62) 0
abbrev s_Stays : Stmt := clsDef (top 63) 0
abbrev s_TurnsRound : Stmt := clsDef (top 64) 0
abbrev s_WouldChange : Stmt := clsDef (top 65) 0
def lamNs : List Str := ["_law_made_a", "_law_made_b", "_law_made_c", "_law_made_d"]
def faC : List He.Fa := ([.free "ArithmeticError", .free "LookupError", .free "TypeError", .free "ValueError", .free "all", .free "any", .free "bool", .free "dict", .free "enumerate", .free "int", .free "isinstance", .free "len", .free "list", .free "min", .free "range", .free "sorted", .free "str", .free "tuple", .free "zip", .glo "_law_draw", .glo "_law_mixed", .glo "_law_start", .glo "_law_made_a", .glo "_law_made_b", .glo "_law_made_c", .glo "_law_made_d", .glo "_law_kinds_a", .glo "_law_kinds_b", .glo "_law_kinds_c", .glo "_law_kinds_d"] : List He.Fa) ++ ([.glo "_law_kinds", .glo "_law_is_own", .glo "_law_same", .glo "_law_are_these", .glo "law", .glo "DealError", .glo "AsksOn", .glo "BadAllotment", .glo "BadAsk", .glo "BadAsker", .glo "BadBounds", .glo "BadCrossing", .glo "BadDealing", .glo "BadDeed", .glo "BadDepth", .glo "BadDraw", .glo "BadForm", .glo "BadGivers", .glo "BadGoods", .glo "BadHouses", .glo "BadKind", .glo "BadKnown", .glo "BadLetting", .glo "BadLies", .glo "BadLot", .glo "BadLots", .glo "BadLottery", .glo "BadMarket", .glo "BadName", .glo "BadNeeds"] : List He.Fa) ++ ([.glo "BadNotice", .glo "BadNumber", .glo "BadOrder", .glo "BadPairing", .glo "BadPairings", .glo "BadPaper", .glo "BadPapers", .glo "BadPeople", .glo "BadPlace", .glo "BadQuestion", .glo "BadRanks", .glo "BadResult", .glo "BadRing", .glo "BadRow", .glo "BadRule", .glo "BadSession", .glo "BadSides", .glo "BadSteps", .glo "BadStock", .glo "BadTable", .glo "BadText", .glo "BadThings", .glo "BadTown", .glo "BadWish", .glo "BadWishes", .glo "HasTie", .glo "InUse", .glo "IsWatched", .glo "NoBetterRow", .glo "NoCount"] : List He.Fa) ++ ([.glo "NoFirm", .glo "NoPerson", .glo "NoRule", .glo "NoTie", .glo "NotFirm", .glo "NotNow", .glo "NotWatched", .glo "Stays", .glo "TurnsRound", .glo "WouldChange"] : List He.Fa) ++ xsC.map He.Fa.glo
def fnC : List He.DefD := ([dd "_law_draw" s_Ldraw, dd "_law_mixed" s_Lmixed, dd "_law_start" s_Lstart, dd "_law_made_a" s_Lmade_a, dd "_law_made_b" s_Lmade_b, dd "_law_made_c" s_Lmade_c, dd "_law_made_d" s_Lmade_d, dd "_law_kinds_a" s_Lkinds_a, dd "_law_kinds_b" s_Lkinds_b, dd "_law_kinds_c" s_Lkinds_c, dd "_law_kinds_d" s_Lkinds_d, dd "_law_kinds" s_Lkinds, dd "_law_is_own" s_Lis_own, dd "_law_same" s_Lsame, dd "_law_are_these" s_Lare_these, dd "law" s_law, dm "AsksOn" "__init__" "AsksOn.__init__" s_AsksOn, dm "BadAllotment" "__init__" "BadAllotment.__init__" s_BadAllotment, dm "BadAsk" "__init__" "BadAsk.__init__" s_BadAsk, dm "BadAsker" "__init__" "BadAsker.__init__" s_BadAsker, dm "BadBounds" "__init__" "BadBounds.__init__" s_BadBounds, dm "BadCrossing" "__init__" "BadCrossing.__init__" s_BadCrossing, dm "BadDealing" "__init__" "BadDealing.__init__" s_BadDealing, dm "BadDeed" "__init__" "BadDeed.__init__" s_BadDeed, dm "BadDepth" "__init__" "BadDepth.__init__" s_BadDepth, dm "BadDraw" "__init__" "BadDraw.__init__" s_BadDraw, dm "BadForm" "__init__" "BadForm.__init__" s_BadForm, dm "BadGivers" "__init__" "BadGivers.__init__" s_BadGivers, dm "BadGoods" "__init__" "BadGoods.__init__" s_BadGoods, dm "BadHouses" "__init__" "BadHouses.__init__" s_BadHouses] : List He.DefD) ++ ([dm "BadKind" "__init__" "BadKind.__init__" s_BadKind, dm "BadKnown" "__init__" "BadKnown.__init__" s_BadKnown, dm "BadLetting" "__init__" "BadLetting.__init__" s_BadLetting, dm "BadLies" "__init__" "BadLies.__init__" s_BadLies, dm "BadLot" "__init__" "BadLot.__init__" s_BadLot, dm "BadLots" "__init__" "BadLots.__init__" s_BadLots, dm "BadLottery" "__init__" "BadLottery.__init__" s_BadLottery, dm "BadMarket" "__init__" "BadMarket.__init__" s_BadMarket, dm "BadName" "__init__" "BadName.__init__" s_BadName, dm "BadNeeds" "__init__" "BadNeeds.__init__" s_BadNeeds, dm "BadNotice" "__init__" "BadNotice.__init__" s_BadNotice, dm "BadNumber" "__init__" "BadNumber.__init__" s_BadNumber, dm "BadOrder" "__init__" "BadOrder.__init__" s_BadOrder, dm "BadPairing" "__init__" "BadPairing.__init__" s_BadPairing, dm "BadPairings" "__init__" "BadPairings.__init__" s_BadPairings, dm "BadPaper" "__init__" "BadPaper.__init__" s_BadPaper, dm "BadPapers" "__init__" "BadPapers.__init__" s_BadPapers, dm "BadPeople" "__init__" "BadPeople.__init__" s_BadPeople, dm "BadPlace" "__init__" "BadPlace.__init__" s_BadPlace, dm "BadQuestion" "__init__" "BadQuestion.__init__" s_BadQuestion, dm "BadRanks" "__init__" "BadRanks.__init__" s_BadRanks, dm "BadResult" "__init__" "BadResult.__init__" s_BadResult, dm "BadRing" "__init__" "BadRing.__init__" s_BadRing, dm "BadRow" "__init__" "BadRow.__init__" s_BadRow, dm "BadRule" "__init__" "BadRule.__init__" s_BadRule, dm "BadSession" "__init__" "BadSession.__init__" s_BadSession, dm "BadSides" "__init__" "BadSides.__init__" s_BadSides, dm "BadSteps" "__init__" "BadSteps.__init__" s_BadSteps, dm "BadStock" "__init__" "BadStock.__init__" s_BadStock, dm "BadTable" "__init__" "BadTable.__init__" s_BadTable] : List He.DefD) ++ ([dm "BadText" "__init__" "BadText.__init__" s_BadText, dm "BadThings" "__init__" "BadThings.__init__" s_BadThings, dm "BadTown" "__init__" "BadTown.__init__" s_BadTown, dm "BadWish" "__init__" "BadWish.__init__" s_BadWish, dm "BadWishes" "__init__" "BadWishes.__init__" s_BadWishes, dm "HasTie" "__init__" "HasTie.__init__" s_HasTie, dm "InUse" "__init__" "InUse.__init__" s_InUse, dm "IsWatched" "__init__" "IsWatched.__init__" s_IsWatched, dm "NoBetterRow" "__init__" "NoBetterRow.__init__" s_NoBetterRow, dm "NoCount" "__init__" "NoCount.__init__" s_NoCount, dm "NoFirm" "__init__" "NoFirm.__init__" s_NoFirm, dm "NoPerson" "__init__" "NoPerson.__init__" s_NoPerson, dm "NoRule" "__init__" "NoRule.__init__" s_NoRule, dm "NoTie" "__init__" "NoTie.__init__" s_NoTie, dm "NotFirm" "__init__" "NotFirm.__init__" s_NotFirm, dm "NotNow" "__init__" "NotNow.__init__" s_NotNow, dm "NotWatched" "__init__" "NotWatched.__init__" s_NotWatched, dm "Stays" "__init__" "Stays.__init__" s_Stays, dm "TurnsRound" "__init__" "TurnsRound.__init__" s_TurnsRound, dm "WouldChange" "__init__" "WouldChange.__init__" s_WouldChange] : List He.DefD)
def exC (K : PySem.W.Frag) : Bool := [kiB K ksC tbC, kfB K fsC, kxB K xsC bsC fxC btC "DealError", ev0B K "DealError", eviB K "AsksOn" ["many"], eviB K "BadAllotment" ["thing"], eviB K "BadAsk" ["thing"], eviB K "BadAsker" ["thing"], eviB K "BadBounds" ["thing"], eviB K "BadCrossing" ["thing"], eviB K "BadDealing" ["thing"], eviB K "BadDeed" ["thing"], eviB K "BadDepth" ["thing"], eviB K "BadDraw" ["thing"], eviB K "BadForm" ["thing"], eviB K "BadGivers" ["index"], eviB K "BadGoods" ["index"], eviB K "BadHouses" ["thing"], eviB K "BadKind" ["thing"], eviB K "BadKnown" ["thing"], eviB K "BadLetting" ["thing"], eviB K "BadLies" ["thing"], eviB K "BadLot" ["index"], eviB K "BadLots" ["thing"], eviB K "BadLottery" ["fault"], eviB K "BadMarket" ["thing"], eviB K "BadName" ["thing"], eviB K "BadNeeds" ["index"], eviB K "BadNotice" ["thing"], eviB K "BadNumber" ["thing"], eviB K "BadOrder" ["index"], eviB K "BadPairing" ["thing"], eviB K "BadPairings" ["index"], eviB K "BadPaper" ["thing"], eviB K "BadPapers" ["index"], eviB K "BadPeople" ["index"], eviB K "BadPlace" ["thing"], eviB K "BadQuestion" ["thing"], eviB K "BadRanks" ["thing"], eviB K "BadResult" ["thing"], eviB K "BadRing" ["thing"], eviB K "BadRow" ["index"], eviB K "BadRule" ["thing"], eviB K "BadSession" ["thing"], eviB K "BadSides" ["thing"], eviB K "BadSteps" ["thing"], eviB K "BadStock" ["thing"], eviB K "BadTable" ["fault"], eviB K "BadText" ["line", "sign"], eviB K "BadThings" ["thing"], eviB K "BadTown" ["thing"], eviB K "BadWish" ["thing"], eviB K "BadWishes" ["thing"], eviB K "HasTie" ["one", "other"], eviB K "InUse" ["question"], eviB K "IsWatched" ["question"], eviB K "NoBetterRow" ["thing"], eviB K "NoCount" ["thing"], eviB K "NoFirm" ["ring"], eviB K "NoPerson" ["thing"], eviB K "NoRule" ["thing"], eviB K "NoTie" ["one", "other"], eviB K "NotFirm" ["pairing"], eviB K "NotNow" ["why"], eviB K "NotWatched" ["question"], eviB K "Stays" ["one", "other"], eviB K "TurnsRound" ["person", "ring"], eviB K "WouldChange" ["question", "why"], tabNd K lamNs].all id
end TL
end

section
set_option Elab.async false
set_option linter.all false
set_option autoImplicit false
set_option maxRecDepth 100000
/-! TX, the head's run in parts: a Hook over the places below a bound; the run's equation from one equation for each look -/
noncomputable section
namespace TL
open PySem PySem.W PySem.Calls PySem.Spec PyProof.Rows L2 He HandSHeadRun
def fragOf (m : List Addr) (g : Addr → Option Obj) : PySem.W.Frag := frT g m
def lookR (m : List Addr) (fa : List Fa) (fn : List DefD) (tf : List Defn) (ex : PySem.W.Frag → Bool) (g : Addr → Option Obj) : AlX :=
  (obsT fa fn [] (fragOf m g), ex (fragOf m g) && tabsB g tf (fragOf m g))
theorem lookR_says {m : List Addr} {fa : List Fa} {fn : List DefD} {tf : List Defn} {ex : PySem.W.Frag → Bool} {w : World} {h : Heap} (e : lookR m fa fn tf ex h.get? = valX fn [] w) : SaysX fa fn [] tf ex w h (fragOf m h.get?) := by
  obtain ⟨e1, e2⟩ := Prod.mk.inj e
  rw [Bool.and_eq_true] at e2
  have tab : ∀ p ∈ tf, PySem.W.codeHdIn (fragOf m h.get?) (cT (fragOf m h.get?) p).1 (cT (fragOf m h.get?) p).2 = true ∧ ∃ o, h.get? (cT (fragOf m h.get?) p).2 = some o ∧ emptyTab o = true := fun p hp => by
    have t := List.all_eq_true.mp e2.2 p hp
    rw [Bool.and_eq_true] at t
    refine ⟨t.1, ?_⟩
    have t2 := t.2
    split at t2
    · rename_i o eo
      exact ⟨o, eo, t2⟩
    · cases t2
  refine ⟨e1, e2.1, fun p hp => (tab p hp).1, fun p hp => ?_, fun p hp => ?_⟩
  · obtain ⟨_, o, q, z⟩ := tab p hp
    exact frT_none q z
  · obtain ⟨_, o, q, z⟩ := tab p hp
    rw [q, emptyTab_eq z]
def hookR (m : List Addr) (fa : List Fa) (fn : List DefD) (tf : List Defn) (ex : PySem.W.Frag → Bool) : PySem.W.Hook where
  α := AlX
  obs := fun s => lookR m fa fn tf ex s.heap.get?
  val := fun w => valX fn [] w
  says := (hookX 5 fa fn [] tf ex).says
  of := fun w s e => ⟨_, frT_in, lookR_says e⟩
  keeps := (hookX 5 fa fn [] tf ex).keeps
theorem lookR_eq {m : List Addr} {fa : List Fa} {fn : List DefD} {tf : List Defn} {ex : PySem.W.Frag → Bool} (s : SharedT) : lookR m fa fn tf ex (getT s) = (hookR m fa fn tf ex).obs s.abs := by
  show lookR m fa fn tf ex (getT s) = lookR m fa fn tf ex s.abs.heap.get?
  rw [show getT s = s.abs.heap.get? from funext (getT_eq s)]
/-- the state behind the top -/
def endR (r : OpenRow) (M : Nat) (w : World) (os : OsState) : Option SharedT := endF (stepQ (denQ tabQ) r.prog w) M r.prog w os
theorem map_at {α : Type} {e : Option SharedT} {f : SharedT → α} {x : α} (h : e.map f = some x) {s : SharedT} (hs : e = some s) : f s = x := by
  subst hs
  exact Option.some.inj h
theorem runEq_of {r : OpenRow} {q : Program} {M : Nat} {m : List Addr} {fa : List Fa} {fn : List DefD} {tf : List Defn} {ex : PySem.W.Frag → Bool} {loose : List PySem.Str} {w : World}
    (a : ∀ os, (endR r M w os).map (fun s => looksF r.prog (boot_heap w.params) s.abs) = some true)
    (b : ∀ os, (endR r M w os).map (fun s => seenQ q loose (importedModules r.prog.main.body) (fun s => xlAt q [] s && recOk r.toRowW.records s) s.abs) = some (openGood q loose))
    (c1 : ∀ os s, endR r M w os = some s → (fa.all fun f => f.ok (fragOf m (getT s))) = true)
    (c2 : ∀ os s, endR r M w os = some s → (fn.all (fun d => d.ok (fragOf m (getT s))) = true ∧ fn.map (fun d => fnW (fragOf m (getT s)) d.at_) = fn.map DefD.val))
    (d : ∀ os, (endR r M w os).map (fun s => tabsB (getT s) tf (fragOf m (getT s))) = some true)
    (e : ∀ os s, endR r M w os = some s → ex (fragOf m (getT s)) = true) : RunEq r q (hookR m fa fn tf ex) (fun s => lookR m fa fn tf ex (getT s)) M loose w := fun os => by
  show (endR r M w os).map _ = _
  cases h : endR r M w os with
  | none => have := a os; rw [h] at this; cases this
  | some s =>
    show some (_, _, _) = some (_, _, _)
    rw [map_at (a os) h, map_at (b os) h]
    show some (_, _, (obsT fa fn [] (fragOf m (getT s)), ex (fragOf m (getT s)) && tabsB (getT s) tf (fragOf m (getT s)))) = _
    have q : obsT fa fn [] (fragOf m (getT s)) = valT fn [] w := by
      show (((fa.all fun f => f.ok (fragOf m (getT s))) && fn.all fun d => d.ok (fragOf m (getT s)), fn.map fun d => fnW (fragOf m (getT s)) d.at_), []) = ((true, fn.map DefD.val), [])
      rw [c1 os s h, (c2 os s h).1, (c2 os s h).2]
      rfl
    rw [q, map_at (d os) h, e os s h]
    rfl
/-- of kxB one class's part -/
def kxF (K : PySem.W.Frag) (bs : List String) (fx : Str → List Str) (bt : String → Bool) (d c : Str) : Bool := excB K (ga K c) && mroB K (ga K c) (ga K d) && decide (PySem.W.typeIn K (.ref (ga K c)) = some (.type "type")) &&
  (bs.all fun T => decide (PySem.W.kitMeta T = true ∧ PySem.HandSPX.veTail.contains (.type T) = bt T)) && (fx c).all fun g => decide (PySem.W.findIn K (.ref (ga K c)) g = some none)
theorem kxB_of {K : PySem.W.Frag} {xs : List Str} {bs : List String} {fx : Str → List Str} {bt : String → Bool} {d : Str} (h0 : excB0 K = true) (h1 : nodB (xs.map (ga K)) = true) (h2 : xs.all (kxF K bs fx bt d) = true) : kxB K xs bs fx bt d = true := by
  show (excB0 K && nodB (xs.map (ga K)) && xs.all (kxF K bs fx bt d)) = true
  rw [h0, h1, h2]
  rfl
end TL
end

section
set_option Elab.async false
set_option linter.all false
set_option autoImplicit false
set_option maxRecDepth 100000
set_option maxHeartbeats 0
noncomputable section
namespace TL
open PySem PySem.W PySem.Calls PySem.Spec PyProof.Rows L2 He HandSHeadRun
abbrev RwC : PySem.W.OpenRow := PySem.W.OpenLaw.row PySem.Challenge.rw_dealhouse_k00_errors_made
abbrev qC : Program := PySem.W.view RwC.prog [82]
def tfC : List He.Defn := [("_law_made_a", none), ("_law_made_b", none), ("_law_made_c", none), ("_law_made_d", none)]
def lsC : List Str := (["DealError", "AsksOn", "BadAllotment", "BadAsk", "BadAsker", "BadBounds", "BadCrossing", "BadDealing", "BadDeed", "BadDepth", "BadDraw", "BadForm", "BadGivers", "BadGoods", "BadHouses", "BadKind", "BadKnown", "BadLetting", "BadLies", "BadLot", "BadLots", "BadLottery", "BadMarket", "BadName", "BadNeeds", "BadNotice", "BadNumber", "BadOrder", "BadPairing", "BadPairings"] : List Str) ++ (["BadPaper", "BadPapers", "BadPeople", "BadPlace", "BadQuestion", "BadRanks", "BadResult", "BadRing", "BadRow", "BadRule", "BadSession", "BadSides", "BadSteps", "BadStock", "BadTable", "BadText", "BadThings", "BadTown", "BadWish", "BadWishes", "HasTie", "InUse", "IsWatched", "NoBetterRow", "NoCount", "NoFirm", "NoPerson", "NoRule", "NoTie", "NotFirm"] : List Str) ++ (["NotNow", "NotWatched", "Stays", "TurnsRound", "WouldChange", "_law_start", "_law_draw", "_law_mixed", "_law_made_a", "_law_made_b", "_law_made_c", "_law_made_d", "_law_kinds_a", "_law_kinds_b", "_law_kinds_c", "_law_kinds_d", "_law_kinds", "_law_is_own", "_law_same", "_law_are_these"] : List Str)
def evL : List (Str × List Str) := ([("AsksOn", ["many"]), ("BadAllotment", ["thing"]), ("BadAsk", ["thing"]), ("BadAsker", ["thing"]), ("BadBounds", ["thing"]), ("BadCrossing", ["thing"]), ("BadDealing", ["thing"]), ("BadDeed", ["thing"]), ("BadDepth", ["thing"]), ("BadDraw", ["thing"]), ("BadForm", ["thing"]), ("BadGivers", ["index"]), ("BadGoods", ["index"]), ("BadHouses", ["thing"]), ("BadKind", ["thing"]), ("BadKnown", ["thing"]), ("BadLetting", ["thing"]), ("BadLies", ["thing"]), ("BadLot", ["index"]), ("BadLots", ["thing"])] : List (Str × List Str)) ++ ([("BadLottery", ["fault"]), ("BadMarket", ["thing"]), ("BadName", ["thing"]), ("BadNeeds", ["index"]), ("BadNotice", ["thing"]), ("BadNumber", ["thing"]), ("BadOrder", ["index"]), ("BadPairing", ["thing"]), ("BadPairings", ["index"]), ("BadPaper", ["thing"]), ("BadPapers", ["index"]), ("BadPeople", ["index"]), ("BadPlace", ["thing"]), ("BadQuestion", ["thing"]), ("BadRanks", ["thing"]), ("BadResult", ["thing"]), ("BadRing", ["thing"]), ("BadRow", ["index"]), ("BadRule", ["thing"]), ("BadSession", ["thing"])] : List (Str × List Str)) ++ ([("BadSides", ["thing"]), ("BadSteps", ["thing"]), ("BadStock", ["thing"]), ("BadTable", ["fault"]), ("BadText", ["line", "sign"]), ("BadThings", ["thing"]), ("BadTown", ["thing"]), ("BadWish", ["thing"]), ("BadWishes", ["thing"]), ("HasTie", ["one", "other"]), ("InUse", ["question"]), ("IsWatched", ["question"]), ("NoBetterRow", ["thing"]), ("NoCount", ["thing"]), ("NoFirm", ["ring"]), ("NoPerson", ["thing"]), ("NoRule", ["thing"]), ("NoTie", ["one", "other"]), ("NotFirm", ["pairing"]), ("NotNow", ["why"])] : List (Str × List Str)) ++ ([("NotWatched", ["question"]), ("Stays", ["one", "other"]), ("TurnsRound", ["person", "ring"]), ("WouldChange", ["question", "why"])] : List (Str × List Str))
def asC : List Addr := ([3, 6, 4, 24, 44, 63, 82, 101, 120, 139, 158, 177, 196, 215, 234, 253, 272, 291, 310, 329, 348, 367, 386, 405, 424, 443, 462, 481, 500, 519, 538, 557, 576, 595, 614, 633, 652, 671, 690, 709] : List Addr) ++ ([728, 747, 766, 785, 804, 823, 842, 861, 880, 899, 918, 937, 956, 975, 994, 1013, 1032, 1051, 1070, 1089, 1108, 1127, 1146, 1165, 1184, 1203, 1222, 1241, 1250, 1257, 1262, 1269, 1276, 1283, 1290, 1297, 1304, 1311, 1318, 1325] : List Addr) ++ ([1330, 1335, 1342, 1349, 0, 23, 43, 62, 81, 100, 119, 138, 157, 176, 195, 214, 233, 252, 271, 290, 309, 328, 347, 366, 385, 404, 423, 442, 461, 480, 499, 518, 537, 556, 575, 594, 613, 632, 651, 670] : List Addr) ++ ([689, 708, 727, 746, 765, 784, 803, 822, 841, 860, 879, 898, 917, 936, 955, 974, 993, 1012, 1031, 1050, 1069, 1088, 1107, 1126, 1145, 1164, 1183, 1202, 1221, 1240, 1249, 1256, 1261, 1268, 1275, 1282, 1289, 1296, 1303, 1310] : List Addr) ++ ([1317, 1324, 1329, 1334, 1341, 1348, 22, 25, 41, 42, 60, 61, 79, 80, 98, 99, 117, 118, 136, 137, 155, 156, 174, 175, 193, 194, 212, 213, 231, 232, 250, 251, 269, 270, 288, 289, 307, 308, 326, 327] : List Addr) ++ ([345, 346, 364, 365, 383, 384, 402, 403, 421, 422, 440, 441, 459, 460, 478, 479, 497, 498, 516, 517, 535, 536, 554, 555, 573, 574, 592, 593, 611, 612, 630, 631, 649, 650, 668, 669, 687, 688, 706, 707] : List Addr) ++ ([725, 726, 744, 745, 763, 764, 782, 783, 801, 802, 820, 821, 839, 840, 858, 859, 877, 878, 896, 897, 915, 916, 934, 935, 953, 954, 972, 973, 991, 992, 1010, 1011, 1029, 1030, 1048, 1049, 1067, 1068, 1086, 1087] : List Addr) ++ ([1105, 1106, 1124, 1125, 1143, 1144, 1162, 1163, 1181, 1182, 1200, 1201, 1219, 1220, 1238, 1239, 1244, 1245, 1246, 1247, 1248, 1251, 1252, 1253, 1254, 1255, 1258, 1259, 1260, 1263, 1264, 1265, 1266, 1267, 1270, 1271, 1272, 1273, 1274, 1277] : List Addr) ++ ([1278, 1279, 1280, 1281, 1284, 1285, 1286, 1287, 1288, 1291, 1292, 1293, 1294, 1295, 1298, 1299, 1300, 1301, 1302, 1305, 1306, 1307, 1308, 1309, 1312, 1313, 1314, 1315, 1316, 1319, 1320, 1321, 1322, 1323, 1326, 1327, 1328, 1331, 1332, 1333] : List Addr) ++ ([1336, 1337, 1338, 1339, 1340, 1343, 1344, 1345, 1346, 1347, 40, 59, 78, 97, 116, 135, 154, 173, 192, 211, 230, 249, 268, 287, 306, 325, 344, 363, 382, 401, 420, 439, 458, 477, 496, 515, 534, 553, 572, 591] : List Addr) ++ ([610, 629, 648, 667, 686, 705, 724, 743, 762, 781, 800, 819, 838, 857, 876, 895, 914, 933, 952, 971, 990, 1009, 1028, 1047, 1066, 1085, 1104, 1123, 1142, 1161, 1180, 1199, 1218, 1237] : List Addr)
abbrev frC (s : SharedT) : PySem.W.Frag := fragOf asC (getT s)
theorem runA (w : World) : ∀ os, (endR RwC 16500 w os).map (fun s => looksF RwC.prog (boot_heap w.params) s.abs) = some (true) := by
  intro os
  kernel_rfl
theorem runB (w : World) : ∀ os, (endR RwC 16500 w os).map (fun s => seenQ qC lsC (importedModules RwC.prog.main.body) (fun s => xlAt qC [] s && recOk RwC.toRowW.records s) s.abs) = some (openGood qC lsC) := by
  intro os
  kernel_rfl
theorem runC1 (w : World) : ∀ os, (endR RwC 16500 w os).map (fun s => (faC.take 90).all fun f => f.ok (frC s)) = some (true) := by
  intro os
  kernel_rfl
theorem runC2 (w : World) : ∀ os, (endR RwC 16500 w os).map (fun s => (faC.drop 90).all fun f => f.ok (frC s)) = some (true) := by
  intro os
  kernel_rfl
theorem runC3 (w : World) : ∀ os, (endR RwC 16500 w os).map (fun s => ((fnC.take 40).all fun d => d.ok (frC s), (fnC.take 40).map fun d => fnW (frC s) d.at_)) = some ((true, (fnC.take 40).map DefD.val)) := by
  intro os
  kernel_rfl
theorem runC4 (w : World) : ∀ os, (endR RwC 16500 w os).map (fun s => ((fnC.drop 40).all fun d => d.ok (frC s), (fnC.drop 40).map fun d => fnW (frC s) d.at_)) = some ((true, (fnC.drop 40).map DefD.val)) := by
  intro os
  kernel_rfl
theorem runD (w : World) : ∀ os, (endR RwC 16500 w os).map (fun s => tabsB (getT s) tfC (frC s)) = some (true) := by
  intro os
  kernel_rfl
theorem runE1 (w : World) : ∀ os, (endR RwC 16500 w os).map (fun s => kiB (frC s) ksC tbC && (kfB (frC s) fsC && (ev0B (frC s) "DealError" && (excB0 (frC s) && (nodB (xsC.map (ga (frC s))) && tabNd (frC s) lamNs))))) = some (true) := by
  intro os
  kernel_rfl
theorem runE2 (w : World) : ∀ os, (endR RwC 16500 w os).map (fun s => (xsC.take 33).all (kxF (frC s) bsC fxC btC "DealError")) = some (true) := by
  intro os
  kernel_rfl
theorem runE3 (w : World) : ∀ os, (endR RwC 16500 w os).map (fun s => (xsC.drop 33).all (kxF (frC s) bsC fxC btC "DealError")) = some (true) := by
  intro os
  kernel_rfl
theorem runE4 (w : World) : ∀ os, (endR RwC 16500 w os).map (fun s => (evL.take 32).all fun p => eviB (frC s) p.1 p.2) = some (true) := by
  intro os
  kernel_rfl
theorem runE5 (w : World) : ∀ os, (endR RwC 16500 w os).map (fun s => (evL.drop 32).all fun p => eviB (frC s) p.1 p.2) = some (true) := by
  intro os
  kernel_rfl
theorem exC_of {K : PySem.W.Frag} (a : kiB K ksC tbC = true) (b : kfB K fsC = true) (c : kxB K xsC bsC fxC btC "DealError" = true) (d : ev0B K "DealError" = true) (ev : evL.all (fun p => eviB K p.1 p.2) = true) (tn : tabNd K lamNs = true) : exC K = true := by
  unfold evL at ev
  simp only [List.cons_append, List.nil_append, List.all_cons, List.all_nil, Bool.and_eq_true] at ev
  unfold exC
  simp only [List.all_cons, List.all_nil, id, a, b, c, d, ev, tn, Bool.and_self, Bool.and_true, Bool.true_and]
abbrev hkC : PySem.W.Hook := hookR asC faC fnC tfC exC
def obC (s : SharedT) : He.AlX := lookR asC faC fnC tfC exC (getT s)
theorem obC_eq (s : SharedT) : obC s = hkC.obs s.abs := lookR_eq s
theorem runAll (w : World) : RunEq RwC qC hkC obC 16500 lsC w := by
  refine runEq_of (runA w) (runB w) (fun os s h => ?_) (fun os s h => ?_) (runD w) fun os s h => ?_
  · rw [← List.take_append_drop 90 faC, List.all_append, map_at (runC1 w os) h, map_at (runC2 w os) h]
    rfl
  · have h1 := Prod.mk.inj (map_at (runC3 w os) h)
    have h2 := Prod.mk.inj (map_at (runC4 w os) h)
    rw [← List.take_append_drop 40 fnC, List.all_append, List.map_append, List.map_append, h1.1, h2.1, h1.2, h2.2]
    exact ⟨rfl, rfl⟩
  have e1 := map_at (runE1 w os) h
  simp only [Bool.and_eq_true] at e1
  have e2 := map_at (runE2 w os) h
  have e3 := map_at (runE3 w os) h
  refine exC_of e1.1 e1.2.1 (kxB_of e1.2.2.2.1 e1.2.2.2.2.1 ?_) e1.2.2.1 ?_ e1.2.2.2.2.2
  · rw [← List.take_append_drop 33 xsC, List.all_append, e2, e3]
    rfl
  · rw [← List.take_append_drop 32 evL, List.all_append, map_at (runE4 w os) h, map_at (runE5 w os) h]
    rfl
end TL
end

section
set_option Elab.async false
set_option linter.all false
set_option autoImplicit false
set_option maxRecDepth 100000
set_option maxHeartbeats 2000000
/-! TX, part a: own exceptions as values: made by place and by keywords, asked of what class they are, their fields read -/
namespace PySem
namespace HandSPX
open Builtin Builtin.ObjectAttr
section
variable {M : Model} {A : Around} {E : Value → Shared → Prop} {h : Heap} {g : Array GenState} {d : Drawn} {t : Nat} {os : OsState}
variable {nm q : Str} {C N : Addr} {bs bm bmB : List Value} {hdct : Bool} {sn : List Str} {sub : List Value} {ab : Bool} {col : Option Bool} {dd : Option Addr} {k0 k1 k2 k3 k5 : Option Value} {B newId initId : String}
theorem check_new_kw (F : ExcBaseFacts B newId initId bmB) (hT : ∀ X : String, bm.contains (.type X) = bmB.contains (.type X)) {rest : List Value} {kw : List (Str × Value)} {Q : Unit → Shared → Prop}
    (hC : h.get? C = some (excClassObj nm q C N bs bm hdct sn sub ab col dd k0 k1 k2 k3 k5 newId)) (hq : Q () ⟨h, g, d, t, os⟩) : wpAny M A (checkBuiltinCall newId ⟨.ref C :: rest, kw⟩) Q E ⟨h, g, d, t, os⟩ := by
  have hcont : (Value.ref C :: bm).contains (.type B) = true := by rw [List.contains_cons, hT, F.hasB, Bool.or_true]
  have hstar := F.noStar
  simp only [checkBuiltinCall, F.newKind, F.newSplit, F.newRow]
  repeat (first | refine wpAny_loadPart_at hC ?_ | (refine wpAny_isSubtype_exc hC ?_; rw [hcont]) | refine wpAny_staticBase_exc hC ?_ | refine wpAny_madeBy_exc hC ?_ | simp only [bne_self_eq_false, Bool.false_eq_true, if_false] | wp_step)
  exact hq
end
section
variable {prog : Program} {w : World} {A : Around} {E : Value → Shared → Prop} {R : Result → Shared → Prop} {h : Heap} {g : Array GenState} {d : Drawn} {t : Nat} {os : OsState}
variable {nm q : Str} {C N : Addr} {bs bm bmB : List Value} {hdct : Bool} {sn : List Str} {sub : List Value} {ab : Bool} {col : Option Bool} {dd : Option Addr} {k0 k1 k2 k3 k5 : Option Value} {B newId initId : String}
theorem new_kw (F : ExcBaseFacts B newId initId bmB) (hT : ∀ X : String, bm.contains (.type X) = bmB.contains (.type X)) {rest : List Value} {kw : List (Str × Value)}
    (hC : h.get? C = some (excClassObj nm q C N bs bm hdct sn sub ab col dd k0 k1 k2 k3 k5 newId))
    (hq : R (.ok (.ret (.ref (h.objs.size + 1)))) ⟨(h.push { cls := .type "tuple", data := .seq rest.toArray }).push
      { cls := .ref C, data := .fields #[.ref h.objs.size, .none, .none, .none, .bool false, .none] }, g, d, t, os⟩) (hrest : rest.length ≤ sizeLine) :
    codeAny (model prog w) A (.builtin newId ⟨.ref C :: rest, kw⟩) R ⟨h, g, d, t, os⟩ := by
  have hends := F.ends
  have hcB : (Value.ref C :: bm).contains (.type B) = true := by rw [List.contains_cons, hT, F.hasB, Bool.or_true]
  have hcA : (Value.ref C :: bm).contains (.type "AttributeError") = false := by rw [List.contains_cons, hT, F.noAttr]; rfl
  have hcN : (Value.ref C :: bm).contains (.type "NameError") = false := by rw [List.contains_cons, hT, F.noName]; rfl
  refine codeAny_builtinAt F.entry ?_
  unfold Builtin.«BaseException.__new__»
  refine wpAt_bind ?_
  show wpAt _ _ _ (stack >>= _) _ _ _
  refine wpAt_bind (wpAt_stack fun p below => wpAt_of_wpAny ?_)
  wp_walk
  refine wpAt_of_wpAny ?_
  rw [F.owner]
  repeat (first | with_reducible refine wpAny_madeHere_exc F.canon hC ?_ | with_reducible refine wpAny_loadPart_at hC ?_ | (with_reducible refine wpAny_isSubtype_exc hC ?_; first | rw [hcB] | rw [hcA] | rw [hcN]) | wp_step)
  show R _ _
  rw [Heap.size_push]
  exact hq
theorem type_call_kw (F : ExcBaseFacts B newId initId bmB) (hT : ∀ X : String, bm.contains (.type X) = bmB.contains (.type X)) {rest : List Value} {kw : List (Str × Value)} {fI : Addr} {Q : Fin → Shared → Prop}
    (hC : h.get? C = some (excClassObj nm q C N bs bm hdct sn sub ab col dd k0 k1 k2 k3 k5 newId))
    (hi : W.Looks (model prog w) h (typeLookup (.ref C) "__init__") (some (.ref fI))) (hb : ∀ self, W.Looks (model prog w) h (bindSpecial (.ref fI) self) (.ref fI, [self])) (hrest : rest.length ≤ sizeLine)
    (hq : codeAny (model prog w) A (.call (.ref fI) ⟨.ref (h.objs.size + 1) :: rest, kw⟩)
      (fun r s' => match r with | .ok (.ret v) => v = .none ∧ Q (.done (.ret (.ref (h.objs.size + 1)))) s' | .ok _ => False | .error e => E e s')
      ⟨(h.push (W.kdv_tup rest)).push (excO C h.objs.size), g, d, t, os⟩) :
    wpAny (model prog w) A (Builtin.«type.__call__» ⟨.ref C :: rest, kw⟩) Q E ⟨h, g, d, t, os⟩ := by
  repeat (first | with_reducible refine wpAny_loadPart_at hC ?_ | with_reducible refine wpAny_madeBy_exc hC ?_ | wp_step)
  refine codeAny_call_builtin_code (Code.quiet_builtin _ F.quiet) (check_new_kw F hT hC ?_)
  refine new_kw F hT hC ?_ hrest
  show wpAny _ _ _ _ _ _
  have k : ∀ b o, h.get? b = some o → ((h.push (W.kdv_tup rest)).push (excO C h.objs.size)).get? b = some o := fun b o e => Heap.get?_push_of_some _ (Heap.get?_push_of_some _ e)
  have hC₁ := k _ _ hC
  have hget : ((h.push (W.kdv_tup rest)).push (excO C h.objs.size)).get? (h.objs.size + 1) = some (excO C h.objs.size) := by heap_get
  have hcC : (Value.ref C :: bm).contains (.ref C) = true := by simp
  have i1 := hi.keeps k
  have b1 := (hb (.ref (h.objs.size + 1))).keeps k
  unfold isInstance
  repeat (first | with_reducible refine wpAny_loadPart_at hget ?_ | (with_reducible refine wpAny_isSubtype_exc hC₁ ?_; rw [hcC]) | wp_step)
  show wpAny _ _ (typeLookup (.ref C) _) _ _ _
  refine i1.at ?_
  refine wpAny_holding (wpAny_bind (b1.at ?_))
  refine wpAny_bind (wpAny_call (codeAny_mono hq fun r s' z => ?_))
  rcases r with e | (v | _ | _ | _) <;> first | exact z | exact z.elim | skip
  obtain ⟨rfl, z⟩ := z
  first
    | exact wpAny_pure (wpAny_pure z)
    | (wp_walk; exact z)
theorem call_kw (F : ExcBaseFacts B newId initId bmB) (hT : ∀ X : String, bm.contains (.type X) = bmB.contains (.type X)) {rest : List Value} {kw : List (Str × Value)} {fI : Addr}
    (hC : h.get? C = some (excClassObj nm q C N bs bm hdct sn sub ab col dd k0 k1 k2 k3 k5 newId))
    (hi : W.Looks (model prog w) h (typeLookup (.ref C) "__init__") (some (.ref fI))) (hb : ∀ self, W.Looks (model prog w) h (bindSpecial (.ref fI) self) (.ref fI, [self])) (hrest : rest.length ≤ sizeLine)
    (hq : codeAny (model prog w) (A.under (.builtin "type.__call__" ⟨.ref C :: rest, kw⟩)) (.call (.ref fI) ⟨.ref (h.objs.size + 1) :: rest, kw⟩) (W.InitBack (h.objs.size + 1) R)
      ⟨(h.push (W.kdv_tup rest)).push (excO C h.objs.size), g, d, t, os⟩) :
    codeAny (model prog w) A (.call (.ref C) ⟨rest, kw⟩) R ⟨h, g, d, t, os⟩ := by
  have f1 := tc_lookup
  have f2 := tc_bind (.ref C)
  have hTy : (⟨h, g, d, t, os⟩ : Shared).TypeIs (.ref C) "type" := ⟨_, hC, rfl⟩
  refine codeAny_of_tree ?_
  show wpAny _ _ (callAny (.ref C) _) _ _ _
  repeat (any_goals (first | assumption | with_reducible refine wpAny_loadPart_at hC ?_ | wp_step))
  refine ⟨rfl, ?_⟩
  refine codeAny_call_builtin_at (Code.quiet_builtin _ (by decide +kernel)) entry_typeCall (wpAny_check_type_call_sub hC (type_call_kw F hT hC hi hb hrest ?_))
  refine codeAny_mono hq fun r s' z => ?_
  rcases r with e | (v | _ | _ | _) <;> exact z
end
end HandSPX
end PySem
end

section
set_option Elab.async false
set_option linter.all false
set_option autoImplicit false
set_option maxRecDepth 100000
set_option maxHeartbeats 2000000
/-! TX, part b: the expressions' rules of own exceptions -/
namespace PySem.W
open PySem PySem.Spec PySem.Calls PyProof.Rows
section
variable {prog : Program} {w : World} {A : Around} {E : Value → Shared → Prop} {s : Shared} {K : Frag} {x D : Addr} {ox : Obj} {od : Option Obj}
theorem findObj_dataO {C : Addr} {name : Str} {a g : Value} (hc : (clsIn K C).isSome = true) (ha : findIn K (.ref C) name = some (some a)) (hg : specialIn K a "__get__" = some (some g)) (ht : takesIn K a = some true) : findObj K C od name = some (.bind g a) := by
  obtain ⟨cd, hc⟩ := Option.isSome_iff_exists.mp hc
  unfold findObj
  rw [hc, Option.bind_some, ha, Option.bind_some]
  simp [hg, ht]
theorem kin_classO {Q : Option Value → Shared → Prop} (hga : findIn K (.ref D) "__getattribute__" = some (some (.builtin "BaseException.__getattribute__"))) (hgt : findIn K (.ref D) "__getattr__" = some none) (hsub : subIn K (.ref D) (.type "BaseException") = some true)
    (hdct : hasDictIn K D = true) (ha : findIn K (.ref D) "__class__" = some (some (.builtin "object.__class__")))
    (hn : specialIn K (.builtin "object.__class__") "__get__" = some (some (.builtin "getset_descriptor.__get__"))) (htk : takesIn K (.builtin "object.__class__") = some true) (hm : mroIn K D (.type "object") = some true)
    (X : K.In s.heap) (I : InstAt s.heap x ox D od) (h : Q (some (.ref D)) { s with toks := s.toks + 1 }) : wpAny (model prog w) A (getAttr? (.ref x) "__class__") Q E s := by
  have hf : findObj K D od "__class__" = some (.bind (.builtin "getset_descriptor.__get__") (.builtin "object.__class__")) := findObj_dataO (by obtain ⟨cd, hc, _⟩ := any_some hdct; rw [hc]; rfl) ha hn htk
  obtain ⟨hp, g, d, t, os⟩ := s
  have L0 := I.type (M := model prog w)
  have L1 := looks_findIn (M := model prog w) X hga
  have L2 := looks_findIn (M := model prog w) X hgt
  have L3 := looks_find (M := model prog w) X I hf
  have sub : Looks (model prog w) hp (isInstance (.ref x) (.type "BaseException")) true := L0.andThen (looks_subIn X hsub)
  have hx0 : (false && onTheHeap (Value.builtin "BaseException.__getattribute__")) = false := rfl
  have hx2 : (Value.builtin "BaseException.__getattribute__" == Value.builtin "object.__getattribute__") = false := by decide +kernel
  have hx1 : (onTheHeap (Value.ref D) && Value.builtin "BaseException.__getattribute__" == Value.builtin "object.__getattribute__") = false := by rw [hx2]; rfl
  unfold getAttr? getAttrBy? getAttrBy
  refine wpAny_bind (wpAny_mkText (wpAny_bind (wpAny_attempt (wpAny_holding (wpAny_bind (L0.at (wpAny_bind (L1.at ?_))))))))
  show wpAny _ _ (if (onTheHeap (Value.ref D) && Value.builtin "BaseException.__getattribute__" == Value.builtin "object.__getattribute__") = true then _ else _) _ _ _
  rw [hx1, if_neg Bool.false_ne_true]
  unfold getAttrByItsOwn hookBefore
  refine wpAny_bind ?_
  rw [if_pos (show onTheHeap (Value.ref D) = true from rfl)]
  refine L2.at ?_
  refine wpAny_bind (wpAny_attempt (wpAny_holding ?_))
  unfold callGetattribute
  rw [hx0, if_neg Bool.false_ne_true]
  unfold boundAndCalled
  rw [PySem.F.excAttr_ValueError.ga.bind (.ref x)]
  refine wpAny_bind (wpAny_pure ?_)
  show wpAny _ _ (call (.builtin "BaseException.__getattribute__") [.ref x, .str "__class__" t]) _ _ _
  refine wpAny_call (codeAny_call_builtin PySem.F.excAttr_ValueError.ga.plain PySem.F.entry_bexc_ga ?_)
  refine @check_slot (model prog w) _ _ ⟨hp, g, d, t + 1, os⟩ "BaseException.__getattribute__" "BaseException" "__getattribute__" (.ref x) [.str "__class__" t] [] _ (by decide +kernel) (by decide +kernel) sub (PySem.F.args_bexc_ga (.ref x) (.str "__class__" t)) ?_
  unfold Builtin.«object.__getattribute__»
  refine wpAny_bind (wpAny_of_eq (a := ((Value.ref x : Value), [Value.str "__class__" t])) (by first | rfl | (simp only [slotArgs]; rfl)) ?_)
  refine wpAny_bind (wpAny_pure (wpAny_bind (L0.at (wpAny_bind (L3.at ?_)))))
  show wpAny _ _ (holding [Value.builtin "object.__class__"] (call (.builtin "getset_descriptor.__get__") [.builtin "object.__class__", .ref x, .ref D]) >>= ret) _ _ _
  refine wpAny_bind (wpAny_holding (wpAny_call (class_get (s := ⟨hp, g, d, t + 1, os⟩) (ox := ox) (od := od) X I hm ?_)))
  refine wpAny_pure ?_
  show wpAny _ _ (handedOut (.ref D)) _ _ _
  rw [handedOut_of (v := .ref D) rfl]
  first
    | exact wpAny_pure (wpAny_pure h)
    | exact wpAny_pure h
    | exact wpAny_pure (wpAny_bind (wpAny_pure (wpAny_pure h)))
theorem kitx_excO (hga : findIn K (.ref D) "__getattribute__" = some (some (.builtin "BaseException.__getattribute__"))) (hgt : findIn K (.ref D) "__getattr__" = some none) (hsub : subIn K (.ref D) (.type "BaseException") = some true) (hdct : hasDictIn K D = true) (ha : findIn K (.ref D) "__class__" = some (some (.builtin "object.__class__")))
    (hn : specialIn K (.builtin "object.__class__") "__get__" = some (some (.builtin "getset_descriptor.__get__"))) (htk : takesIn K (.builtin "object.__class__") = some true) (hm : mroIn K D (.type "object") = some true) :
    KitX K (.ref x) (.ref D) (fun h => InstAt h x ox D od) where
  ty := fun _ _ _ I => I.type
  it := fun _ _ X _ => by
    obtain ⟨cdD, hcD, _⟩ := any_some hdct
    unfold clsIn at hcD
    split at hcD
    · rename_i c' d' cd' sl' ho
      intro A' Q' E' s' k q
      unfold isType loadHead
      exact wpAny_bind (wpAny_loadPart (k _ _ (X _ _ ho)) (wpAny_pure q))
    · cases hcD
  ne := fun h tp dd its n sl X htp => by
    obtain ⟨cdD, hcD, _⟩ := any_some hdct
    refine Bool.eq_false_iff.mpr fun q => ?_
    have e : D = tp := Value.ref.inj (beq_iff_eq.mp q)
    subst e
    unfold clsIn at hcD
    split at hcD
    · rename_i c' d' cd' sl' ho
      have z := (X _ _ ho).symm.trans htp
      cases z
    · cases hcD
  ca := fun X I k => kin_classO hga hgt hsub hdct ha hn htk hm X I k
end
end PySem.W
namespace L2
open PySem PySem.Spec PyProof.Rows
/-- an own exception of the class at C stands at a -/
def IsX (H : Hp) (a C : Addr) : Prop := (∃ d, H a = some (exo a C d) ∧ ∀ dx, d = some dx → ∃ fs, H dx = some (exd dx fs)) ∨ H a = some (ExO (.ref C) a)
/-- isinstance(e, c), e an own exception -/
def rIsX (K : PySem.W.Frag) : List V → Hp → VK → Prop := fun xs H Q => ∃ (a C : Addr) (c : V) (cv : Value) (b : Bool), xs = [.ref a, c] ∧ IsX H a C ∧ ExcC K C ∧ ClsV c cv ∧ PySem.W.kitOne K (.ref C) cv = some b ∧ Q (.bl b) H
section
variable {X : Cx}
theorem call_isX : CallR X (.builtin "isinstance") (rIsX X.K) := by
  intro pins s σ H xs us Q I r h
  obtain ⟨a, C, c, cv, b, rfl, hx, hC, k, e, q⟩ := h
  obtain ⟨u1, u2, rfl, r1, r2⟩ := vals2 r
  have e2 := k.eq r2
  subst e2
  cases (show u1 = Value.ref a from r1)
  have J : ∃ (oe : Obj) (od : Option Obj), PySem.W.InstAt s.heap a oe C od := by
    rcases hx with ⟨d, ha, hd⟩ | ha
    · obtain ⟨t1, ho⟩ := exo_at I.hok ha
      cases d with
      | none => exact ⟨_, none, ho, rfl, rfl, trivial⟩
      | some dx =>
        obtain ⟨fs, hf⟩ := hd dx rfl
        obtain ⟨mA, ⟨oD, _, _, hoD, _⟩, _⟩ := exd_at I.hok hf
        exact ⟨_, some oD, ho, rfl, rfl, hoD⟩
    · obtain ⟨⟨oe, vs, ho, hz, hv, _⟩, _, _⟩ := (show ObjOk X.prog X.w H s.heap a (ExO (.ref C) a) from I.hok a _ ha)
      obtain ⟨oc, odd, oda, osl⟩ := oe
      obtain ⟨h1, h2⟩ := hz
      dsimp only at h1 h2 hv
      subst h1 h2 hv
      exact ⟨_, none, ho, rfl, rfl, trivial⟩
  obtain ⟨oe, od, J⟩ := J
  exact PySem.W.kia_one (PySem.W.kitx_excO hC.hg hC.hk hC.hs hC.hd hC.ha hC.hn hC.ht hC.hm) I.kIn J e (fun z => nomatch z) fun tk => ⟨.bl b, H, I.tok tk, rfl, q⟩
end
/-- e.f, e an own exception that keeps f -/
def tXfd (K : PySem.W.Frag) (f : Str) (te : TE) : TE := fun σ H Q => te σ H fun x H1 => ∃ (a C d : Addr) (fs : List (Str × V)) (v : V), x = .ref a ∧ H1 a = some (exo a C (some d)) ∧ H1 d = some (exd d fs) ∧ XfC K C ∧ PySem.W.findIn K (.ref C) f = some none ∧ fs.lookup f = some v ∧ Q v H1
theorem pe_xfd {X : Cx} {e : Expr} {te : TE} {pos : Pos} {n : Str} (he : PE X e te) (hb : attributeBase e n X.env (eval e X.env) = eval e X.env := by rfl) : PE X (.Attribute e n pos) (tXfd X.K n te) := by
  refine ⟨fun pins s σ H Q I h => ?_⟩
  refine attr_of hb (thn (he.run pins s σ H _ I h) fun u s1 hh => ?_)
  obtain ⟨x, H1, I1, rx, a, C, dd, fs, v, ex, ea, ed, T, hno, l, q⟩ := hh
  subst ex
  obtain rfl : u = Value.ref a := rx
  obtain ⟨t1, ho⟩ := exo_at I1.hok ea
  obtain ⟨mA, hns, hr⟩ := exd_at I1.hok ed
  obtain ⟨od, hod, hl⟩ := lookIn_ns hns
  obtain ⟨u, hu, ru⟩ := RelO.some_of (v := v) (o := mA n) (by rw [← l]; exact hr n)
  have J : PySem.W.InstAt s1.heap a _ C (some od) := ⟨ho, rfl, rfl, hod⟩
  exact HandSPX.exc_get I1.kIn J T.ga T.gg T.exC (PySem.W.findObj_own T.hdC hno rfl (by rw [hl, hu])) (handed_of ru) ⟨v, H1, I1.tok _, ru, q⟩
/-! ### made -/
/-- C(e, ..) as a value -/
def tOexV (C : Addr) (sp : Sp) (ta : TA) : TE := fun σ H Q => ta σ H fun vs H1 => vs.length ≤ 1000 ∧ ∀ a, H1 a = none → sp (.ref a :: vs) (upd H1 a (exo a C none)) (fun v H2 => v = .non ∧ Q (.ref a) H2) (fun _ _ _ => False)
/-- C(k = v, ..) as a value -/
def tOexK (C : Addr) (m : Nat) (sp : Sp) (gV : List V → List V → List V) (tk : TA) : TE := fun σ H Q => tk σ H fun zs H1 => zs.length = m ∧ ∀ a, H1 a = none → sp (gV [.ref a] zs) (upd H1 a (exo a C none)) (fun v H2 => v = .non ∧ Q (.ref a) H2) (fun _ _ _ => False)
section
variable {X : Cx} {e : Expr} {es : List Expr} {ta tk : TA} {p pos : Pos}
theorem run_oex {CX : CXT} {C fI : Addr} {k : Nat} {fd : FuncData} {ps : List Str} {sp : Sp} {pins : List (Addr × Obj)} {σ : St} {H : Hp} {s : Shared} {Q : VK} {us ws : List Value} {ks : List Str} {vs : List V} (T : OexC X.K C)
    (iC : PySem.W.findIn X.K (.ref C) "__init__" = some (some (.ref fI))) (tI : PySem.W.typeIn X.K (.ref fI) = some (.type "function")) (F1 : FnOk X.prog X.w X.K X.mg X.base CX k fI fd ps sp) (hr : Room (k + 1) X.A) (hx : Passes CX X (fun _ _ _ => False)) (I : Inv X pins σ H s)
    (hus : us.length ≤ sizeLine) {all : List Value} (hb : ∀ s' : Shared, X.K.In s'.heap → BindsTo s' fd ⟨.ref (s.heap.objs.size + 1) :: us, ks.zip ws⟩ (ps.zip all)) (r : Vals (vs) all)
    (h : sp vs (upd H (s.heap.objs.size + 1) (exo (s.heap.objs.size + 1) C none)) (fun v H2 => v = .non ∧ Q (.ref (s.heap.objs.size + 1)) H2) (fun _ _ _ => False)) :
    wpAny (model X.prog X.w) X.A (call (.ref C) us (ks.zip ws)) (EP X pins σ Q) X.xe s := by
  obtain ⟨nm, q, N, bs, bm, sn, sub, ab, col, dd, k0, k1, k2, k3, k5, hC, hbm⟩ := T.cls
  obtain ⟨hp, g, dr, tk, os⟩ := s
  have hsz : hp.objs.size ≤ hp.objs.size + 1 := Nat.le_succ _
  have kk : ∀ b o, hp.get? b = some o → ((hp.push (PySem.W.kdv_tup us)).push (PySem.HandSPX.excO C hp.objs.size)).get? b = some o := fun b o e => Heap.get?_push_of_some _ (Heap.get?_push_of_some _ e)
  have hget : ((hp.push (PySem.W.kdv_tup us)).push (PySem.HandSPX.excO C hp.objs.size)).get? (hp.objs.size + 1) = some (PySem.HandSPX.excO C hp.objs.size) := by heap_get
  have I2 : Inv X pins σ (upd H (hp.objs.size + 1) (exo (hp.objs.size + 1) C none)) ⟨(hp.push (PySem.W.kdv_tup us)).push (PySem.HandSPX.excO C hp.objs.size), g, dr, tk, os⟩ :=
    I.laid (t' := tk) (a := hp.objs.size + 1) (o := exo (hp.objs.size + 1) C none) (h' := (hp.push (PySem.W.kdv_tup us)).push (PySem.HandSPX.excO C hp.objs.size)) kk hsz (exo_ok hget)
  refine wpAny_call (PySem.HandSPX.call_kw F.excBase_ValueError (fun Y => PySem.HandSPX.refsVE_contains Y bm hbm) (I.kIn _ _ hC) (PySem.W.looks_findIn I.kIn iC) (fun self => PySem.W.bind_fn I.kIn self tI) hus
    (codeAny_mono (F1.run _ X.stack _ _ ⟨Value.ref (hp.objs.size + 1) :: us, ks.zip ws⟩ all _ _ (fun _ _ _ => False) (hr.make C us (ks.zip ws)) (I2.env0.make C us (ks.zip ws)) (hb _ I2.kIn) r h) fun r s' hq' => ?_))
  cases r with
  | error er => exact hx pins σ _ _ er s' I2 hq'
  | ok fl =>
    cases fl with
    | ret u =>
      obtain ⟨v, H', I3, rv, ev, q3⟩ := I2.after hq'
      subst ev
      exact ⟨rv, ⟨V.ref (hp.objs.size + 1), H', I3, rfl, q3⟩⟩
    | next => exact False.elim hq'
    | brk => exact False.elim hq'
    | cont => exact False.elim hq'
theorem pe_oexV {CX : CXT} {x : Str} {C fI : Addr} {k : Nat} {fd : FuncData} {ps : List Str} {sp : Sp} (T : OexC X.K C) (iC : PySem.W.findIn X.K (.ref C) "__init__" = some (some (.ref fI))) (tI : PySem.W.typeIn X.K (.ref fI) = some (.type "function"))
    (F1 : FnOk X.prog X.w X.K X.mg X.base CX k fI fd ps sp) (hr : Room (k + 1) X.A) (hb : Binds X.K fd ps []) (hx : Passes CX X (fun _ _ _ => False)) (hg : Gl X x) (hm : X.mg x = some (.ref C)) (ha : PA X (e :: es) ta)
    (hdb : (x == ("__debug__" : Str)) = false := by decide) (he : starEach (e :: es) X.env = (false, eval e X.env) :: starEach es X.env := by rfl) (hpl : (backTo pos (starEach es X.env)).any (·.1) = false := by rfl) :
    PE X (.Call (.Name x p) (e :: es) [] pos) (tOexV C sp ta) := by
  refine ⟨fun pins s σ H Q I h => ?_⟩
  refine wpAny_Call_Name_kw (ld_glob I hg hm ?_ hdb)
  refine PySem.W.callWith_K (h₀ := X.base) I.ok.mod.kin T.kC (thn (ha.run pos pins s σ H _ I h) fun us s1 ⟨vs, H1, I1, r1, hz, q1⟩ => ⟨I1.kIn, ?_⟩) he hpl
  show wpAny _ _ (call (.ref C) us) _ _ _
  have hq := q1 (s1.heap.objs.size + 1) (I1.hok.fresh (Nat.le_succ _))
  have r2 : Vals (V.ref (s1.heap.objs.size + 1) :: vs) (Value.ref (s1.heap.objs.size + 1) :: us) := .cons rfl r1
  have hl : (Value.ref (s1.heap.objs.size + 1) :: us).length = ps.length := by
    have e := r2.length
    rw [F1.len _ _ _ _ hq] at e
    exact e.symm
  refine run_oex (ks := []) (ws := []) T iC tI F1 hr hx I1 (by rw [← Paired.length r1, sizeLine_eq]; omega) (fun s' K' => ?_) r2 hq
  have := hb s' (Value.ref (s1.heap.objs.size + 1) :: us) K' (by simpa using hl)
  simpa using this
theorem pe_oexK {CX : CXT} {x : Str} {C fI : Addr} {k : Nat} {fd : FuncData} {ps ks : List Str} {sp : Sp} {kws : List Keyword} {g : List Value → List Value → List Value} {gV : List V → List V → List V} (T : OexC X.K C) (iC : PySem.W.findIn X.K (.ref C) "__init__" = some (some (.ref fI))) (tI : PySem.W.typeIn X.K (.ref fI) = some (.type "function"))
    (F1 : FnOk X.prog X.w X.K X.mg X.base CX k fI fd ps sp) (hr : Room (k + 1) X.A) (hb : KBn X.K fd ps 1 ks g gV) (hx : Passes CX X (fun _ _ _ => False)) (hg : Gl X x) (hm : X.mg x = some (.ref C)) (hkw : PK X kws tk)
    (hall : (backToKw pos (keywordEach kws X.env)).all (·.1.isSome) = true := by rfl) (hks : (backToKw pos (keywordEach kws X.env)).filterMap (·.1) = ks := by rfl) (hdb : (x == ("__debug__" : Str)) = false := by decide)
    (hpl : ((backTo pos (starEach [] X.env)).any (·.1) || (backToKw pos (keywordEach kws X.env)).any (·.1.isNone)) = false := by rfl) :
    PE X (.Call (.Name x p) [] kws pos) (tOexK C ks.length sp gV tk) := by
  refine ⟨fun pins s σ H Q I h => ?_⟩
  refine wpAny_Call_Name_kw (ld_glob I hg hm ?_ hdb)
  refine PySem.W.callWith_KW0 (h₀ := X.base) I.ok.mod.kin T.kC hall ?_ hpl
  refine thn (hkw.run pos pins s σ H _ I h) fun ws s1 ⟨zs, H1, I1, rz, l2, q1⟩ => ⟨I1.kIn, ?_⟩
  rw [hks]
  have hq := q1 (s1.heap.objs.size + 1) (I1.hok.fresh (Nat.le_succ _))
  have r1 : Vals [V.ref (s1.heap.objs.size + 1)] [Value.ref (s1.heap.objs.size + 1)] := .cons rfl .nil
  exact run_oex (us := []) T iC tI F1 hr hx I1 (by simp) (fun s' K' => hb.to s' _ ws K' rfl (rz.length.symm.trans l2)) (hb.rel r1 rz) hq
/-- C(), C without an own __init__ -/
theorem pe_exc0 {C : Addr} {bmB : List Value} {B newId initId : String} {x : Str} {p pos : Pos} (F : ExcBaseFacts B newId initId bmB) (q : PySem.W.excIn X.K C bmB newId = true) (gC : X.mg x = some (.ref C)) (kC : PySem.W.keepIn X.K (.ref C) = true) (hg : Gl X x)
    (hdb : (x == ("__debug__" : Str)) = false := by decide) :
    PE X (.Call (.Name x p) [] [] pos) (fun σ H Q => ∀ a, H a = none → Q (.ref a) (upd H a (ExO (.ref C) a))) := by
  refine ⟨fun pins s σ H Q I h => ?_⟩
  refine wpAny_Call_Name_kw (ld_glob I hg gC ?_ hdb)
  refine PySem.W.callWith_K0 I.kIn kC ?_
  show wpAny _ _ (call (.ref C) []) _ _ _
  obtain ⟨bm, N, nm, qn, bs, hdct, sn, sub, ab, col, dd, k0, k1, k2, k3, k5, mN, hC, hN, hni, T⟩ := exc_obj I.kIn q
  refine wpAny_call_exc_subT F T hC hN hni (fun h' a hm => ?_) (by show 0 ≤ sizeLine; omega)
  have hn : H a = none := I.hok.gone hm.new
  obtain ⟨t, ht, _, _⟩ := hm.there
  exact ⟨.ref a, upd H a (ExO (.ref C) a), I.laidN hm.keeps hm.new hn (exO_ok ht ⟨rfl, rfl⟩ rfl rfl rfl (show 4 < 6 by decide)), rfl, h a hn⟩
end
end L2
end

section
set_option Elab.async false
set_option linter.all false
set_option autoImplicit false
set_option maxRecDepth 100000
set_option maxHeartbeats 2000000
/-! TX, part l: lambdas as values, of one parameter, without captured names -/
namespace TL
open PySem PySem.Spec PyProof.Rows L2 LamX
structure LF where
  qual : Str
  params : Arguments
  body : Expr
  scope : Scope
  c : Addr
/-- the object at f is the lambda L -/
def LamO (f : Addr) (L : LF) : HO := .ext fun h => ∃ (od : Option Addr) (sl : Array (Option Value)) (pm ctv : Value), h.get? f = some (⟨.type "function", od, .func (PySem.W.kla_fn "<lambda>" L.qual L.params L.body L.scope [] pm (.ref L.c) ctv), sl⟩ : Obj)
theorem lamO_ne {f : Addr} {L : LF} (ps : Array Value) : LamO f L ≠ .tbl ps := fun z => by
  unfold LamO at z
  cases z
theorem lamO_at {P : Program} {w : World} {H : Hp} {h : Heap} {f : Addr} {L : LF} (hok : HOk P w H h) (e : H f = some (LamO f L)) : ∃ (od : Option Addr) (sl : Array (Option Value)) (pm ctv : Value), h.get? f = some (⟨.type "function", od, .func (PySem.W.kla_fn "<lambda>" L.qual L.params L.body L.scope [] pm (.ref L.c) ctv), sl⟩ : Obj) := by
  obtain ⟨z, _, _⟩ := hok f _ e
  exact z
section
variable {X : Cx} {pins : List (Addr × Obj)} {σ : L2.St} {H : Hp} {s : Shared}
theorem inv_lam {L : LF} {o : Obj} {t' : Nat} {pm ctv : Value} (I : Inv X pins σ H s) (ho : o = { cls := .type "function", data := .func (PySem.W.kla_fn "<lambda>" L.qual L.params L.body L.scope [] pm (.ref L.c) ctv) }) :
    Inv X pins σ (upd H s.heap.objs.size (LamO s.heap.objs.size L)) { s with heap := s.heap.push o, toks := t' } := by
  subst ho
  refine I.laid (a := s.heap.objs.size) (fun b u e => Heap.get?_push_of_some _ e) (Nat.le_refl _) ?_
  have e : (s.heap.push ({ cls := .type "function", data := .func (PySem.W.kla_fn "<lambda>" L.qual L.params L.body L.scope [] pm (.ref L.c) ctv) } : Obj)).get? s.heap.objs.size = some ({ cls := .type "function", data := .func (PySem.W.kla_fn "<lambda>" L.qual L.params L.body L.scope [] pm (.ref L.c) ctv) } : Obj) := Heap.get?_push_size _ rfl
  exact ⟨⟨_, _, pm, ctv, e⟩, ⟨_, e⟩, fun h1 h2 ⟨od, sl, p, t, z⟩ st => ⟨od, sl, p, t, st _ z⟩⟩
/-- the lambda is made: its code object is new, or found in the table -/
theorem lam_makeV {T : List (Addr × Str)} {c P : Addr} {params : Arguments} {body : Expr} {scope : Scope} {pos : Pos} {E : Value → Shared → Prop} {Q : Value → Shared → Prop} (I : Inv X pins σ H s) (TB : TabB X.base X.mg c P) (hcode : X.env.code = .ref c)
    (hm : (P, X.env.qual ++ "<lambda>") ∈ T) (hu : ∀ p ∈ T, p.1 = P → p.2 = X.env.qual ++ "<lambda>") (hT : Tabs T H) (hdef : defaultsOf params X.env = ([], [])) (hfree : ∀ y ∈ scope.names, y.2 = .free → ∃ c, X.env.cells.lookup y.1 = some c) (hcl : cloFrom X.env.cells scope.names [] = [])
    (h : ∀ (f c' : Addr) (H1 : Hp) (s' : Shared), Inv X pins σ H1 s' → ExtN H H1 → Tabs T H1 → H f = none → H1 f = some (LamO f ⟨X.env.qual ++ "<lambda>", params, body, scope, c'⟩) → H1 c' = some (CodeO c' (X.env.qual ++ "<lambda>")) → c' ≠ f → Q (.ref f) s') :
    wpAny (model X.prog X.w) X.A (eval (.Lambda params body scope pos) X.env) Q E s := by
  obtain ⟨ps, hP, ht, ha⟩ := hT _ hm
  refine PySem.W.kla_eval hdef ?_
  have bP : s.heap.BuiltinsAt X.mg P := TB.bm.keeps I.bk
  have hP' : s.heap.get? P = some { cls := .none, data := .fields ps } := I.hok P _ hP
  cases hc : codeAmong pos ps.toList with
  | none =>
    refine PySem.W.kla_makeFunction (mg := X.mg) (c := c) (P := P) (ps := ps) (closure_ok hfree) I.ok.glob (I.mod.glob.keeps I.bk) hcode (TB.code.keeps I.bk) hP' ht hc TB.gP bP fun c' ctv h' tk hx hge hlt hrec htb => ?_
    obtain ⟨c2, oc, vs, t, e2, hoc, hd, hv⟩ := hrec
    cases e2
    have nC : H c' = none := I.hok.fresh hge
    have I1 := inv_table (t' := tk) (more := #[rawInt pos.line, rawInt pos.col, .ref c']) (h' := h') I hP (fun b o hb e => hx b o hb e) htb hge ⟨oc, vs, t, hoc, hd, hv⟩
    have hE : ExtN H (upd (upd H P (.tbl (ps ++ #[rawInt pos.line, rawInt pos.col, .ref c']))) c' (CodeO c' (X.env.qual ++ "<lambda>"))) := fun b o e n => by
      rw [upd_ne (ne_of_none e nC), upd_ne (fun z => n ps (Option.some.inj (e.symm.trans (by rw [z]; exact hP))))]
      exact e
    have eL : (ps ++ #[rawInt pos.line, rawInt pos.col, .ref c']).toList = ps.toList ++ [rawInt pos.line, rawInt pos.col, .ref c'] := by simp
    have T1 : Tabs T (upd (upd H P (.tbl (ps ++ #[rawInt pos.line, rawInt pos.col, .ref c']))) c' (CodeO c' (X.env.qual ++ "<lambda>"))) := fun p hp => by
      by_cases hb : p.1 = P
      · rw [hu p hp hb, hb]
        refine ⟨_, by rw [upd_ne (ne_of_none hP nC), upd_same], by rw [eL]; exact PySem.TriplesOk_snoc _ _ _ _ ht, fun p' cv hcv => ?_⟩
        rw [eL] at hcv
        rcases among_app _ ht hcv with z | z
        · obtain ⟨c0, e1, e2⟩ := ha p' cv z
          exact ⟨c0, e1, hE _ _ e2 codeO_ne⟩
        · exact ⟨c', z, upd_same⟩
      · obtain ⟨ps', a1, a2, a3⟩ := hT p hp
        refine ⟨ps', by rw [upd_ne (ne_of_none a1 nC), upd_ne hb]; exact a1, a2, fun p' cv hcv => ?_⟩
        obtain ⟨c0, e1, e2⟩ := a3 p' cv hcv
        exact ⟨c0, e1, hE _ _ e2 codeO_ne⟩
    have nF := I1.hok.fresh (Nat.le_refl _)
    have I2 := inv_lam (L := ⟨X.env.qual ++ "<lambda>", params, body, scope, c'⟩) (t' := tk) (pm := (X.mg "__name__").getD .none) (ctv := ctv) I1 rfl
    rw [hcl]
    refine h h'.objs.size c' _ _ I2 (fun b o e n => ?_) (T1.ext fun b o e => ?_) (I.hok.fresh (Nat.le_trans hge (Nat.le_of_lt hlt))) upd_same ?_ (Nat.ne_of_lt hlt)
    · have e1 := hE b o e n
      exact (upd_ne (ne_of_none e1 nF)).trans e1
    · exact (upd_ne (ne_of_none e nF)).trans e
    · exact (upd_ne (Nat.ne_of_lt hlt)).trans upd_same
  | some cv =>
    obtain ⟨c', e, hco⟩ := ha pos cv hc
    subst e
    refine PySem.W.kla_makeFunctionHit (mg := X.mg) (c := c) (P := P) (ps := ps) (closure_ok hfree) I.ok.glob (I.mod.glob.keeps I.bk) hcode (TB.code.keeps I.bk) hP' ht hc bP fun ctv h' tk hx hsz => ?_
    have I1 : Inv X pins σ H { s with heap := h', toks := tk } := I.kept hx
    have nF : H h'.objs.size = none := I1.hok.fresh (Nat.le_refl _)
    have I2 := inv_lam (L := ⟨X.env.qual ++ "<lambda>", params, body, scope, c'⟩) (t' := tk) (pm := (X.mg "__name__").getD .none) (ctv := ctv) I1 rfl
    rw [hcl]
    refine h h'.objs.size c' _ _ I2 (fun b o e n => ?_) (hT.ext fun b o e => ?_) nF upd_same ?_ (ne_of_none hco nF)
    · exact (upd_ne (ne_of_none e nF)).trans e
    · exact (upd_ne (ne_of_none e nF)).trans e
    · exact (upd_ne (ne_of_none hco nF)).trans hco
end
/-- the reading of a lambda -/
def tLamV (T : List (Addr × Str)) (q : Str) (params : Arguments) (body : Expr) (scope : Scope) : TE := fun σ H Q => Tabs T H ∧ ∀ (f c' : Addr) (H1 : Hp), ExtN H H1 → Tabs T H1 → H f = none → H1 f = some (LamO f ⟨q, params, body, scope, c'⟩) → H1 c' = some (CodeO c' q) → c' ≠ f → Q (.ref f) H1
theorem pe_lamV {X : Cx} {T : List (Addr × Str)} {c P : Addr} {params : Arguments} {body : Expr} {scope : Scope} {pos : Pos} (TB : TabB X.base X.mg c P) (hcode : X.env.code = .ref c) (hm : (P, X.env.qual ++ "<lambda>") ∈ T) (hu : ∀ p ∈ T, p.1 = P → p.2 = X.env.qual ++ "<lambda>")
    (hdef : defaultsOf params X.env = ([], [])) (hfree : scope.names.all (fun y => !decide (y.2 = .free)) = true) (hcl : cloFrom X.env.cells scope.names [] = []) : PE X (.Lambda params body scope pos) (tLamV T (X.env.qual ++ "<lambda>") params body scope) := by
  refine ⟨fun pins s σ H Q I h => ?_⟩
  obtain ⟨hT, h⟩ := h
  refine lam_makeV I TB hcode hm hu hT hdef (fun y hy e => ?_) hcl fun f c' H1 s' I1 eN T1 hf e1 e2 ne => ⟨.ref f, H1, I1, rfl, h f c' H1 eN T1 hf e1 e2 ne⟩
  have := List.all_eq_true.mp hfree y hy
  simp [e] at this
/-! ### a call -/
abbrev LF.nf (L : LF) : NdefX.NF := ⟨"<lambda>", L.qual, L.params, [], L.scope, [], L.c⟩
section
variable {CX : CXT} {P : Program} {w : World} {K : PySem.W.Frag} {mg : Str → Option Value} {base : Heap} {N : List Str} {x : Str} {L : LF} {f : Addr} {k j : Nat}
theorem lam_run (S : NdefX.NScope N [x] [] L.scope) (hb : ∀ (pm ctv : Value) (us : List Value), us.length = 1 → bindArgs (PySem.W.kla_fn "<lambda>" L.qual L.params L.body L.scope [] pm (.ref L.c) ctv) ⟨us, []⟩ = pure ([x].zip us))
    {A : Around} {outer : List Env} {s : Shared} {H : Hp} {us : List Value} {vs : List V} {Q : VK} {E : XK} {t : TE} (hr : Room (k + 1) A) (e0 : Env0 P w K mg base A outer s H) (hf : H f = some (LamO f L)) (hc : H L.c = some (CodeO L.c L.qual)) (r : Vals vs us) (hl : vs.length = 1)
    (hbody : Room k (A.deeper (NdefX.envF L.nf f s.heap.objs.size)) → PE (NdefX.ncx CX P w K mg base N L.nf f A outer s H E) L.body t) (hq : t (NdefX.startF N vs []) H Q) :
    codeAny (model P w) A (.call (.ref f) ⟨us, []⟩) (CR CX outer P w H s Q E) s := by
  have lim : s.heap.NoLimit := e0.mod.nolimit.keeps fun b o e => (e0.bs b o e).1
  obtain ⟨od, sl, pm, ctv, ho⟩ := lamO_at e0.hok hf
  have hus : us.length = 1 := by rw [← r.length]; exact hl
  refine PySem.W.kla_callFunE hr.depth ho rfl S.co S.gen rfl (NdefX.codeO_at e0.hok hc) ?_
  rw [hb pm ctv us hus]
  refine wpAny_pure (wpAny_newFunctionEnv S.nocell (fun ⟨n, _⟩ hy => S.par n (List.of_mem_zip hy).1) (fun h₁ hns hsb => ⟨lim.fresh _ hsb, ?_⟩) S.kind)
  show codeAny _ _ (.expr L.body (NdefX.envF L.nf f s.heap.objs.size)) _ _
  have kp : ∀ b o, s.heap.get? b = some o → h₁.get? b = some o := fun b o e => hsb.extBut b o (Nat.ne_of_lt (Heap.lt_size e)) (Heap.get?_push_of_some _ e)
  have C : NdefX.CellsAt L.nf.cl [] [] s.heap H := ⟨rfl, fun y c e => by simp [LF.nf] at e, fun x y c e => by simp [LF.nf] at e, fun i y e => by simp at e⟩
  have I : Inv (NdefX.ncx CX P w K mg base N L.nf f A outer s H E) [] (NdefX.startF N vs []) H { s with heap := h₁, toks := s.toks + ([x].zip us).length } := NdefX.inv_startN (ps := [x]) (fr := []) S hr.hd e0 hl r C hns kp
  refine PySem.W.kla_codeExpr (wpAny_mono ((hbody (hr.deeper _)).run [] _ _ H Q I hq) (fun v s' hq => ?_) fun e s' hq => hq)
  obtain ⟨w', H', J', rv, q⟩ := hq
  exact ⟨w', H', J'.os, J'.bare, J'.base, J'.hok, rv, q⟩
end
section
variable {X : Cx} {CX : CXT} {i j k : Nat} {x : Str} {E : XK} {ta : TA} {e : Expr} {es : List Expr} {p pos : Pos}
/-- y(e), y a name that holds a lambda -/
def tCallLV (i : Nat) (sp : Sp) (ta : TA) : TE := fun σ H Q => ∃ f, σ[i]? = some (some (.ref f)) ∧ (∃ L, H f = some (LamO f L)) ∧ ta σ H fun vs H1 => sp (.ref f :: vs) H1 Q (fun _ _ _ => False)
theorem pe_callLV {y : Str} {sp : Sp} (hsp : ∀ (f : Addr) (A : Around) (outer : List Env) (s : Shared) (H : Hp) (us : List Value) (vs : List V) (Q : VK), Room j A → Env0 X.prog X.w X.K X.mg X.base A outer s H → Vals vs us → sp (.ref f :: vs) H Q (fun _ _ _ => False) → (∃ L, H f = some (LamO f L)) ∧
      codeAny (model X.prog X.w) A (.call (.ref f) ⟨us, []⟩) (CR CX outer X.prog X.w H s Q (fun _ _ _ => False)) s)
    (hr : Room j X.A) (hx : Passes CX X (fun _ _ _ => False)) (hN : X.N[i]? = some y) (hv : Vis X.env.scope y) (ha : PA X (e :: es) ta)
    (hd : (y == ("__debug__" : Str)) = false := by decide) (hcd : (y == ("__classdict__" : Str)) = false := by decide)
    (he : starEach (e :: es) X.env = (false, eval e X.env) :: starEach es X.env := by rfl) (hpl : (backTo pos (starEach es X.env)).any (·.1) = false := by rfl) :
    PE X (.Call (.Name y p) (e :: es) [] pos) (tCallLV i sp ta) := by
  refine ⟨fun pins s σ H Q I h => ?_⟩
  obtain ⟨f, hs, ⟨L, hf⟩, ht⟩ := h
  refine wpAny_Call_Name_kw (thn ((pe_var (pos := p) hN hv hd hcd).run pins s σ H (fun v H1 => v = .ref f ∧ H1 = H) I ⟨.ref f, hs, rfl, rfl⟩) fun u s1 ⟨v, H1, I1, r1, q1⟩ => ?_)
  obtain ⟨ev, eH⟩ := q1
  subst ev
  rw [eH] at I1
  obtain rfl : u = Value.ref f := r1
  have fa : ∀ {L : LF} {H : Hp} {s : Shared}, Inv X pins σ H s → H f = some (LamO f L) → PySem.W.FnAt f s.heap := fun I e => by
    obtain ⟨od, sl, pm, ctv, ho⟩ := lamO_at I.hok e
    exact ⟨_, od, _, sl, ho⟩
  refine PySem.W.callWith_F (first := []) (fa I1 hf) (thn (ha.run pos pins s1 σ H _ I1 ht) fun us s2 ⟨vs, H2, I2, r, q⟩ => ?_) he hpl
  obtain ⟨⟨L2', hf2⟩, rc⟩ := hsp f X.A X.stack s2 H2 us vs Q hr I2.env0 r q
  refine ⟨fa I2 hf2, ?_⟩
  show wpAny _ _ (call (.ref f) us) _ _ _
  refine wpAny_call (codeAny_mono rc fun r s' hq => ?_)
  cases r with
  | error e => exact hx pins σ H2 s2 e s' I2 hq
  | ok fl =>
    cases fl with
    | ret u => exact I2.after hq
    | next => exact False.elim hq
    | brk => exact False.elim hq
    | cont => exact False.elim hq
end
/-! ### lambdas that tell fields of what they are handed -/
/-- [x.f, x.g, ..] -/
inductive AtS (x : Str) : List Str → List Expr → Prop where
  | nil : AtS x [] []
  | cons {f : Str} {fs : List Str} {es : List Expr} {p1 p2 : Pos} (h : AtS x fs es) : AtS x (f :: fs) (.Attribute (.Name x p1) f p2 :: es)
structure LamR (L : LF) (fs : List Str) : Prop where
  ex : ∃ (x : Str) (es : List Expr) (p : Pos), L.body = .List es p ∧ AtS x fs es ∧ NdefX.NScope [x] [x] [] L.scope ∧ Vis L.scope x ∧ (x == ("__debug__" : Str)) = false ∧ (x == ("__classdict__" : Str)) = false ∧
    ∀ (pm ctv : Value) (us : List Value), us.length = 1 → bindArgs (PySem.W.kla_fn "<lambda>" L.qual L.params L.body L.scope [] pm (.ref L.c) ctv) ⟨us, []⟩ = pure ([x].zip us)
/-- what such a lambda is handed, and tells -/
def spLam (K : PySem.W.Frag) : Sp := fun vs H Q _ => ∃ (f a C d : Addr) (L : LF) (fs : List Str) (ws : List (Str × V)) (us : List V), vs = [.ref f, .ref a] ∧ H f = some (LamO f L) ∧ H L.c = some (CodeO L.c L.qual) ∧ LamR L fs ∧
  H a = some (exo a C (some d)) ∧ H d = some (exd d ws) ∧ XfC K C ∧ (∀ g ∈ fs, PySem.W.findIn K (.ref C) g = some none) ∧ fs.map (fun g => ws.lookup g) = us.map some ∧ us.length ≤ sizeLine ∧ ∀ l, H l = none → Q (.ref l) (upd H l (.lst us))
theorem pa_impX {X : Cx} {e : List Expr} {t t' : TA} (h : PA X e t) (i : ∀ σ H Q, t' σ H Q → t σ H Q) : PA X e t' := ⟨fun pos pins s σ H Q I q => h.run pos pins s σ H Q I (i σ H Q q)⟩
def tAts (a C d : Addr) (ws : List (Str × V)) (fs : List Str) : TA := fun σ H Q => σ[0]? = some (some (.ref a)) ∧ H a = some (exo a C (some d)) ∧ H d = some (exd d ws) ∧ ∃ us, fs.map (fun g => ws.lookup g) = us.map some ∧ Q us H
theorem ats_pa {X : Cx} {x : Str} {a C d : Addr} {ws : List (Str × V)} (hN : X.N[0]? = some x) (hv : Vis X.env.scope x) (h1 : (x == ("__debug__" : Str)) = false) (h2 : (x == ("__classdict__" : Str)) = false) (T : XfC X.K C) : ∀ {fs : List Str} {es : List Expr}, AtS x fs es → (∀ g ∈ fs, PySem.W.findIn X.K (.ref C) g = some none) →
    PA X es (tAts a C d ws fs)
  | _, _, .nil, _ => pa_impX pa_nil fun σ H Q q => by
    obtain ⟨_, _, _, us, e, q⟩ := q
    cases us with
    | nil => exact q
    | cons _ _ => simp at e
  | _, _, .cons h, hf => pa_impX (pa_cons (pe_xfd (pe_var hN hv h1 h2)) (ats_pa hN hv h1 h2 T h fun g hg => hf g (List.mem_cons_of_mem _ hg))) fun σ H Q q => by
    obtain ⟨e0, ea, ed, us, e, q⟩ := q
    cases us with
    | nil => simp at e
    | cons u us =>
      simp only [List.map_cons, List.cons.injEq] at e
      exact ⟨.ref a, e0, a, C, d, ws, u, rfl, ea, ed, T, hf _ (List.mem_cons_self ..), e.1, e0, ea, ed, us, e.2, q⟩
theorem lam_sp {P : Program} {w : World} {K : PySem.W.Frag} {mg : Str → Option Value} {base : Heap} (f : Addr) (A : Around) (outer : List Env) (s : Shared) (H : Hp) (us : List Value) (vs : List V) (Q : VK) (hr : Room 1 A) (e0 : Env0 P w K mg base A outer s H) (r : Vals vs us) (h : spLam K (.ref f :: vs) H Q (fun _ _ _ => False)) :
    (∃ L, H f = some (LamO f L)) ∧ codeAny (model P w) A (.call (.ref f) ⟨us, []⟩) (CR (L2.CX P w) outer P w H s Q (fun _ _ _ => False)) s := by
  obtain ⟨f', a, C, d, L, fs, ws, vals, e, hf, hc, ⟨x, es, p, hb, hA, S, hv, h1, h2, hbind⟩, ea, ed, T, hno, em, hz, q⟩ := h
  cases e
  refine ⟨⟨L, hf⟩, lam_run (k := 0) S hbind hr e0 hf hc r rfl (t := tLst (tAts a C d ws fs)) (fun _ => ?_) ?_⟩
  · rw [hb]
    exact pe_lst (ats_pa (a := a) (C := C) (d := d) (ws := ws) rfl hv h1 h2 T hA hno)
  · exact ⟨rfl, ea, ed, vals, em, hz, q⟩
end TL
end

section
set_option Elab.async false
set_option linter.all false
set_option autoImplicit false
set_option maxRecDepth 100000
/-! TL, part a: trees, what represents a tree, states -/
namespace TL
open PySem PySem.Spec PyProof.Rows L2

/-- trees -/
inductive D where
  | non | bl (b : Bool) | int (i : Int) | str (s : Str)
  | lst (xs : List D) | tup (xs : List D) | dct (kvs : List (Key × D)) | ins (c : Str) (fs : List (Str × D))
  | fn (x : Str) | hot (i : Nat) | gv (ns : List Int)
  | exc (c : Str) (fs : List (Str × D)) | lam (q : Str) (fs : List Str)
  deriving Inhabited

/-- the written part; the tables of code objects -/
structure Wd where
  K : PySem.W.Frag
  mg : Str → Option Value
  T : List (Addr × Str)
/-- the tables that lambdas are told in -/
class TabL where
  T : List (Addr × Str)
/-- the frozen heap, the places of hot things -/
structure Fz where
  F : Hp
  e : List Addr
/-- a tuple of the written part -/
def CT (K : PySem.W.Frag) (a : Addr) (vs : List V) : Prop :=
  ∃ (o : Obj) (its : Array Value) (n : Nat), K.lookup a = some o ∧ o.cls = .type "tuple" ∧ o.data = .seq its n ∧ its.size ≤ sizeLine ∧ Vals vs its.toList

/-- the list that the law is handed: locked, or of the written part -/
def GvL (K : PySem.W.Frag) (F : Hp) (a : Addr) (vs : List V) : Prop := (∃ o, F a = some (.frz o (.lst vs))) ∨
  ∃ (o : Obj) (its : Array Value) (n : Nat), K.lookup a = some o ∧ o.cls = .type "list" ∧ o.dict = none ∧ o.data = .seq its n ∧ its.size ≤ sizeLine ∧ Vals vs its.toList
section
variable (Z : Wd) (f : Fz)
mutual
def Rp : D → V → Prop
  | .non, v => v = .non
  | .bl b, v => v = .bl b
  | .int i, v => v = .int i
  | .str s, v => v = .str s
  | .lst xs, v => ∃ a vs, v = .ref a ∧ f.F a = some (.lst vs) ∧ RpL xs vs
  | .tup xs, v => ∃ a vs, v = .ref a ∧ (f.F a = some (.tup vs) ∨ CT Z.K a vs) ∧ RpL xs vs
  | .dct kvs, v => ∃ a od ws, v = .ref a ∧ f.F a = some (.frz od (.dK ws)) ∧ RpK kvs ws
  | .ins c fs, v => ∃ a C dx ws, v = .ref a ∧ f.F a = some (.ins C dx ws) ∧ Z.mg c = some (.ref C) ∧ RpF fs ws
  | .fn x, v => ∃ a, v = .ref a ∧ Z.mg x = some (.ref a)
  | .hot i, v => ∃ a, v = .ref a ∧ f.e[i]? = some a
  | .gv ns, v => ∃ a, v = .ref a ∧ GvL Z.K f.F a (ns.map V.int)
  | .exc c fs, v => ∃ a C, v = .ref a ∧ Z.mg c = some (.ref C) ∧ ((∃ d ws, f.F a = some (exo a C (some d)) ∧ f.F d = some (exd d ws) ∧ RpF fs ws) ∨ (fs = [] ∧ f.F a = some (ExO (.ref C) a)))
  | .lam q fs, v => ∃ a L, v = .ref a ∧ f.F a = some (LamO a L) ∧ f.F L.c = some (LamX.CodeO L.c L.qual) ∧ L.qual = q ∧ LamR L fs
def RpL : List D → List V → Prop
  | [], vs => vs = []
  | d :: ds, vs => ∃ v r, vs = v :: r ∧ Rp d v ∧ RpL ds r
def RpK : List (Key × D) → List (Key × V) → Prop
  | [], ws => ws = []
  | (k, d) :: ds, ws => ∃ v r, ws = (k, v) :: r ∧ Rp d v ∧ RpK ds r
def RpF : List (Str × D) → List (Str × V) → Prop
  | [], ws => ws = []
  | (k, d) :: ds, ws => ∃ v r, ws = (k, v) :: r ∧ Rp d v ∧ RpF ds r
end
end

/-- f has grown to g -/
structure Le (f g : Fz) : Prop where
  F : ∀ a o, f.F a = some o → g.F a = some o
  e : ∀ (i : Nat) (a : Addr), f.e[i]? = some a → g.e[i]? = some a
theorem Le.refl (f : Fz) : Le f f := ⟨fun _ _ h => h, fun _ _ h => h⟩
theorem Le.trans {f g h : Fz} (a : Le f g) (b : Le g h) : Le f h := ⟨fun x o q => b.F x o (a.F x o q), fun i x q => b.e i x (a.e i x q)⟩

section
variable {Z : Wd} {f g : Fz}
mutual
theorem Rp.mono (l : Le f g) : ∀ {d : D} {v : V}, Rp Z f d v → Rp Z g d v
  | .non, v, h => by simpa only [Rp] using h
  | .bl b, v, h => by simpa only [Rp] using h
  | .int i, v, h => by simpa only [Rp] using h
  | .str s, v, h => by simpa only [Rp] using h
  | .lst xs, v, h => by
    simp only [Rp] at h ⊢
    obtain ⟨a, vs, rfl, e, r⟩ := h
    exact ⟨a, vs, rfl, l.F _ _ e, RpL.mono l r⟩
  | .tup xs, v, h => by
    simp only [Rp] at h ⊢
    obtain ⟨a, vs, rfl, e, r⟩ := h
    exact ⟨a, vs, rfl, e.imp (l.F _ _) id, RpL.mono l r⟩
  | .dct kvs, v, h => by
    simp only [Rp] at h ⊢
    obtain ⟨a, od, vs, rfl, e, r⟩ := h
    exact ⟨a, od, vs, rfl, l.F _ _ e, RpK.mono l r⟩
  | .ins c fs, v, h => by
    simp only [Rp] at h ⊢
    obtain ⟨a, C, dx, ws, rfl, e, m, r⟩ := h
    exact ⟨a, C, dx, ws, rfl, l.F _ _ e, m, RpF.mono l r⟩
  | .fn x, v, h => by simpa only [Rp] using h
  | .hot i, v, h => by
    simp only [Rp] at h ⊢
    obtain ⟨a, rfl, e⟩ := h
    exact ⟨a, rfl, l.e _ _ e⟩
  | .gv ns, v, h => by
    simp only [Rp] at h ⊢
    obtain ⟨a, rfl, e⟩ := h
    exact ⟨a, rfl, e.imp (fun ⟨o, e⟩ => ⟨o, l.F _ _ e⟩) id⟩
  | .exc c fs, v, h => by
    simp only [Rp] at h ⊢
    obtain ⟨a, C, rfl, m, e⟩ := h
    refine ⟨a, C, rfl, m, ?_⟩
    rcases e with ⟨d, ws, e1, e2, e3⟩ | ⟨e1, e2⟩
    · exact .inl ⟨d, ws, l.F _ _ e1, l.F _ _ e2, RpF.mono l e3⟩
    · exact .inr ⟨e1, l.F _ _ e2⟩
  | .lam q fs, v, h => by
    simp only [Rp] at h ⊢
    obtain ⟨a, L, rfl, e1, e2, e3⟩ := h
    exact ⟨a, L, rfl, l.F _ _ e1, l.F _ _ e2, e3⟩
theorem RpL.mono (l : Le f g) : ∀ {ds : List D} {vs : List V}, RpL Z f ds vs → RpL Z g ds vs
  | [], vs, h => by simpa only [RpL] using h
  | d :: ds, vs, h => by
    simp only [RpL] at h ⊢
    obtain ⟨v, r, e, h1, h2⟩ := h
    exact ⟨v, r, e, Rp.mono l h1, RpL.mono l h2⟩
theorem RpK.mono (l : Le f g) : ∀ {ds : List (Key × D)} {vs : List (Key × V)}, RpK Z f ds vs → RpK Z g ds vs
  | [], vs, h => by simpa only [RpK] using h
  | (k, d) :: ds, vs, h => by
    simp only [RpK] at h ⊢
    obtain ⟨v, r, e, h1, h2⟩ := h
    exact ⟨v, r, e, Rp.mono l h1, RpK.mono l h2⟩
theorem RpF.mono (l : Le f g) : ∀ {ds : List (Str × D)} {vs : List (Str × V)}, RpF Z f ds vs → RpF Z g ds vs
  | [], vs, h => by simpa only [RpF] using h
  | (k, d) :: ds, vs, h => by
    simp only [RpF] at h ⊢
    obtain ⟨v, r, e, h1, h2⟩ := h
    exact ⟨v, r, e, Rp.mono l h1, RpF.mono l h2⟩
end
/-- as pairs -/
theorem rpL_iff : ∀ {ds : List D} {vs : List V}, RpL Z f ds vs ↔ Paired (Rp Z f) ds vs
  | [], vs => by
    simp only [RpL]
    constructor
    · rintro rfl; exact .nil
    · intro h; cases h; rfl
  | d :: ds, vs => by
    simp only [RpL]
    constructor
    · rintro ⟨v, r, rfl, h1, h2⟩; exact .cons h1 (rpL_iff.mp h2)
    · intro h
      cases h with
      | cons a b => exact ⟨_, _, rfl, a, rpL_iff.mpr b⟩
abbrev PK (Z : Wd) (f : Fz) (p : Key × D) (q : Key × V) : Prop := p.1 = q.1 ∧ Rp Z f p.2 q.2
abbrev PF (Z : Wd) (f : Fz) (p : Str × D) (q : Str × V) : Prop := p.1 = q.1 ∧ Rp Z f p.2 q.2
theorem rpK_iff : ∀ {ds : List (Key × D)} {vs : List (Key × V)}, RpK Z f ds vs ↔ Paired (PK Z f) ds vs
  | [], vs => by
    simp only [RpK]
    constructor
    · rintro rfl; exact .nil
    · intro h; cases h; rfl
  | (k, d) :: ds, vs => by
    simp only [RpK]
    constructor
    · rintro ⟨v, r, rfl, h1, h2⟩; exact .cons ⟨rfl, h1⟩ (rpK_iff.mp h2)
    · intro h
      cases h with
      | @cons _ q _ _ a b =>
        obtain ⟨k', v⟩ := q
        obtain ⟨a1, a2⟩ := a
        cases a1
        exact ⟨_, _, rfl, a2, rpK_iff.mpr b⟩
theorem rpF_iff : ∀ {ds : List (Str × D)} {vs : List (Str × V)}, RpF Z f ds vs ↔ Paired (PF Z f) ds vs
  | [], vs => by
    simp only [RpF]
    constructor
    · rintro rfl; exact .nil
    · intro h; cases h; rfl
  | (k, d) :: ds, vs => by
    simp only [RpF]
    constructor
    · rintro ⟨v, r, rfl, h1, h2⟩; exact .cons ⟨rfl, h1⟩ (rpF_iff.mp h2)
    · intro h
      cases h with
      | @cons _ q _ _ a b =>
        obtain ⟨k', v⟩ := q
        obtain ⟨a1, a2⟩ := a
        cases a1
        exact ⟨_, _, rfl, a2, rpF_iff.mpr b⟩
end

/-! ### paired lists -/
section
variable {α β : Type} {R : α → β → Prop}
theorem pd_app : ∀ {a c : List α} {b d : List β}, Paired R a b → Paired R c d → Paired R (a ++ c) (b ++ d)
  | _, _, _, _, .nil, h => h
  | _, _, _, _, .cons x t, h => .cons x (pd_app t h)
theorem pd_get : ∀ {a : List α} {b : List β}, Paired R a b → ∀ {i : Nat} {x : α}, a[i]? = some x → ∃ y, b[i]? = some y ∧ R x y
  | _, _, .nil, i, x, h => by simp at h
  | _, _, .cons r t, 0, x, h => by simp at h; subst h; exact ⟨_, rfl, r⟩
  | _, _, .cons r t, i + 1, x, h => by
    obtain ⟨y, h1, h2⟩ := pd_get t (i := i) (x := x) (by simpa using h)
    exact ⟨y, by simpa using h1, h2⟩
theorem pd_getr : ∀ {a : List α} {b : List β}, Paired R a b → ∀ {i : Nat} {y : β}, b[i]? = some y → ∃ x, a[i]? = some x ∧ R x y
  | _, _, .nil, i, x, h => by simp at h
  | _, _, .cons r t, 0, x, h => by simp at h; subst h; exact ⟨_, rfl, r⟩
  | _, _, .cons r t, i + 1, x, h => by
    obtain ⟨y, h1, h2⟩ := pd_getr t (i := i) (y := x) (by simpa using h)
    exact ⟨y, by simpa using h1, h2⟩
theorem pd_take : ∀ (n : Nat) {a : List α} {b : List β}, Paired R a b → Paired R (a.take n) (b.take n)
  | 0, _, _, _ => by simp; exact .nil
  | _ + 1, _, _, .nil => by simp; exact .nil
  | n + 1, _, _, .cons r t => .cons r (pd_take n t)
theorem pd_drop : ∀ (n : Nat) {a : List α} {b : List β}, Paired R a b → Paired R (a.drop n) (b.drop n)
  | 0, _, _, h => h
  | _ + 1, _, _, .nil => by simp; exact .nil
  | n + 1, _, _, .cons _ t => pd_drop n t
theorem pd_set {x : α} {y : β} (r : R x y) : ∀ (i : Nat) {a : List α} {b : List β}, Paired R a b → Paired R (a.set i x) (b.set i y)
  | _, _, _, .nil => .nil
  | 0, _, _, .cons _ t => .cons r t
  | i + 1, _, _, .cons q t => .cons q (pd_set r i t)
theorem pd_erase : ∀ (i : Nat) {a : List α} {b : List β}, Paired R a b → Paired R (a.eraseIdx i) (b.eraseIdx i)
  | _, _, _, .nil => .nil
  | 0, _, _, .cons _ t => t
  | i + 1, _, _, .cons q t => .cons q (pd_erase i t)
theorem pd_dropLast : ∀ {a : List α} {b : List β}, Paired R a b → Paired R a.dropLast b.dropLast
  | _, _, .nil => .nil
  | _, _, .cons _ .nil => .nil
  | _, _, .cons r (.cons q t) => .cons r (pd_dropLast (.cons q t))
theorem pd_rev {a : List α} {b : List β} (h : Paired R a b) : Paired R a.reverse b.reverse := by
  induction h with
  | nil => exact .nil
  | cons r t ih => simp only [List.reverse_cons]; exact pd_app ih (.cons r .nil)
theorem pd_mapl {γ : Type} {S : γ → β → Prop} {k : α → γ} (m : ∀ x y, R x y → S (k x) y) : ∀ {a : List α} {b : List β}, Paired R a b → Paired S (a.map k) b
  | _, _, .nil => .nil
  | _, _, .cons r t => .cons (m _ _ r) (pd_mapl m t)
theorem pd_mapr {γ : Type} {S : α → γ → Prop} {k : β → γ} (m : ∀ x y, R x y → S x (k y)) : ∀ {a : List α} {b : List β}, Paired R a b → Paired S a (b.map k)
  | _, _, .nil => .nil
  | _, _, .cons r t => .cons (m _ _ r) (pd_mapr m t)
end
end TL
end

section
set_option Elab.async false
set_option linter.all false
set_option autoImplicit false
set_option maxRecDepth 100000
/-! TL, part b: states, what is wanted of a mirror's answer, expressions -/
namespace TL
open PySem PySem.Spec PyProof.Rows L2

/-- an object and what it holds -/
def RpO (Z : Wd) (f : Fz) : HO → D → Prop
  | .lst vs, .lst xs => Paired (Rp Z f) xs vs
  | .dK ws, .dct kvs => Paired (PK Z f) kvs ws
  | .frz _ (.dK ws), .dct kvs => Paired (PK Z f) kvs ws
  | .ins C _ ws, .ins c fs => Z.mg c = some (.ref C) ∧ Paired (PF Z f) fs ws
  | _, _ => False
/-- locked -/
def isFz : HO → Bool
  | .frz _ _ => true
  | _ => false
/-- what stands for a hot thing that is hot no more -/
def dead : D := .hot 0
/-- no table -/
def Nt (o : HO) : Prop := ∀ ps, o ≠ .tbl ps
/-- a container -/
def ctB : HO → Bool
  | .lst _ => true
  | .tup _ => true
  | .dK _ => true
  | .ins _ _ _ => true
  | .frz _ _ => true
  | _ => false
theorem ctB_nt {o : HO} (h : ctB o = true) : Nt o := fun ps z => by subst z; cases h
theorem tabs_upd {T : List (Addr × Str)} {H : Hp} {a : Addr} {o' : HO} (t : LamX.Tabs T H) (h : ∀ o, H a = some o → ctB o = true) : LamX.Tabs T (upd H a o') := fun p hp => by
  obtain ⟨ps, h1, h2, h3⟩ := t p hp
  have n1 : p.1 ≠ a := fun z => by
    have := h _ (z ▸ h1)
    cases this
  refine ⟨ps, by rw [upd_ne n1]; exact h1, h2, fun pos cv hc => ?_⟩
  obtain ⟨c, e1, e2⟩ := h3 pos cv hc
  have n2 : c ≠ a := fun z => by
    have := h _ (z ▸ e2)
    cases this
  exact ⟨c, e1, by rw [upd_ne n2]; exact e2⟩
/-- not an old thing -/
def New (H : Hp) (a : Addr) : Prop := ∀ o, H a = some o → ∃ ps, o = .tbl ps
theorem New.of {H : Hp} {a : Addr} (h : H a = none) : New H a := fun o e => by rw [h] at e; cases e
theorem New.ne {H : Hp} {a b : Addr} {o : HO} (n : New H a) (h : H b = some o) (nt : Nt o) : b ≠ a := fun z => by
  subst z
  obtain ⟨ps, e⟩ := n o h
  exact nt ps e
structure Hs (Z : Wd) (H : Hp) (f : Fz) (g : List D) : Prop where
  fr : ∀ a o, f.F a = some o → H a = some o
  nt : ∀ a o, f.F a = some o → Nt o
  tab : LamX.Tabs Z.T H
  len : f.e.length = g.length
  lv : ∀ a, a ∈ f.e → ∃ o, H a = some o ∧ Nt o
  hot : ∀ (i : Nat) (d : D), g[i]? = some d → d ≠ dead → ∃ a o, f.e[i]? = some a ∧ f.F a = none ∧ H a = some o ∧ RpO Z f o d ∧ isFz o = false
  nd : f.e.Nodup
/-- the heap and what is frozen have grown; what is not hot stands as it stood -/
structure Ex (H : Hp) (f : Fz) (H' : Hp) (f' : Fz) : Prop where
  le : Le f f'
  keep : ∀ a o, H a = some o → Nt o → a ∉ f.e → H' a = some o ∧ (ctB o = true → f.F a = none → f'.F a = none) ∧ a ∉ f'.e
theorem Ex.refl (H : Hp) (f : Fz) : Ex H f H f := ⟨Le.refl f, fun _ _ h _ n => ⟨h, fun _ => id, n⟩⟩
theorem Ex.trans {H H1 H2 : Hp} {f f1 f2 : Fz} (a : Ex H f H1 f1) (b : Ex H1 f1 H2 f2) : Ex H f H2 f2 :=
  ⟨a.le.trans b.le, fun x o h nt n => by
    obtain ⟨h1, k1, n1⟩ := a.keep x o h nt n
    obtain ⟨h2, k2, n2⟩ := b.keep x o h1 nt n1
    exact ⟨h2, fun c z => k2 c (k1 c z), n2⟩⟩

inductive Kd where
  | un | sh | ow | lk
  deriving DecidableEq, Inhabited
def Sl (Z : Wd) (H : Hp) (f : Fz) : Kd → Option (Option V) → D → Prop
  | .un, _, _ => True
  | .sh, x, d => ∃ v, x = some (some v) ∧ Rp Z f d v
  | .ow, x, d => ∃ a o, x = some (some (.ref a)) ∧ f.F a = none ∧ a ∉ f.e ∧ H a = some o ∧ RpO Z f o d ∧ isFz o = false
  | .lk, x, d => ∃ a o, x = some (some (.ref a)) ∧ f.F a = none ∧ a ∉ f.e ∧ H a = some o ∧ RpO Z f o d ∧ ∀ ws, o ≠ .dK ws
structure Sr (Z : Wd) (W : List Kd) (σ : L2.St) (ρ : List D) (H : Hp) (f : Fz) : Prop where
  len : ρ.length = σ.length
  lenW : W.length = σ.length
  slot : ∀ (i : Nat) (k : Kd), W[i]? = some k → Sl Z H f k σ[i]? (ρ.getD i .non)
  sep : ∀ (i j : Nat) (a : Addr), W[i]? = some .ow → W[j]? = some .ow → σ[i]? = some (some (.ref a)) → σ[j]? = some (some (.ref a)) → i = j

theorem rpO_mono {Z : Wd} {f g : Fz} (l : Le f g) : ∀ {o : HO} {d : D}, RpO Z f o d → RpO Z g o d
  | o, d, h => by
    cases o with
    | frz ob u =>
      cases u <;> cases d <;> simp only [RpO] at h ⊢
      exact L2.Paired.mapP h fun _ _ q => ⟨q.1, q.2.mono l⟩
    | lst vs =>
      cases d <;> simp only [RpO] at h ⊢
      exact L2.Paired.mapP h fun _ _ q => q.mono l
    | dK vs =>
      cases d <;> simp only [RpO] at h ⊢
      exact L2.Paired.mapP h fun _ _ q => ⟨q.1, q.2.mono l⟩
    | ins _ _ _ =>
      cases d <;> simp only [RpO] at h ⊢
      exact ⟨h.1, L2.Paired.mapP h.2 fun _ _ q => ⟨q.1, q.2.mono l⟩⟩
    | _ => cases d <;> simp only [RpO] at h
theorem rpO_ct {Z : Wd} {f : Fz} {o : HO} {d : D} (h : RpO Z f o d) : ctB o = true := by
  cases o with
  | frz ob u => rfl
  | lst _ => rfl
  | dK _ => rfl
  | ins _ _ _ => rfl
  | _ => cases d <;> simp only [RpO] at h
theorem rpO_nt {Z : Wd} {f : Fz} {o : HO} {d : D} (h : RpO Z f o d) : Nt o := ctB_nt (rpO_ct h)
theorem rpO_nd {Z : Wd} {f : Fz} {o : HO} {d : D} (h : RpO Z f o d) : d ≠ dead := fun z => by
  subst z
  cases o with
  | frz ob u => cases u <;> simp only [RpO, dead] at h
  | _ => simp only [RpO, dead] at h
theorem Sl.ext {Z : Wd} {H H' : Hp} {f f' : Fz} (x : Ex H f H' f') : ∀ {k : Kd} {v : Option (Option V)} {d : D}, Sl Z H f k v d → Sl Z H' f' k v d
  | .un, _, _, _ => trivial
  | .sh, _, _, ⟨v, e, r⟩ => ⟨v, e, r.mono x.le⟩
  | .ow, _, _, ⟨a, o, e, n, nh, h, r, z⟩ => by
    obtain ⟨h1, h2, h3⟩ := x.keep a o h (rpO_nt r) nh
    exact ⟨a, o, e, h2 (rpO_ct r) n, h3, h1, rpO_mono x.le r, z⟩
  | .lk, _, _, ⟨a, o, e, n, nh, h, r, z⟩ => by
    obtain ⟨h1, h2, h3⟩ := x.keep a o h (rpO_nt r) nh
    exact ⟨a, o, e, h2 (rpO_ct r) n, h3, h1, rpO_mono x.le r, z⟩
theorem Sr.ext {Z : Wd} {W : List Kd} {σ : L2.St} {ρ : List D} {H H' : Hp} {f f' : Fz} (s : Sr Z W σ ρ H f) (x : Ex H f H' f') : Sr Z W σ ρ H' f' :=
  ⟨s.len, s.lenW, fun i k h => (s.slot i k h).ext x, s.sep⟩

/-- a thing that is looked at: frozen or hot, or a container that somebody owns -/
def Rv (Z : Wd) (H : Hp) (f : Fz) (d : D) (v : V) : Prop := Rp Z f d v ∨ ∃ a o, v = .ref a ∧ f.F a = none ∧ a ∉ f.e ∧ H a = some o ∧ RpO Z f o d
theorem Rv.ext {Z : Wd} {H H' : Hp} {f f' : Fz} {d : D} {v : V} (r : Rv Z H f d v) (x : Ex H f H' f') : Rv Z H' f' d v := by
  rcases r with r | ⟨a, o, e, n, nh, h, r⟩
  · exact .inl (r.mono x.le)
  · obtain ⟨h1, h2, h3⟩ := x.keep a o h (rpO_nt r) nh
    exact .inr ⟨a, o, e, h2 (rpO_ct r) n, h3, h1, rpO_mono x.le r⟩

/-! ### answers -/
structure Exc where
  c : Str
  fs : List (Str × D)
inductive R (α : Type) where
  | ok (a : α) (g : List D)
  | ex (x : Exc) (g : List D)
  | no
def R.bind {α β : Type} : R α → (α → List D → R β) → R β
  | .ok a g, k => k a g
  | .ex x g, _ => .ex x g
  | .no, _ => .no
/-- what is wanted of an exception -/
def pEx (Z : Wd) (E : XK) (H : Hp) (f : Fz) (x : Exc) (g' : List D) : Prop :=
  ∀ C dd ws H' f', Ex H f H' f' → Hs Z H' f' g' → Z.mg x.c = some (.ref C) → H' dd = some (.xd ws) → Paired (PF Z f') x.fs ws → E (.ref C) (some dd) H'
def post {α β : Type} (rel : Hp → Fz → α → β → Prop) (Z : Wd) (E : XK) (H : Hp) (f : Fz) (r : R α) (Q : β → Hp → Prop) : Prop :=
  match r with
  | .ok d g' => ∀ v H' f', Ex H f H' f' → Hs Z H' f' g' → rel H' f' d v → Q v H'
  | .ex x g' => pEx Z E H f x g'
  | .no => False
theorem pEx.ext {Z : Wd} {E : XK} {H H1 : Hp} {f f1 : Fz} {x : Exc} {g : List D} (p : pEx Z E H f x g) (e : Ex H f H1 f1) : pEx Z E H1 f1 x g :=
  fun C dd ws H' f' e' h m hd r => p C dd ws H' f' (e.trans e') h m hd r
section
variable {α β γ δ : Type} {rel : Hp → Fz → α → β → Prop} {rel' : Hp → Fz → γ → δ → Prop} {Z : Wd} {E : XK} {H H1 : Hp} {f f1 : Fz}
theorem post.ext {r : R α} {Q : β → Hp → Prop} (p : post rel Z E H f r Q) (e : Ex H f H1 f1) : post rel Z E H1 f1 r Q := by
  cases r with
  | ok d g => exact fun v H' f' e' h r => p v H' f' (e.trans e') h r
  | ex x g => exact pEx.ext p e
  | no => exact p
/-- one after another -/
theorem post.bind {r : R α} {k : α → List D → R γ} {Q : δ → Hp → Prop} {Q' : β → Hp → Prop} (p : post rel' Z E H f (r.bind k) Q)
    (h : ∀ a g v H' f', r = .ok a g → Ex H f H' f' → Hs Z H' f' g → rel H' f' a v → post rel' Z E H' f' (k a g) Q → Q' v H') : post rel Z E H f r Q' := by
  cases r with
  | ok a g => exact fun v H' f' e hs r => h a g v H' f' rfl e hs r (post.ext (r := k a g) p e)
  | ex x g => exact p
  | no => exact p
theorem post.imp {r : R α} {Q Q' : β → Hp → Prop} (p : post rel Z E H f r Q) (h : ∀ v H', Q v H' → Q' v H') : post rel Z E H f r Q' := by
  cases r with
  | ok a g => exact fun v H' f' e hs r => h _ _ (p v H' f' e hs r)
  | ex x g => exact p
  | no => exact p
end
variable [TabL]
abbrev wd (X : Cx) : Wd := ⟨X.K, X.mg, TabL.T⟩
abbrev M (α : Type) := List D → List D → R α
/-- the reading of a mirror -/
def tG {α β : Type} (rel : Hp → Fz → α → β → Prop) (Z : Wd) (E : XK) (W : List Kd) (m : M α) : L2.St → Hp → (β → Hp → Prop) → Prop :=
  fun σ H Q => ∃ f ρ g, Sr Z W σ ρ H f ∧ Hs Z H f g ∧ post rel Z E H f (m ρ g) Q
abbrev relD (Z : Wd) : Hp → Fz → D → V → Prop := fun _ f d v => Rp Z f d v
abbrev relB : Hp → Fz → Bool → Bool → Prop := fun _ _ a b => b = a
abbrev relL (Z : Wd) : Hp → Fz → List D → List V → Prop := fun _ f ds vs => Paired (Rp Z f) ds vs
abbrev tE (Z : Wd) (E : XK) (W : List Kd) (m : M D) : TE := tG (relD Z) Z E W m
abbrev tT (Z : Wd) (E : XK) (W : List Kd) (m : M Bool) : TT := tG relB Z E W m
abbrev tA (Z : Wd) (E : XK) (W : List Kd) (m : M (List D)) : TA := tG (relL Z) Z E W m
def PX (X : Cx) (E : XK) (W : List Kd) (e : Expr) (m : M D) : Prop := PE X e (tE (wd X) E W m)
def TX (X : Cx) (E : XK) (W : List Kd) (e : Expr) (m : M Bool) : Prop := PT X e (tT (wd X) E W m)
abbrev relV (Z : Wd) : Hp → Fz → D → V → Prop := fun H f d v => Rv Z H f d v
abbrev relVL (Z : Wd) : Hp → Fz → List D → List V → Prop := fun H f ds vs => Paired (Rv Z H f) ds vs
/-- an expression whose value is looked at -/
def VX (X : Cx) (E : XK) (W : List Kd) (e : Expr) (m : M D) : Prop := PE X e (tG (relV (wd X)) (wd X) E W m)
/-- arguments that are looked at -/
def AV (X : Cx) (E : XK) (W : List Kd) (es : List Expr) (m : M (List D)) : Prop := PA X es (tG (relVL (wd X)) (wd X) E W m)
def AX (X : Cx) (E : XK) (W : List Kd) (es : List Expr) (m : M (List D)) : Prop := PA X es (tA (wd X) E W m)

theorem PE.imp {X : Cx} {e : Expr} {t t' : TE} (h : PE X e t) (i : ∀ σ H Q, t' σ H Q → t σ H Q) : PE X e t' := ⟨fun pins s σ H Q I q => h.run pins s σ H Q I (i σ H Q q)⟩
theorem PT.imp {X : Cx} {e : Expr} {t t' : TT} (h : PT X e t) (i : ∀ σ H Q, t' σ H Q → t σ H Q) : PT X e t' := ⟨fun pins s σ H Q I q => h.run pins s σ H Q I (i σ H Q q)⟩
theorem PA.imp {X : Cx} {e : List Expr} {t t' : TA} (h : PA X e t) (i : ∀ σ H Q, t' σ H Q → t σ H Q) : PA X e t' := ⟨fun pos pins s σ H Q I q => h.run pos pins s σ H Q I (i σ H Q q)⟩
theorem PS.imp {X : Cx} {e : Stmt} {t t' : TS} (h : PS X e t) (i : ∀ D σ H, t' D σ H → t D σ H) : PS X e t' := ⟨fun pins s σ H D I q => h.run pins s σ H D I (i D σ H q)⟩
theorem PSs.imp {X : Cx} {e : List Stmt} {t t' : TS} (h : PSs X e t) (i : ∀ D σ H, t' D σ H → t D σ H) : PSs X e t' := ⟨fun pins s σ H D I q => h.run pins s σ H D I (i D σ H q)⟩

section
variable {α β γ δ : Type} {rel : Hp → Fz → α → β → Prop} {rel' : Hp → Fz → γ → δ → Prop} {Z : Wd} {E : XK} {W : List Kd}
/-- two in a row: the first's reading, then a wish of the second -/
theorem tG.bind {m : M α} {k : α → M γ} {σ : L2.St} {H : Hp} {Q : δ → Hp → Prop} {Q' : β → Hp → Prop} (h : tG rel' Z E W (fun ρ g => (m ρ g).bind fun a g' => k a ρ g') σ H Q)
    (i : ∀ a v H' f' ρ g', Sr Z W σ ρ H' f' → Hs Z H' f' g' → rel H' f' a v → post rel' Z E H' f' (k a ρ g') Q → Q' v H') : tG rel Z E W m σ H Q' := by
  obtain ⟨f, ρ, g, s, hs, p⟩ := h
  exact ⟨f, ρ, g, s, hs, post.bind p fun a g' v H' f' _ e hs' r p' => i a v H' f' ρ g' (s.ext e) hs' r p'⟩
theorem tG.map {m : M α} {σ : L2.St} {H : Hp} {Q : δ → Hp → Prop} {Q' : β → Hp → Prop} {k : α → γ} (h : tG rel' Z E W (fun ρ g => (m ρ g).bind fun a g' => .ok (k a) g') σ H Q)
    (i : ∀ a v H' f', rel H' f' a v → (∀ w, rel' H' f' (k a) w → Q w H') → Q' v H') : tG rel Z E W m σ H Q' :=
  tG.bind (k := fun a _ g' => .ok (k a) g') h fun a v H' f' ρ g' _ hs r p => i a v H' f' r fun w rw => p w H' f' (Ex.refl H' f') hs rw
end

section
variable {X : Cx} {E : XK} {W : List Kd} {e : Expr} {m : M D}
theorem post.rel {α β : Type} {rel rel' : Hp → Fz → α → β → Prop} {Z : Wd} {H : Hp} {f : Fz} {r : R α} {Q : β → Hp → Prop} (p : post rel' Z E H f r Q) (h : ∀ H f a v, rel H f a v → rel' H f a v) : post rel Z E H f r Q := by
  cases r with
  | ok a g => exact fun v H' f' e hs r => p v H' f' e hs (h _ _ _ _ r)
  | ex x g => exact p
  | no => exact p
theorem PX.v (h : PX X E W e m) : VX X E W e m := PE.imp h fun σ H Q q => by
  obtain ⟨f, ρ, g, s, hs, p⟩ := q
  exact ⟨f, ρ, g, s, hs, post.rel p fun _ _ _ _ r => .inl r⟩
end
/-! ### names, constants -/
section
variable {X : Cx} {E : XK} {W : List Kd} {pos : Pos}
def mVar (i : Nat) : M D := fun ρ g => .ok (ρ.getD i .non) g
def mC (d : D) : M D := fun _ g => .ok d g
/-- a value that hangs on nothing -/
theorem px_const {e : Expr} {v : V} {d : D} (h : PE X e (tC v)) (r : ∀ f, Rp (wd X) f d v) : PX X E W e (mC d) := PE.imp h fun σ H Q q => by
  obtain ⟨f, ρ, g, s, hs, p⟩ := q
  exact p v H f (Ex.refl H f) hs (r f)
theorem px_int {i j} : PX X E W (.Constant (.int i) j pos) (mC (.int i)) := px_const pe_int fun f => by simp only [Rp]
theorem px_bl {b j} : PX X E W (.Constant (.bool b) j pos) (mC (.bl b)) := px_const pe_bl fun f => by simp only [Rp]
theorem px_non {j} : PX X E W (.Constant .none j pos) (mC .non) := px_const pe_non fun f => by simp only [Rp]
theorem px_str {x j} : PX X E W (.Constant (.str x) j pos) (mC (.str x)) := px_const pe_str fun f => by simp only [Rp]
theorem px_var' {i : Nat} {x : Str} (h : PE X (.Name x pos) (tVar i)) (hk : W[i]? = some .sh) : PX X E W (.Name x pos) (mVar i) := PE.imp h fun σ H Q q => by
  obtain ⟨f, ρ, g, s, hs, p⟩ := q
  obtain ⟨v, e, r⟩ := s.slot i .sh hk
  exact ⟨v, e, p v H f (Ex.refl H f) hs r⟩

/-! ### operators -/
/-- a HandS reading of two values answers as a function of trees -/
def Op2 (Z : Wd) (r : R2) (k : D → D → List D → R D) : Prop :=
  ∀ E x y d e H f g Q, Rv Z H f d x → Rv Z H f e y → Hs Z H f g → post (relD Z) Z E H f (k d e g) Q → r x y H Q
def m2 (a b : M D) (k : D → D → List D → R D) : M D := fun ρ g => (a ρ g).bind fun d g1 => (b ρ g1).bind fun e g2 => k d e g2
theorem tE2 {Z : Wd} {r : R2} {k : D → D → List D → R D} (o : Op2 Z r k) {a b : M D} {σ : L2.St} {H : Hp} {Q : VK} (q : tE Z E W (m2 a b k) σ H Q) : tOp r (tG (relV Z) Z E W a) (tG (relV Z) Z E W b) σ H Q := by
  refine tG.bind (rel := relV Z) (k := fun d ρ g1 => (b ρ g1).bind fun e g2 => k d e g2) q fun d x H1 f1 ρ g1 s1 hs1 (r1 : Rv _ _ _ _ _) p1 => ?_
  refine ⟨f1, ρ, g1, s1, hs1, post.bind p1 fun e g2 y H2 f2 _ e2 hs2 r2 p2 => ?_⟩
  exact o E x y d e H2 f2 g2 Q (r1.ext e2) r2 hs2 p2
theorem px_op {op : Operator} {r : R2} {k : D → D → List D → R D} {a b : Expr} {ma mb : M D} (ho : OpR X (binaryOp op) r) (o : Op2 (wd X) r k) (ha : VX X E W a ma) (hb : VX X E W b mb) :
    PX X E W (.BinOp a op b pos) (m2 ma mb k) := PE.imp (pe_op ho ha hb) fun σ H Q q => tE2 o q
theorem px_cmp {op : CmpOp} {r : R2} {k : D → D → List D → R D} {a b : Expr} {ma mb : M D} (ho : OpR X (compareOp op) r) (o : Op2 (wd X) r k) (ha : VX X E W a ma) (hb : VX X E W b mb) (hm : behindInMarks op b = false := by exact nomark _) :
    PX X E W (.Compare a [op] [b] pos) (m2 ma mb k) := PE.imp (pe_cmpR ho ha hb hm) fun σ H Q q => tE2 o q
/-- the truth of a bool -/
def asB : D → List D → R Bool
  | .bl b, g => .ok b g
  | _, _ => .no
def mB (a : M D) : M Bool := fun ρ g => (a ρ g).bind asB
theorem tTestOf {Z : Wd} {m : M D} {σ : L2.St} {H : Hp} {Q : Bool → Hp → Prop} (q : tT Z E W (mB m) σ H Q) : tTest (tE Z E W m) σ H Q := by
  refine tG.bind (rel := relD Z) (k := fun d _ g => asB d g) q fun d x H1 f1 ρ g1 s1 hs1 (r1 : Rp _ _ _ _) p1 => ?_
  cases d with
  | bl b =>
    simp only [Rp] at r1
    exact ⟨b, r1, p1 b H1 f1 (Ex.refl _ _) hs1 rfl⟩
  | _ => exact p1.elim
theorem tx_cmp {op : CmpOp} {r : R2} {k : D → D → List D → R D} {a b : Expr} {ma mb : M D} (ho : OpR X (compareOp op) r) (o : Op2 (wd X) r k) (ha : VX X E W a ma) (hb : VX X E W b mb) (hm : behindInMarks op b = false := by exact nomark _) :
    TX X E W (.Compare a [op] [b] pos) (mB (m2 ma mb k)) := PT.imp (pt_cmpR ho ha hb hm) fun σ H Q q => by
  have q' := tTestOf q
  obtain ⟨f, ρ, g, s, hs, p⟩ := q'
  exact tE2 o ⟨f, ρ, g, s, hs, p⟩
/-- a value that is a bool, as a test -/
theorem tx_val {e : Expr} {m : M D} (h : PX X E W e m) (he : ∀ whole, isTrue e X.env whole = (do let v ← whole; standAt e.pos; holding [v] (truthy v)) := by intro _; rfl) : TX X E W e (mB m) :=
  PT.imp (pt_val h he) fun σ H Q q => tTestOf q
end
end TL
end

section
set_option Elab.async false
set_option linter.all false
set_option autoImplicit false
set_option maxRecDepth 100000
/-! TL, part c: new containers (owned, frozen, hot), what a tree is in the heap, argument lists, built-in calls -/
namespace TL
open PySem PySem.Spec PyProof.Rows L2
variable [TabL]

/-! ### new containers -/
section
variable {Z : Wd} {E : XK} {H H' : Hp} {f f' : Fz} {g : List D} {a : Addr} {o : HO} {d : D}
/-- a stands new, held by nobody, and holds d -/
structure Nw (Z : Wd) (H H' : Hp) (f' : Fz) (a : Addr) (o : HO) (d : D) : Prop where
  new : New H a
  at_ : H' a = some o
  fr : f'.F a = none
  nh : a ∉ f'.e
  r : RpO Z f' o d
  nz : isFz o = false
def postF (Z : Wd) (E : XK) (H : Hp) (f : Fz) (r : R D) (Q : VK) : Prop :=
  match r with
  | .ok d g' => ∀ a o H' f', Ex H f H' f' → Hs Z H' f' g' → Nw Z H H' f' a o d → Q (.ref a) H'
  | .ex x g' => pEx Z E H f x g'
  | .no => False
/-- how a thing stands once it is frozen: a dict is locked for good -/
def fzO (od : Obj) : HO → HO
  | .dK ws => .frz od (.dK ws)
  | o => o
/-- from here on a is frozen -/
def frz (f : Fz) (a : Addr) (o : HO) : Fz := ⟨upd f.F a o, f.e⟩
theorem fzO_nt {od : Obj} (h : ctB o = true) : Nt (fzO od o) := by
  intro ps z
  cases o <;> first | (cases h; done) | (simp [fzO] at z)
theorem frz_le (h : f.F a = none) : Le f (frz f a o) := ⟨fun b u e => by
  show upd f.F a o b = some u
  rw [upd_ne (ne_of_none e h)]; exact e, fun _ _ e => e⟩
theorem rp_of_rpO {od : Obj} (r : RpO Z f o d) (h : f.F a = some (fzO od o)) : Rp Z f d (.ref a) := by
  cases o with
  | frz ob u =>
    cases u <;> cases d <;> simp only [RpO] at r
    simp only [Rp]; exact ⟨a, ob, _, rfl, h, rpK_iff.mpr r⟩
  | lst vs =>
    cases d <;> simp only [RpO] at r
    simp only [Rp]; exact ⟨a, _, rfl, h, rpL_iff.mpr r⟩
  | dK vs =>
    cases d <;> simp only [RpO] at r
    simp only [Rp]; exact ⟨a, od, _, rfl, h, rpK_iff.mpr r⟩
  | ins _ _ _ =>
    cases d <;> simp only [RpO] at r
    simp only [Rp]; exact ⟨a, _, _, _, rfl, h, r.1, rpF_iff.mpr r.2⟩
  | _ => cases d <;> simp only [RpO] at r
/-- the heap with a frozen -/
def frzH (od : Obj) (H : Hp) (a : Addr) : Hp := match H a with
  | some (.dK ws) => upd H a (.frz od (.dK ws))
  | _ => H
theorem frzH_tab {T : List (Addr × Str)} {od : Obj} (t : LamX.Tabs T H) : LamX.Tabs T (frzH od H a) := by
  unfold frzH
  split
  · rename_i ws e
    exact tabs_upd t fun o e' => by rw [e] at e'; cases e'; rfl
  · exact t
theorem frzH_at {od : Obj} (h : H a = some o) : frzH od H a a = some (fzO od o) := by
  unfold frzH
  rw [h]
  cases o with
  | dK ws => exact upd_same
  | _ => exact h
theorem frzH_ne {od : Obj} {b : Addr} (h : b ≠ a) : frzH od H a b = H b := by
  unfold frzH
  cases H a with
  | none => rfl
  | some o => cases o <;> first | rfl | exact upd_ne h
theorem Hs.frz {od : Obj} (h : Hs Z H f g) (ha : H a = some o) (hf : f.F a = none) (hn : a ∉ f.e) (hc : ctB o = true) : Hs Z (frzH od H a) (frz f a (fzO od o)) g := by
  refine ⟨fun b u e => ?_, fun b u e => ?_, frzH_tab h.tab, h.len, fun b hb => ?_, fun i x hx nd => ?_, h.nd⟩
  · by_cases hb : b = a
    · subst hb
      rw [show (TL.frz f b (fzO od o)).F b = upd f.F b (fzO od o) b from rfl, upd_same] at e
      cases e
      exact frzH_at ha
    · rw [show (TL.frz f a (fzO od o)).F b = upd f.F a (fzO od o) b from rfl, upd_ne hb] at e
      rw [frzH_ne hb]
      exact h.fr b u e
  · by_cases hb : b = a
    · subst hb
      rw [show (TL.frz f b (fzO od o)).F b = upd f.F b (fzO od o) b from rfl, upd_same] at e
      have e := Option.some.inj e
      subst e
      exact fzO_nt hc
    · rw [show (TL.frz f a (fzO od o)).F b = upd f.F a (fzO od o) b from rfl, upd_ne hb] at e
      exact h.nt b u e
  · obtain ⟨o, e, nt⟩ := h.lv b hb
    refine ⟨o, ?_, nt⟩
    exact (by rw [frzH_ne (fun z : b = a => hn (by subst z; exact hb))]; exact e)
  · obtain ⟨b, u, e1, e2, e3, e4, e5⟩ := h.hot i x hx nd
    have hb : b ≠ a := fun z => hn (z ▸ List.mem_of_getElem? e1)
    refine ⟨b, u, e1, ?_, by rw [frzH_ne hb]; exact e3, rpO_mono (frz_le hf) e4, e5⟩
    show upd f.F a (fzO od o) b = none
    rw [upd_ne hb]; exact e2
theorem Ex.frz {od : Obj} (e : Ex H f H' f') (ha : New H a) (hf : f'.F a = none) : Ex H f (frzH od H' a) (frz f' a (fzO od o)) :=
  ⟨e.le.trans (frz_le hf), fun b u hb nt n => by
    obtain ⟨h1, h2, h3⟩ := e.keep b u hb nt n
    have hne := ha.ne hb nt
    refine ⟨by rw [frzH_ne hne]; exact h1, fun c z => ?_, h3⟩
    show upd f'.F a (fzO od o) b = none
    rw [upd_ne hne]
    exact h2 c z⟩
theorem Nw.freeze (od : Obj) (n : Nw Z H H' f' a o d) (e : Ex H f H' f') (h : Hs Z H' f' g) : Ex H f (frzH od H' a) (frz f' a (fzO od o)) ∧ Hs Z (frzH od H' a) (frz f' a (fzO od o)) g ∧ Rp Z (frz f' a (fzO od o)) d (.ref a) :=
  ⟨e.frz n.new n.fr, h.frz n.at_ n.fr n.nh (rpO_ct n.r), rp_of_rpO (od := od) (rpO_mono (frz_le n.fr) n.r) upd_same⟩
/-- from here on a is hot -/
def hotz (f : Fz) (a : Addr) : Fz := ⟨f.F, f.e ++ [a]⟩
theorem hotz_le : Le f (hotz f a) := ⟨fun _ _ e => e, fun i b e => by
  show (f.e ++ [a])[i]? = some b
  rw [List.getElem?_append_left (List.getElem?_eq_some_iff.mp e).1]; exact e⟩
theorem Nw.heat (n : Nw Z H H' f' a o d) (e : Ex H f H' f') (h : Hs Z H' f' g) : Ex H f H' (hotz f' a) ∧ Hs Z H' (hotz f' a) (g ++ [d]) ∧ Rp Z (hotz f' a) (.hot g.length) (.ref a) := by
  refine ⟨⟨e.le.trans hotz_le, fun b u hb nt nb => ?_⟩, ⟨h.fr, h.nt, h.tab, ?_, fun b hb => ?_, fun i x hx nd => ?_, ?_⟩, ?_⟩
  · obtain ⟨h1, h2, h3⟩ := e.keep b u hb nt nb
    refine ⟨h1, h2, fun z => ?_⟩
    rcases List.mem_append.mp z with z | z
    · exact h3 z
    · exact n.new.ne hb nt (by simpa using z)
  · show (f'.e ++ [a]).length = _
    simp [h.len]
  · rcases List.mem_append.mp hb with z | z
    · exact h.lv b z
    · have : b = a := by simpa using z
      subst this
      exact ⟨o, n.at_, rpO_nt n.r⟩
  · by_cases hi : i < g.length
    · rw [List.getElem?_append_left hi] at hx
      obtain ⟨b, u, e1, e2, e3, e4, e5⟩ := h.hot i x hx nd
      refine ⟨b, u, hotz_le.e _ _ e1, e2, e3, rpO_mono hotz_le e4, e5⟩
    · have hi2 : i = g.length := by
        have := (List.getElem?_eq_some_iff.mp hx).1
        simp at this; omega
      subst hi2
      simp at hx
      subst hx
      refine ⟨a, o, ?_, n.fr, n.at_, rpO_mono hotz_le n.r, n.nz⟩
      show (f'.e ++ [a])[g.length]? = some a
      rw [← h.len]; simp
  · show (f'.e ++ [a]).Nodup
    rw [List.nodup_append]
    refine ⟨h.nd, by simp, fun x hx y hy z => ?_⟩
    have : y = a := by simpa using hy
    subst this; subst z; exact n.nh hx
  · simp only [Rp]
    refine ⟨a, rfl, ?_⟩
    show (f'.e ++ [a])[g.length]? = some a
    rw [← h.len]; simp
/-- a new object is laid -/
theorem Ex.laid (hs : Hs Z H f g) (ha : H a = none) : Ex H f (upd H a o) f := ⟨Le.refl f, fun b u hb _ n => ⟨by rw [upd_ne (ne_of_none hb ha)]; exact hb, fun _ => id, n⟩⟩
theorem Hs.free (hs : Hs Z H f g) (ha : H a = none) : f.F a = none ∧ a ∉ f.e := by
  constructor
  · cases e : f.F a with
    | none => rfl
    | some o =>
      have h := hs.fr a o e
      rw [h] at ha; cases ha
  · intro hm
    obtain ⟨o, e, _⟩ := hs.lv a hm
    rw [ha] at e; cases e
theorem Hs.laid (hs : Hs Z H f g) (ha : H a = none) : Hs Z (upd H a o) f g := by
  refine ⟨fun b u e => ?_, hs.nt, tabs_upd hs.tab (fun o e => by rw [ha] at e; cases e), hs.len, fun b hb => ?_, fun i x hx nd => ?_, hs.nd⟩
  · have h := hs.fr b u e
    rw [upd_ne (ne_of_none h ha)]; exact h
  · obtain ⟨o', e, nt⟩ := hs.lv b hb
    exact ⟨o', by rw [upd_ne (ne_of_none e ha)]; exact e, nt⟩
  · obtain ⟨b, u, e1, e2, e3, e4, e5⟩ := hs.hot i x hx nd
    exact ⟨b, u, e1, e2, by rw [upd_ne (ne_of_none e3 ha)]; exact e3, e4, e5⟩
theorem Nw.laid (hs : Hs Z H f g) (ha : H a = none) (r : RpO Z f o d) (nz : isFz o = false := by rfl) : Nw Z H (upd H a o) f a o d := ⟨New.of ha, upd_same, (hs.free ha).1, (hs.free ha).2, r, nz⟩
end

abbrev tF (Z : Wd) (E : XK) (W : List Kd) (m : M D) : TE := fun σ H Q => ∃ f ρ g, Sr Z W σ ρ H f ∧ Hs Z H f g ∧ postF Z E H f (m ρ g) Q
/-- an expression that makes a container -/
def FX (X : Cx) (E : XK) (W : List Kd) (e : Expr) (m : M D) : Prop := PE X e (tF (wd X) E W m)
section
variable {Z : Wd} {E : XK} {H H1 : Hp} {f f1 : Fz}
/-- what is new behind is new ahead -/
theorem new_back {a : Addr} (e : Ex H f H1 f1) (n : New H1 a) (nh : a ∉ f1.e) : New H a := fun u q => by
  by_cases ht : ∃ ps, u = .tbl ps
  · exact ht
  · exfalso
    have nt : Nt u := fun ps z => ht ⟨ps, z⟩
    by_cases hm : a ∈ f.e
    · obtain ⟨x, hx⟩ := List.getElem?_of_mem hm
      exact absurd (List.mem_of_getElem? (e.le.e _ _ hx)) nh
    · exact ht (n _ (e.keep a _ q nt hm).1)
theorem postF.ext {r : R D} {Q : VK} (p : postF Z E H f r Q) (e : Ex H f H1 f1) : postF Z E H1 f1 r Q := by
  cases r with
  | ok d g => exact fun a o H' f' e' h n => p a o H' f' (e.trans e') h ⟨new_back e n.new (fun z => by
      obtain ⟨x, hx⟩ := List.getElem?_of_mem z
      exact n.nh (List.mem_of_getElem? (e'.le.e _ _ hx))), n.at_, n.fr, n.nh, n.r, n.nz⟩
  | ex x g => exact pEx.ext (x := x) (g := g) p e
  | no => exact p
theorem postF.bind {α β : Type} {rel : Hp → Fz → α → β → Prop} {r : R α} {k : α → List D → R D} {Q : VK} {Q' : β → Hp → Prop} (p : postF Z E H f (r.bind k) Q)
    (h : ∀ a g v H' f', r = .ok a g → Ex H f H' f' → Hs Z H' f' g → rel H' f' a v → postF Z E H' f' (k a g) Q → Q' v H') : post rel Z E H f r Q' := by
  cases r with
  | ok a g => exact fun v H' f' e hs r => h a g v H' f' rfl e hs r (postF.ext (r := k a g) p e)
  | ex x g => exact p
  | no => exact p
end
section
variable {X : Cx} {E : XK} {W : List Kd} {e : Expr} {m : M D}
/-- the value's thing is locked, if it is a dict -/
def frzV (od : Obj) (H : Hp) : V → Hp
  | .ref a => frzH od H a
  | _ => H
theorem pe_frz {t : TE} (h : PE X e t) : PE X e (fun σ H Q => t σ H fun v H1 => ∀ od, Q v (frzV od H1 v)) := by
  refine ⟨fun pins s σ H Q I q => thn (h.run pins s σ H _ I q) fun u s1 ⟨v, H1, I1, r1, q1⟩ => ?_⟩
  cases v with
  | ref a =>
    cases hh : H1 a with
    | none => 
      have := q1 default
      have e0 : frzV default H1 (.ref a) = H1 := by simp [frzV, frzH, hh]
      rw [e0] at this
      exact ⟨_, H1, I1, r1, this⟩
    | some o =>
      cases o with
      | dK ws =>
        obtain ⟨od, I2⟩ := I1.lock hh trivial
        refine ⟨_, _, I2, r1, ?_⟩
        have := q1 od
        have e0 : frzV od H1 (.ref a) = upd H1 a (.frz od (.dK ws)) := by simp [frzV, frzH, hh]
        rw [e0] at this
        exact this
      | _ =>
        have := q1 default
        have e0 : frzV default H1 (.ref a) = H1 := by simp [frzV, frzH, hh]
        rw [e0] at this
        exact ⟨_, H1, I1, r1, this⟩
  | _ =>
    have := q1 default
    exact ⟨_, H1, I1, r1, this⟩
/-- what is new is frozen at once -/
theorem FX.px (h : FX X E W e m) : PX X E W e m := PE.imp (pe_frz h) fun σ H Q q => by
  obtain ⟨f, ρ, g, s, hs, p⟩ := q
  refine ⟨f, ρ, g, s, hs, ?_⟩
  cases hr : m ρ g with
  | ok d g' =>
    rw [hr] at p
    intro a o H' f' ex hs' n od
    obtain ⟨h1, h2, h3⟩ := n.freeze od ex hs'
    exact p _ _ _ h1 h2 h3
  | ex x g' => rw [hr] at p; exact p
  | no => rw [hr] at p; exact p
/-- what is new is hot -/
def mHot (m : M D) : M D := fun ρ g => (m ρ g).bind fun d g' => .ok (.hot g'.length) (g' ++ [d])
theorem FX.hot (h : FX X E W e m) : PX X E W e (mHot m) := PE.imp h fun σ H Q q => by
  obtain ⟨f, ρ, g, s, hs, p⟩ := q
  refine ⟨f, ρ, g, s, hs, ?_⟩
  have p' : post (relD (wd X)) (wd X) E H f ((m ρ g).bind fun d g' => .ok (.hot g'.length) (g' ++ [d])) Q := p
  cases hr : m ρ g with
  | ok d g' =>
    rw [hr] at p'
    intro a o H' f' ex hs' n
    obtain ⟨h1, h2, h3⟩ := n.heat ex hs'
    exact p' _ _ _ h1 h2 h3
  | ex x g' => rw [hr] at p'; exact p'
  | no => rw [hr] at p'; exact p'
end

/-! ### what a tree is in the heap -/
/-- a hot thing's content -/
def vw (g : List D) : D → D
  | .hot i => g.getD i .non
  | d => d
section
variable {Z : Wd} {H : Hp} {f : Fz} {g : List D} {d : D} {v : V}
theorem hot_at (hs : Hs Z H f g) {i : Nat} {x : D} (r : Rp Z f (.hot i) v) (hx : g[i]? = some x) (nd : x ≠ dead := by intro z; cases z) : ∃ a o, v = .ref a ∧ f.e[i]? = some a ∧ f.F a = none ∧ H a = some o ∧ RpO Z f o x ∧ isFz o = false := by
  simp only [Rp] at r
  obtain ⟨a, rfl, e⟩ := r
  obtain ⟨b, o, e1, e2, e3, e4, e5⟩ := hs.hot i x hx nd
  rw [e] at e1; cases e1
  exact ⟨a, o, rfl, e, e2, e3, e4, e5⟩
theorem vw_cases (d : D) (g : List D) : (∃ i x, d = .hot i ∧ g[i]? = some x ∧ vw g d = x) ∨ (∃ i, d = .hot i ∧ g[i]? = none ∧ vw g d = .non) ∨ ((∀ i, d ≠ .hot i) ∧ vw g d = d) := by
  cases d with
  | hot i =>
    cases h : g[i]? with
    | some x => exact .inl ⟨i, x, rfl, h, by simp [vw, h]⟩
    | none => exact .inr (.inl ⟨i, rfl, h, by simp [vw, h]⟩)
  | _ => exact .inr (.inr ⟨fun i z => (nomatch z), rfl⟩)
/-- a list -/
theorem see_lst' (hs : Hs Z H f g) (r : Rp Z f d v) {xs : List D} (e : vw g d = .lst xs) : ∃ a vs, v = .ref a ∧ H a = some (.lst vs) ∧ Paired (Rp Z f) xs vs := by
  rcases vw_cases d g with ⟨i, x, rfl, hx, q⟩ | ⟨i, rfl, hx, q⟩ | ⟨n, q⟩
  · rw [q] at e; subst e
    obtain ⟨a, o, rfl, _, _, h, ro, nz⟩ := hot_at hs r hx
    cases o <;> simp only [RpO] at ro
    exact ⟨a, _, rfl, h, ro⟩
  · rw [q] at e; cases e
  · rw [q] at e; subst e
    simp only [Rp] at r
    obtain ⟨a, vs, rfl, h, p⟩ := r
    exact ⟨a, vs, rfl, hs.fr _ _ h, rpL_iff.mp p⟩
theorem see_tup' (hs : Hs Z H f g) (r : Rp Z f d v) {xs : List D} (e : vw g d = .tup xs) : ∃ a vs, v = .ref a ∧ SqT Z.K H a vs ∧ Paired (Rp Z f) xs vs := by
  rcases vw_cases d g with ⟨i, x, rfl, hx, q⟩ | ⟨i, rfl, hx, q⟩ | ⟨n, q⟩
  · rw [q] at e; subst e
    obtain ⟨a, o, rfl, _, _, h, ro, nz⟩ := hot_at hs r hx
    cases o <;> simp only [RpO] at ro
  · rw [q] at e; cases e
  · rw [q] at e; subst e
    simp only [Rp] at r
    obtain ⟨a, vs, rfl, h, p⟩ := r
    refine ⟨a, vs, rfl, ?_, rpL_iff.mp p⟩
    rcases h with h | h
    · exact .inl (.inl (hs.fr _ _ h))
    · exact .inr h
theorem see_dO {a : Addr} {o : HO} {xs : List (Key × D)} (h : H a = some o) (ro : RpO Z f o (.dct xs)) : ∃ b vs, V.ref a = .ref b ∧ Rd H b (.dK vs) ∧ Paired (PK Z f) xs vs := by
  cases o with
  | frz ob u =>
    cases u <;> simp only [RpO] at ro
    exact ⟨a, _, rfl, .inr ⟨ob, h⟩, ro⟩
  | dK vs => simp only [RpO] at ro; exact ⟨a, _, rfl, .inl h, ro⟩
  | _ => simp only [RpO] at ro
theorem see_dct' (hs : Hs Z H f g) (r : Rp Z f d v) {xs : List (Key × D)} (e : vw g d = .dct xs) : ∃ a vs, v = .ref a ∧ Rd H a (.dK vs) ∧ Paired (PK Z f) xs vs := by
  rcases vw_cases d g with ⟨i, x, rfl, hx, q⟩ | ⟨i, rfl, hx, q⟩ | ⟨n, q⟩
  · rw [q] at e; subst e
    obtain ⟨a, o, rfl, _, _, h, ro, nz⟩ := hot_at hs r hx
    exact see_dO h ro
  · rw [q] at e; cases e
  · rw [q] at e; subst e
    simp only [Rp] at r
    obtain ⟨a, od, vs, rfl, h, p⟩ := r
    exact ⟨a, vs, rfl, .inr ⟨od, hs.fr _ _ h⟩, rpK_iff.mp p⟩
theorem see_ins' (hs : Hs Z H f g) (r : Rp Z f d v) {c : Str} {xs : List (Str × D)} (e : vw g d = .ins c xs) : ∃ a C dx vs, v = .ref a ∧ H a = some (.ins C dx vs) ∧ Z.mg c = some (.ref C) ∧ Paired (PF Z f) xs vs := by
  rcases vw_cases d g with ⟨i, x, rfl, hx, q⟩ | ⟨i, rfl, hx, q⟩ | ⟨n, q⟩
  · rw [q] at e; subst e
    obtain ⟨a, o, rfl, _, _, h, ro, nz⟩ := hot_at hs r hx
    cases o <;> simp only [RpO] at ro
    exact ⟨a, _, _, _, rfl, h, ro⟩
  · rw [q] at e; cases e
  · rw [q] at e; subst e
    simp only [Rp] at r
    obtain ⟨a, C, dx, vs, rfl, h, m, p⟩ := r
    exact ⟨a, C, dx, vs, rfl, hs.fr _ _ h, m, rpF_iff.mp p⟩
theorem see_int' {i : Int} (hs : Hs Z H f g) (r : Rp Z f d v) (e : vw g d = .int i) : v = .int i := by
  rcases vw_cases d g with ⟨j, x, rfl, hx, q⟩ | ⟨j, rfl, hx, q⟩ | ⟨n, q⟩
  · rw [q] at e; subst e
    obtain ⟨a, o, rfl, _, _, h, ro, nz⟩ := hot_at hs r hx
    cases o <;> simp only [RpO] at ro
  · rw [q] at e; cases e
  · rw [q] at e; subst e; simpa only [Rp] using r
end

section
variable {Z : Wd} {H : Hp} {f : Fz} {g : List D} {d : D} {v : V}
theorem vw_own {o : HO} (r : RpO Z f o d) : vw g d = d := by
  cases d <;> first | rfl | (cases o <;> simp only [RpO] at r)
theorem see_lst (hs : Hs Z H f g) (r : Rv Z H f d v) {xs : List D} (e : vw g d = .lst xs) : ∃ a vs, v = .ref a ∧ H a = some (.lst vs) ∧ Paired (Rp Z f) xs vs := by
  rcases r with r | ⟨a, o, rfl, _, _, h, r⟩
  · exact see_lst' hs r e
  · rw [vw_own r] at e; subst e
    cases o <;> simp only [RpO] at r
    exact ⟨a, _, rfl, h, r⟩
theorem see_tup (hs : Hs Z H f g) (r : Rv Z H f d v) {xs : List D} (e : vw g d = .tup xs) : ∃ a vs, v = .ref a ∧ SqT Z.K H a vs ∧ Paired (Rp Z f) xs vs := by
  rcases r with r | ⟨a, o, rfl, _, _, h, r⟩
  · exact see_tup' hs r e
  · rw [vw_own r] at e; subst e
    cases o <;> simp only [RpO] at r
theorem see_dct (hs : Hs Z H f g) (r : Rv Z H f d v) {xs : List (Key × D)} (e : vw g d = .dct xs) : ∃ a vs, v = .ref a ∧ Rd H a (.dK vs) ∧ Paired (PK Z f) xs vs := by
  rcases r with r | ⟨a, o, rfl, _, _, h, r⟩
  · exact see_dct' hs r e
  · rw [vw_own r] at e; subst e
    exact see_dO h r
theorem see_ins (hs : Hs Z H f g) (r : Rv Z H f d v) {c : Str} {xs : List (Str × D)} (e : vw g d = .ins c xs) : ∃ a C dx vs, v = .ref a ∧ H a = some (.ins C dx vs) ∧ Z.mg c = some (.ref C) ∧ Paired (PF Z f) xs vs := by
  rcases r with r | ⟨a, o, rfl, _, _, h, r⟩
  · exact see_ins' hs r e
  · rw [vw_own r] at e; subst e
    cases o <;> simp only [RpO] at r
    exact ⟨a, _, _, _, rfl, h, r⟩
theorem see_int {i : Int} (hs : Hs Z H f g) (r : Rv Z H f d v) (e : vw g d = .int i) : v = .int i := by
  rcases r with r | ⟨a, o, rfl, _, _, h, r⟩
  · exact see_int' hs r e
  · rw [vw_own r] at e; subst e
    cases o <;> simp only [RpO] at r
theorem see_str {i : Str} (hs : Hs Z H f g) (r : Rv Z H f d v) (e : vw g d = .str i) : v = .str i := by
  rcases r with r | ⟨a, o, rfl, _, _, h, r⟩
  · rcases vw_cases d g with ⟨j, x, rfl, hx, q⟩ | ⟨j, rfl, hx, q⟩ | ⟨n, q⟩
    · rw [q] at e; subst e
      obtain ⟨a, o, rfl, _, _, h, ro, nz⟩ := hot_at hs r hx
      cases o <;> simp only [RpO] at ro
    · rw [q] at e; cases e
    · rw [q] at e; subst e; simpa only [Rp] using r
  · rw [vw_own r] at e; subst e
    cases o <;> simp only [RpO] at r
theorem see_bl {i : Bool} (hs : Hs Z H f g) (r : Rv Z H f d v) (e : vw g d = .bl i) : v = .bl i := by
  rcases r with r | ⟨a, o, rfl, _, _, h, r⟩
  · rcases vw_cases d g with ⟨j, x, rfl, hx, q⟩ | ⟨j, rfl, hx, q⟩ | ⟨n, q⟩
    · rw [q] at e; subst e
      obtain ⟨a, o, rfl, _, _, h, ro, nz⟩ := hot_at hs r hx
      cases o <;> simp only [RpO] at ro
    · rw [q] at e; cases e
    · rw [q] at e; subst e; simpa only [Rp] using r
  · rw [vw_own r] at e; subst e
    cases o <;> simp only [RpO] at r
end
/-! ### argument lists -/
section
variable {X : Cx} {E : XK} {W : List Kd} {pos : Pos}
def mNil : M (List D) := fun _ g => .ok [] g
def mCons (a : M D) (b : M (List D)) : M (List D) := fun ρ g => (a ρ g).bind fun d g1 => (b ρ g1).bind fun ds g2 => .ok (d :: ds) g2
theorem ax_nil : AX X E W [] mNil := PA.imp pa_nil fun σ H Q q => by
  obtain ⟨f, ρ, g, s, hs, p⟩ := q
  exact p [] H f (Ex.refl H f) hs .nil
theorem ax_cons {e : Expr} {es : List Expr} {m : M D} {n : M (List D)} (h : PX X E W e m) (t : AX X E W es n) (hs : starEach (e :: es) X.env = (false, eval e X.env) :: starEach es X.env := by rfl) :
    AX X E W (e :: es) (mCons m n) := PA.imp (pa_cons h t hs) fun σ H Q q => by
  refine tG.bind (rel := relD (wd X)) (k := fun d ρ g1 => (n ρ g1).bind fun ds g2 => .ok (d :: ds) g2) q fun d x H1 f1 ρ g1 s1 hs1 (r1 : Rp _ _ _ _) p1 => ?_
  refine ⟨f1, ρ, g1, s1, hs1, post.bind p1 fun ds g2 xs H2 f2 _ e2 hs2 r2 p2 => ?_⟩
  exact p2 _ H2 f2 (Ex.refl _ _) hs2 (.cons (r1.mono e2.le) r2)

theorem av_nil : AV X E W [] mNil := PA.imp pa_nil fun σ H Q q => by
  obtain ⟨f, ρ, g, s, hs, p⟩ := q
  exact p [] H f (Ex.refl H f) hs .nil
theorem av_cons {e : Expr} {es : List Expr} {m : M D} {n : M (List D)} (h : VX X E W e m) (t : AV X E W es n) (hs : starEach (e :: es) X.env = (false, eval e X.env) :: starEach es X.env := by rfl) :
    AV X E W (e :: es) (mCons m n) := PA.imp (pa_cons h t hs) fun σ H Q q => by
  refine tG.bind (rel := relV (wd X)) (k := fun d ρ g1 => (n ρ g1).bind fun ds g2 => .ok (d :: ds) g2) q fun d x H1 f1 ρ g1 s1 hs1 r1 p1 => ?_
  refine ⟨f1, ρ, g1, s1, hs1, post.bind p1 fun ds g2 xs H2 f2 _ e2 hs2 r2 p2 => ?_⟩
  exact p2 _ H2 f2 (Ex.refl _ _) hs2 (.cons (r1.ext e2) r2)
/-- a container that a slot owns is looked at -/
theorem vx_own' {i : Nat} {x : Str} (h : PE X (.Name x pos) (tVar i)) (hk : W[i]? = some .ow) : VX X E W (.Name x pos) (mVar i) := PE.imp h fun σ H Q q => by
  obtain ⟨f, ρ, g, s, hs, p⟩ := q
  obtain ⟨a, o, e, h1, h2, h3, h4, _⟩ := s.slot i .ow hk
  exact ⟨_, e, p _ H f (Ex.refl H f) hs (.inr ⟨a, o, rfl, h1, h2, h3, h4⟩)⟩
theorem vx_lk' {i : Nat} {x : Str} (h : PE X (.Name x pos) (tVar i)) (hk : W[i]? = some .lk) : VX X E W (.Name x pos) (mVar i) := PE.imp h fun σ H Q q => by
  obtain ⟨f, ρ, g, s, hs, p⟩ := q
  obtain ⟨a, o, e, h1, h2, h3, h4, _⟩ := s.slot i .lk hk
  exact ⟨_, e, p _ H f (Ex.refl H f) hs (.inr ⟨a, o, rfl, h1, h2, h3, h4⟩)⟩

/-- a reading of values answers as a function of trees -/
def OpL (Z : Wd) (r : List V → Hp → VK → Prop) (k : List D → List D → R D) : Prop :=
  ∀ E vs ds H f g Q, Paired (Rv Z H f) ds vs → Hs Z H f g → post (relD Z) Z E H f (k ds g) Q → r vs H Q
def OpLF (Z : Wd) (r : List V → Hp → VK → Prop) (k : List D → List D → R D) : Prop :=
  ∀ E vs ds H f g Q, Paired (Rv Z H f) ds vs → Hs Z H f g → postF Z E H f (k ds g) Q → r vs H Q
def mL (a : M (List D)) (k : List D → List D → R D) : M D := fun ρ g => (a ρ g).bind k
theorem tEL {Z : Wd} {r : List V → Hp → VK → Prop} {k : List D → List D → R D} (o : OpL Z r k) {a : M (List D)} {σ : L2.St} {H : Hp} {Q : VK} (q : tE Z E W (mL a k) σ H Q) : tCB r (tG (relVL Z) Z E W a) σ H Q := by
  refine tG.bind (rel := relVL Z) (k := fun ds _ g1 => k ds g1) q fun ds vs H1 f1 ρ g1 s1 hs1 r1 p1 => ?_
  exact o E vs ds H1 f1 g1 Q r1 hs1 p1
theorem tFL {Z : Wd} {r : List V → Hp → VK → Prop} {k : List D → List D → R D} (o : OpLF Z r k) {a : M (List D)} {σ : L2.St} {H : Hp} {Q : VK} (q : tF Z E W (mL a k) σ H Q) : tCB r (tG (relVL Z) Z E W a) σ H Q := by
  obtain ⟨f, ρ, g, s, hs, p⟩ := q
  refine ⟨f, ρ, g, s, hs, postF.bind p fun ds g1 vs H1 f1 _ e1 hs1 r1 p1 => ?_⟩
  exact o E vs ds H1 f1 g1 Q r1 hs1 p1
theorem px_b {x : Str} {p : Pos} {id : String} {e : Expr} {es : List Expr} {r : List V → Hp → VK → Prop} {k : List D → List D → R D} {ma : M (List D)} (hc : CallR X (.builtin id) r) (o : OpL (wd X) r k) (hg : Gl X x) (hm : X.mg x = none) (hv : bootBuiltins x = some (.builtin id))
    (ha : AV X E W (e :: es) ma) (hn : x ≠ "__name__" := by decide) (hdb : (x == ("__debug__" : Str)) = false := by decide)
    (he : starEach (e :: es) X.env = (false, eval e X.env) :: starEach es X.env := by rfl) (hpl : (backTo pos (starEach es X.env)).any (·.1) = false := by rfl) :
    PX X E W (.Call (.Name x p) (e :: es) [] pos) (mL ma k) := PE.imp (pe_callB hc hg hm hv ha hn hdb he hpl) fun σ H Q q => tEL o q
theorem fx_b {x : Str} {p : Pos} {id : String} {e : Expr} {es : List Expr} {r : List V → Hp → VK → Prop} {k : List D → List D → R D} {ma : M (List D)} (hc : CallR X (.builtin id) r) (o : OpLF (wd X) r k) (hg : Gl X x) (hm : X.mg x = none) (hv : bootBuiltins x = some (.builtin id))
    (ha : AV X E W (e :: es) ma) (hn : x ≠ "__name__" := by decide) (hdb : (x == ("__debug__" : Str)) = false := by decide)
    (he : starEach (e :: es) X.env = (false, eval e X.env) :: starEach es X.env := by rfl) (hpl : (backTo pos (starEach es X.env)).any (·.1) = false := by rfl) :
    FX X E W (.Call (.Name x p) (e :: es) [] pos) (mL ma k) := PE.imp (pe_callB hc hg hm hv ha hn hdb he hpl) fun σ H Q q => tFL o q
theorem px_t {x : Str} {p : Pos} {T : String} {e : Expr} {es : List Expr} {r : List V → Hp → VK → Prop} {k : List D → List D → R D} {ma : M (List D)} (hc : CallR X (.type T) r) (o : OpL (wd X) r k) (hg : Gl X x) (hm : X.mg x = none) (hv : bootBuiltins x = some (.type T))
    (ha : AV X E W (e :: es) ma) (hn : x ≠ "__name__" := by decide) (hdb : (x == ("__debug__" : Str)) = false := by decide)
    (he : starEach (e :: es) X.env = (false, eval e X.env) :: starEach es X.env := by rfl) (hpl : (backTo pos (starEach es X.env)).any (·.1) = false := by rfl) :
    PX X E W (.Call (.Name x p) (e :: es) [] pos) (mL ma k) := PE.imp (pe_callTy hc hg hm hv ha hn hdb he hpl) fun σ H Q q => tEL o q
theorem fx_t {x : Str} {p : Pos} {T : String} {e : Expr} {es : List Expr} {r : List V → Hp → VK → Prop} {k : List D → List D → R D} {ma : M (List D)} (hc : CallR X (.type T) r) (o : OpLF (wd X) r k) (hg : Gl X x) (hm : X.mg x = none) (hv : bootBuiltins x = some (.type T))
    (ha : AV X E W (e :: es) ma) (hn : x ≠ "__name__" := by decide) (hdb : (x == ("__debug__" : Str)) = false := by decide)
    (he : starEach (e :: es) X.env = (false, eval e X.env) :: starEach es X.env := by rfl) (hpl : (backTo pos (starEach es X.env)).any (·.1) = false := by rfl) :
    FX X E W (.Call (.Name x p) (e :: es) [] pos) (mL ma k) := PE.imp (pe_callTy hc hg hm hv ha hn hdb he hpl) fun σ H Q q => tFL o q

/-! ### displays -/
def kList (ds : List D) (g : List D) : R D := if ds.length ≤ 16777216 then .ok (.lst ds) g else .no
def kTup (ds : List D) (g : List D) : R D := if ds.length ≤ 16777216 then .ok (.tup ds) g else .no
theorem sl_eq : sizeLine = 16777216 := sizeLine_eq
theorem fx_list {es : List Expr} {ma : M (List D)} (ha : AX X E W es ma) : FX X E W (.List es pos) (mL ma kList) := PE.imp (pe_lst ha) fun σ H Q q => by
  obtain ⟨f, ρ, g, s, hs, p⟩ := q
  refine ⟨f, ρ, g, s, hs, postF.bind p fun ds g1 vs H1 f1 _ e1 hs1 r1 p1 => ?_⟩
  unfold kList at p1
  split at p1
  · rename_i h
    refine ⟨by rw [← PySem.Paired.length r1, sl_eq]; exact h, fun a ha => ?_⟩
    exact p1 a (.lst vs) _ f1 (Ex.laid hs1 ha) (hs1.laid ha) (Nw.laid hs1 ha r1)
  · exact p1.elim
theorem px_tup {es : List Expr} {x1 : Nat} {ma : M (List D)} (ha : AX X E W es ma) : PX X E W (.Tuple es x1 pos) (mL ma kTup) := PE.imp (pe_tup ha) fun σ H Q q => by
  refine tG.bind (rel := relL (wd X)) (k := fun ds _ g1 => kTup ds g1) q fun ds vs H1 f1 ρ g1 s1 hs1 r1 p1 => ?_
  unfold kTup at p1
  split at p1
  · rename_i h
    refine ⟨by rw [← PySem.Paired.length r1, sl_eq]; exact h, fun a ha => ?_⟩
    have fr := hs1.free ha
    have ez : frzH default (upd H1 a (.tup vs)) a = upd H1 a (.tup vs) := by unfold frzH; rw [upd_same]
    have k1 : Ex H1 f1 (frzH default (upd H1 a (.tup vs)) a) (frz f1 a (fzO default (.tup vs))) := (Ex.laid hs1 ha).frz (New.of ha) fr.1
    have k2 : Hs (wd X) (frzH default (upd H1 a (.tup vs)) a) (frz f1 a (fzO default (.tup vs))) g1 := (hs1.laid ha).frz upd_same fr.1 fr.2 rfl
    rw [ez] at k1 k2
    refine p1 (.ref a) _ (frz f1 a (.tup vs)) k1 k2 ?_
    simp only [Rp]
    exact ⟨a, vs, rfl, .inl upd_same, rpL_iff.mpr (L2.Paired.mapP r1 fun _ _ z => z.mono (frz_le fr.1))⟩
  · exact p1.elim
end
end TL
end

section
set_option Elab.async false
set_option linter.all false
set_option autoImplicit false
set_option maxRecDepth 100000
/-! TL, part d: statements -/
namespace TL
open PySem PySem.Spec PyProof.Rows L2
variable [TabL]

/-- where a body began -/
structure Bs where
  H : Hp
  f : Fz
  me : Option Addr := none
structure Ss (Z : Wd) (B : Bs) (W : List Kd) (σ : L2.St) (ρ : List D) (H : Hp) (f : Fz) (g : List D) : Prop where
  sr : Sr Z W σ ρ H f
  hs : Hs Z H f g
  ex : Ex B.H B.f H f
  own : ∀ (i : Nat) (a : Addr), W[i]? = some .ow → σ[i]? = some (some (.ref a)) → New B.H a
  me : ∀ a, B.me = some a → W[0]? = some .ow → σ[0]? = some (some (.ref a))
section
variable {Z : Wd} {B : Bs} {W : List Kd} {σ : L2.St} {ρ : List D} {H H' : Hp} {f f' : Fz} {g g' : List D}
theorem Ss.ext (s : Ss Z B W σ ρ H f g) (e : Ex H f H' f') (hs : Hs Z H' f' g') : Ss Z B W σ ρ H' f' g' :=
  ⟨s.sr.ext e, hs, s.ex.trans e, s.own, s.me⟩
theorem getD_set {α : Type} (l : List α) (i j : Nat) (x y : α) (h : i < l.length) : (l.set i x).getD j y = if i = j then x else l.getD j y := by
  simp only [List.getD_eq_getElem?_getD, List.getElem?_set]
  split
  · rename_i e; subst e; simp [h]
  · rfl
theorem W_set {i j : Nat} {k k' : Kd} (h : (W.set i k)[j]? = some k') : (i = j ∧ k' = k) ∨ (i ≠ j ∧ W[j]? = some k') := by
  rw [List.getElem?_set] at h
  split at h
  · rename_i e
    split at h
    · exact .inl ⟨e, (Option.some.inj h).symm⟩
    · cases h
  · rename_i e; exact .inr ⟨e, h⟩
theorem Ss.set_sh {i : Nat} {d : D} {v : V} (s : Ss Z B W σ ρ H f g) (hi : i < σ.length) (r : Rp Z f d v) : Ss Z B (W.set i .sh) (σ.set i (some v)) (ρ.set i d) H f g := by
  have hl := s.sr.len
  have hw := s.sr.lenW
  refine ⟨⟨by simp [hl], by simp [hw], fun j k h => ?_, fun j k a h1 h2 e1 e2 => ?_⟩, s.hs, s.ex, fun j a h e => ?_, fun x hx h => ?_⟩
  · rcases W_set h with ⟨rfl, rfl⟩ | ⟨n, h⟩
    · rw [List.getElem?_set_self hi, getD_set _ _ _ _ _ (by omega), if_pos rfl]
      exact ⟨v, rfl, r⟩
    · rw [List.getElem?_set_ne n, getD_set _ _ _ _ _ (by omega), if_neg n]
      exact s.sr.slot j k h
  · rcases W_set h1 with ⟨_, q⟩ | ⟨n1, h1⟩
    · cases q
    · rcases W_set h2 with ⟨_, q⟩ | ⟨n2, h2⟩
      · cases q
      · rw [List.getElem?_set_ne n1] at e1
        rw [List.getElem?_set_ne n2] at e2
        exact s.sr.sep j k a h1 h2 e1 e2
  · rcases W_set h with ⟨_, q⟩ | ⟨n, h⟩
    · cases q
    · rw [List.getElem?_set_ne n] at e
      exact s.own j a h e
  · rcases W_set h with ⟨_, q⟩ | ⟨n, h⟩
    · cases q
    · rw [List.getElem?_set_ne n]; exact s.me x hx h
/-- a slot takes what is new -/
theorem Ss.set_ow {i : Nat} {d : D} {a : Addr} {o : HO} (s : Ss Z B W σ ρ H f g) (hi : i < σ.length) (e0 : Ex H f H' f') (hs : Hs Z H' f' g') (n : Nw Z H H' f' a o d) (i0 : 0 < i) :
    Ss Z B (W.set i .ow) (σ.set i (some (.ref a))) (ρ.set i d) H' f' g' := by
  have s' := s.ext e0 hs
  have hl := s.sr.len
  have hw := s.sr.lenW
  have apart : ∀ (j : Nat) (b : Addr), W[j]? = some Kd.ow → σ[j]? = some (some (V.ref b)) → b ≠ a := fun j b h1 h2 => by
    obtain ⟨b', o', e1, _, _, h, r, _⟩ := s.sr.slot j .ow h1
    rw [h2] at e1
    cases e1
    exact n.new.ne h (rpO_nt r)
  refine ⟨⟨by simp [hl], by simp [hw], fun j k h => ?_, fun j k b h1 h2 e1 e2 => ?_⟩, hs, s'.ex, fun j b h e => ?_, fun x hx h => ?_⟩
  · rcases W_set h with ⟨rfl, rfl⟩ | ⟨n', h⟩
    · rw [List.getElem?_set_self hi, getD_set _ _ _ _ _ (by omega), if_pos rfl]
      exact ⟨a, o, rfl, n.fr, n.nh, n.at_, n.r, n.nz⟩
    · rw [List.getElem?_set_ne n', getD_set _ _ _ _ _ (by omega), if_neg n']
      exact s'.sr.slot j k h
  · rcases W_set h1 with ⟨q1, _⟩ | ⟨n1, h1⟩ <;> rcases W_set h2 with ⟨q2, _⟩ | ⟨n2, h2⟩
    · exact q1.symm.trans q2
    · subst q1
      rw [List.getElem?_set_self hi] at e1
      rw [List.getElem?_set_ne n2] at e2
      cases e1
      exact absurd rfl (apart k _ h2 e2)
    · subst q2
      rw [List.getElem?_set_self hi] at e2
      rw [List.getElem?_set_ne n1] at e1
      cases e2
      exact absurd rfl (apart j _ h1 e1)
    · rw [List.getElem?_set_ne n1] at e1
      rw [List.getElem?_set_ne n2] at e2
      exact s.sr.sep j k b h1 h2 e1 e2
  · rcases W_set h with ⟨q, _⟩ | ⟨n', h⟩
    · subst q
      rw [List.getElem?_set_self hi] at e
      cases e
      refine new_back s.ex n.new fun z => ?_
      obtain ⟨x, hx⟩ := List.getElem?_of_mem z
      exact n.nh (List.mem_of_getElem? (e0.le.e _ _ hx))
    · rw [List.getElem?_set_ne n'] at e
      exact s.own j b h e
  · rcases W_set h with ⟨q, _⟩ | ⟨n', h⟩
    · omega
    · rw [List.getElem?_set_ne n']; exact s.me x hx h
/-- an owned container changes -/
theorem Ss.mut {i : Nat} {d : D} {a : Addr} {o : HO} (s : Ss Z B W σ ρ H f g) (hk : W[i]? = some .ow) (ha : σ[i]? = some (some (.ref a))) (r : RpO Z f o d) (nz : isFz o = false := by rfl) (nl : W.all (fun k => decide (k ≠ .lk)) = true := by rfl) : Ss Z B W σ (ρ.set i d) (upd H a o) f g := by
  have hl := s.sr.len
  obtain ⟨a', o', e1, hF, hn, hH, r0, _⟩ := s.sr.slot i .ow hk
  rw [ha] at e1; cases e1
  have hi : i < σ.length := (List.getElem?_eq_some_iff.mp ha).1
  refine ⟨⟨by simp [hl], s.sr.lenW, fun j k h => ?_, s.sr.sep⟩, ⟨fun b u e => ?_, s.hs.nt, tabs_upd s.hs.tab (fun o e => by rw [hH] at e; cases e; exact rpO_ct r0), s.hs.len, fun b hb => ?_, fun j x hx nd => ?_, s.hs.nd⟩, ⟨s.ex.le, fun b u hb nt nb => ?_⟩, s.own, s.me⟩
  · by_cases hj : i = j
    · subst hj
      rw [hk] at h; cases h
      rw [getD_set _ _ _ _ _ (by omega), if_pos rfl]
      exact ⟨a, o, ha, hF, hn, upd_same, r, nz⟩
    · rw [getD_set _ _ _ _ _ (by omega), if_neg hj]
      have q := s.sr.slot j k h
      cases k with
      | un => trivial
      | sh => exact q
      | ow =>
        obtain ⟨b, u, e1, e2, e3, e4, e5⟩ := q
        have hb : b ≠ a := fun z => by subst z; exact hj (s.sr.sep i j b hk h ha e1)
        exact ⟨b, u, e1, e2, e3, by rw [upd_ne hb]; exact e4, e5⟩
      | lk => exact absurd rfl (of_decide_eq_true (List.all_eq_true.mp nl _ (List.mem_of_getElem? h)))
  · rw [upd_ne (fun z => by subst z; rw [hF] at e; cases e)]
    exact s.hs.fr b u e
  · obtain ⟨u, e, nt⟩ := s.hs.lv b hb
    exact ⟨u, by rw [upd_ne (fun z => by subst z; exact hn hb)]; exact e, nt⟩
  · obtain ⟨b, u, e1, e2, e3, e4⟩ := s.hs.hot j x hx nd
    have hb : b ≠ a := fun z => by subst z; exact hn (List.mem_of_getElem? e1)
    exact ⟨b, u, e1, e2, by rw [upd_ne hb]; exact e3, e4⟩
  · obtain ⟨h1, h2, h3⟩ := s.ex.keep b u hb nt nb
    refine ⟨?_, h2, h3⟩
    rw [upd_ne ((s.own i a hk ha).ne hb nt)]; exact h1
/-- a hot container changes -/
theorem Hs.mut {i : Nat} {d : D} {a : Addr} {o : HO} (hs : Hs Z H f g) (ha : f.e[i]? = some a) (hF : f.F a = none) (hg : i < g.length) (hH : ∀ u, H a = some u → ctB u = true) (r : RpO Z f o d) (nz : isFz o = false := by rfl) : Hs Z (upd H a o) f (g.set i d) ∧ Ex H f (upd H a o) f := by
  have hm : a ∈ f.e := List.mem_of_getElem? ha
  refine ⟨⟨fun b u e => ?_, hs.nt, tabs_upd hs.tab hH, by simp [hs.len], fun b hb => ?_, fun j x hx nd => ?_, hs.nd⟩, Le.refl f, fun b u hb _ nb => ⟨?_, fun _ => id, nb⟩⟩
  · rw [upd_ne (fun z => by subst z; rw [hF] at e; cases e)]
    exact hs.fr b u e
  · by_cases z : b = a
    · subst z; exact ⟨o, upd_same, rpO_nt r⟩
    · rw [upd_ne z]; exact hs.lv b hb
  · rw [List.getElem?_set] at hx
    split at hx
    · rename_i q; subst q
      first | cases hx | (rw [if_pos hg] at hx; cases hx)
      exact ⟨a, o, ha, hF, upd_same, r, nz⟩
    · rename_i q
      obtain ⟨b, u, e1, e2, e3, e4⟩ := hs.hot j x hx nd
      refine ⟨b, u, e1, e2, ?_, e4⟩
      rw [upd_ne (fun z => ?_)]; exact e3
      subst z
      have l1 := (List.getElem?_eq_some_iff.mp ha)
      have l2 := (List.getElem?_eq_some_iff.mp e1)
      exact q ((List.getElem_inj hs.nd).mp (l1.2.trans l2.2.symm))
  · rw [upd_ne (fun z => nb (by subst z; exact hm))]; exact hb
/-- kinds forgotten -/
def Wle (W' W : List Kd) : Bool := W'.length == W.length && (W'.zip W).all fun p => p.1 == .un || p.1 == p.2
theorem wle_len {W' W : List Kd} (h : Wle W' W = true) : W'.length = W.length := by
  unfold Wle at h; simp at h; exact h.1
theorem wle_at {W' W : List Kd} (h : Wle W' W = true) {i : Nat} {k : Kd} (e : W'[i]? = some k) : k = .un ∨ W[i]? = some k := by
  have hl := wle_len h
  unfold Wle at h; simp only [Bool.and_eq_true, List.all_eq_true] at h
  have hi : i < W'.length := (List.getElem?_eq_some_iff.mp e).1
  have hi' : i < W.length := by omega
  have hm : (k, W[i]) ∈ W'.zip W := by
    have : (W'.zip W)[i]? = some (k, W[i]) := by
      rw [List.getElem?_zip_eq_some]; exact ⟨e, List.getElem?_eq_getElem hi'⟩
    exact List.mem_of_getElem? this
  have q := h.2 _ hm
  simp only [Bool.or_eq_true, beq_iff_eq] at q
  rcases q with q | q
  · exact .inl q
  · exact .inr (by rw [List.getElem?_eq_getElem hi', ← q])
theorem Ss.weak {W' : List Kd} (s : Ss Z B W σ ρ H f g) (h : Wle W' W = true) : Ss Z B W' σ ρ H f g := by
  refine ⟨⟨s.sr.len, (wle_len h).trans s.sr.lenW, fun i k e => ?_, fun i j a h1 h2 e1 e2 => ?_⟩, s.hs, s.ex, fun i a e => ?_, fun x hx e => ?_⟩
  · rcases wle_at h e with q | q
    · subst q; trivial
    · exact s.sr.slot i k q
  · rcases wle_at h h1 with q | q
    · cases q
    · rcases wle_at h h2 with q' | q'
      · cases q'
      · exact s.sr.sep i j a q q' e1 e2
  · rcases wle_at h e with q | q
    · cases q
    · exact s.own i a q
  · rcases wle_at h e with q | q
    · cases q
    · exact s.me x hx q
/-- an owned slot is frozen -/
theorem Ss.frz {i : Nat} {a : Addr} (od : Obj) (s : Ss Z B W σ ρ H f g) (hk : W[i]? = some .ow) (ha : σ[i]? = some (some (.ref a))) (nl : W.all (fun k => decide (k ≠ .lk)) = true := by rfl) : ∃ f', Le f f' ∧ Ss Z B (W.set i .sh) σ ρ (frzH od H a) f' g := by
  obtain ⟨a', o, e1, hF, hn, hH, r, nz⟩ := s.sr.slot i .ow hk
  rw [ha] at e1; cases e1
  have hi : i < σ.length := (List.getElem?_eq_some_iff.mp ha).1
  have hl := s.sr.len
  have hs' := s.hs.frz (od := od) hH hF hn (rpO_ct r)
  have ex' : Ex B.H B.f (frzH od H a) (TL.frz f a (fzO od o)) := s.ex.frz (s.own i a hk ha) hF
  refine ⟨TL.frz f a (fzO od o), TL.frz_le hF, ⟨s.sr.len, by simp [s.sr.lenW], fun j k h => ?_, fun j k b h1 h2 e1 e2 => ?_⟩, hs', ex', fun j b h e => ?_, fun x hx h => ?_⟩
  · rcases W_set h with ⟨rfl, rfl⟩ | ⟨n, h⟩
    · exact ⟨_, ha, rp_of_rpO (od := od) (rpO_mono (TL.frz_le hF) r) upd_same⟩
    · have q := s.sr.slot j k h
      cases k with
      | un => trivial
      | sh => obtain ⟨v, e, r⟩ := q; exact ⟨v, e, r.mono (TL.frz_le hF)⟩
      | ow =>
        obtain ⟨b, u, e1, e2, e3, e4, e5⟩ := q
        have hb : b ≠ a := fun z => by subst z; exact n (s.sr.sep i j b hk h ha e1)
        refine ⟨b, u, e1, ?_, e3, by rw [frzH_ne hb]; exact e4, rpO_mono (TL.frz_le hF) e5.1, e5.2⟩
        show upd f.F a (fzO od o) b = none
        rw [upd_ne hb]; exact e2
      | lk => exact absurd rfl (of_decide_eq_true (List.all_eq_true.mp nl _ (List.mem_of_getElem? h)))
  · rcases W_set h1 with ⟨_, q⟩ | ⟨n1, h1⟩
    · cases q
    · rcases W_set h2 with ⟨_, q⟩ | ⟨n2, h2⟩
      · cases q
      · exact s.sr.sep j k b h1 h2 e1 e2
  · rcases W_set h with ⟨_, q⟩ | ⟨n, h⟩
    · cases q
    · exact s.own j b h e
  · rcases W_set h with ⟨_, q⟩ | ⟨n, h⟩
    · cases q
    · exact s.me x hx h
end

inductive RS where
  | nx (ρ g : List D) | rt (d : D) (g : List D) | ro (d : D) (g : List D) | bk (ρ g : List D) | ct (ρ g : List D) | ex (x : Exc) (g : List D) | no
abbrev MS := List D → List D → RS
def postS (Z : Wd) (E : XK) (B : Bs) (fl : Fz) (WL Wn : List Kd) (r : RS) (N : Ends) : Prop :=
  match r with
  | .nx ρ g => ∀ σ H f, Le fl f → Ss Z B Wn σ ρ H f g → N.nx σ H
  | .rt d g => ∀ v H f, Ex B.H B.f H f → Hs Z H f g → Rp Z f d v → N.rt v H
  | .ro d g => ∀ a o H f, Ex B.H B.f H f → Hs Z H f g → Nw Z B.H H f a o d → N.rt (.ref a) H
  | .bk ρ g => ∀ σ H f, Le fl f → Ss Z B WL σ ρ H f g → N.bk σ H
  | .ct ρ g => ∀ σ H f, Le fl f → Ss Z B WL σ ρ H f g → N.ct σ H
  | .ex x g => pEx Z E B.H B.f x g
  | .no => False
def tS (Z : Wd) (E : XK) (WL W Wn : List Kd) (m : MS) : TS := fun N σ H => ∃ B f ρ g, Ss Z B W σ ρ H f g ∧ postS Z E B f WL Wn (m ρ g) N
theorem postS.low {Z : Wd} {E : XK} {B : Bs} {fl fl' : Fz} {WL Wn : List Kd} {r : RS} {N : Ends} (p : postS Z E B fl WL Wn r N) (l : Le fl fl') : postS Z E B fl' WL Wn r N := by
  cases r with
  | nx ρ g => exact fun σ H f l' s => p σ H f (l.trans l') s
  | bk ρ g => exact fun σ H f l' s => p σ H f (l.trans l') s
  | ct ρ g => exact fun σ H f l' s => p σ H f (l.trans l') s
  | rt d g => exact p
  | ro d g => exact p
  | ex x g => exact p
  | no => exact p
def SX (X : Cx) (E : XK) (WL W : List Kd) (st : Stmt) (Wn : List Kd) (m : MS) : Prop := PS X st (tS (wd X) E WL W Wn m)
def BX (X : Cx) (E : XK) (WL W : List Kd) (st : List Stmt) (Wn : List Kd) (m : MS) : Prop := PSs X st (tS (wd X) E WL W Wn m)

/-- from an expression's answer to a statement's -/
def R.st {α : Type} : R α → (α → List D → RS) → RS
  | .ok a g, k => k a g
  | .ex x g, _ => .ex x g
  | .no, _ => .no
theorem postS.bind {α β : Type} {rel : Hp → Fz → α → β → Prop} {Z : Wd} {E : XK} {B : Bs} {WL W Wn : List Kd} {σ : L2.St} {ρ : List D} {H : Hp} {f : Fz} {g : List D} {r : R α} {k : α → List D → RS} {N : Ends} {Q' : β → Hp → Prop} (s : Ss Z B W σ ρ H f g)
    (p : postS Z E B f WL Wn (r.st k) N) (h : ∀ a g v H' f', Le f f' → Ss Z B W σ ρ H' f' g → rel H' f' a v → postS Z E B f' WL Wn (k a g) N → Q' v H') : post rel Z E H f r Q' := by
  cases r with
  | ok a g' => exact fun v H' f' e hs r => h a g' v H' f' e.le (s.ext e hs) r (postS.low (r := k a g') p e.le)
  | ex x g' => exact pEx.ext p s.ex
  | no => exact p

section
variable {X : Cx} {E : XK} {WL W W1 Wn : List Kd} {pos : Pos}
def mSeq (a b : MS) : MS := fun ρ g => match a ρ g with
  | .nx ρ' g' => b ρ' g'
  | r => r
def mSkip : MS := fun ρ g => .nx ρ g
theorem bx_nil (h : Wle Wn W = true := by rfl) : BX X E WL W [] Wn mSkip := PSs.imp pss_nil fun N σ H q => by
  obtain ⟨B, f, ρ, g, s, p⟩ := q
  exact p σ H f (Le.refl f) (s.weak h)
theorem bx_cons {st : Stmt} {r : List Stmt} {a b : MS} (h : SX X E WL W st W1 a) (t : BX X E WL W1 r Wn b) : BX X E WL W (st :: r) Wn (mSeq a b) := PSs.imp (pss_cons h t) fun N σ H q => by
  obtain ⟨B, f, ρ, g, s, p⟩ := q
  refine ⟨B, f, ρ, g, s, ?_⟩
  unfold mSeq at p
  cases e : a ρ g with
  | nx ρ' g' =>
    rw [e] at p
    exact fun σ' H' f' l s' => ⟨B, f', ρ', g', s', postS.low p l⟩
  | _ => rw [e] at p; exact p
theorem bx_one {st : Stmt} {a : MS} (h : SX X E WL W st Wn a) : BX X E WL W [st] Wn a := pss_one h
/-- a slot is frozen ahead of the rest -/
theorem pss_frz {i : Nat} {sts : List Stmt} {t : TS} (h : PSs X sts t) : PSs X sts (fun N σ H => ∃ d, σ[i]? = some (some (.ref d)) ∧ ∀ od, t N σ (frzH od H d)) := by
  refine ⟨fun pins s σ H N I q => ?_⟩
  obtain ⟨d, hd, q⟩ := q
  cases hh : H d with
  | none =>
    have e0 : frzH default H d = H := by simp [frzH, hh]
    exact h.run pins s σ H N I (e0 ▸ q default)
  | some o =>
    cases o with
    | dK ws =>
      obtain ⟨od, I2⟩ := I.lock hh trivial
      have e0 : frzH od H d = upd H d (.frz od (.dK ws)) := by simp [frzH, hh]
      exact h.run pins s σ _ N I2 (e0 ▸ q od)
    | _ =>
      have e0 : frzH default H d = H := by simp [frzH, hh]
      exact h.run pins s σ H N I (e0 ▸ q default)
theorem bx_frz (i : Nat) {r : List Stmt} {m : MS} (h : BX X E WL (W.set i .sh) r Wn m) (hk : W[i]? = some .ow := by rfl) (nl : W.all (fun k => decide (k ≠ .lk)) = true := by rfl) : BX X E WL W r Wn m := PSs.imp (pss_frz h) fun N σ H q => by
  obtain ⟨B, f, ρ, g, s, p⟩ := q
  obtain ⟨a, o, e1, _⟩ := s.sr.slot i .ow hk
  refine ⟨a, e1, fun od => ?_⟩
  obtain ⟨f', l, s'⟩ := s.frz od hk e1 nl
  exact ⟨B, f', ρ, g, s', postS.low p l⟩
theorem bx_weak (W' : List Kd) {r : List Stmt} {m : MS} (h : BX X E WL W' r Wn m) (hw : Wle W' W = true := by rfl) : BX X E WL W r Wn m := PSs.imp h fun N σ H q => by
  obtain ⟨B, f, ρ, g, s, p⟩ := q
  exact ⟨B, f, ρ, g, s.weak hw, p⟩
theorem sx_pass (h : Wle Wn W = true := by rfl) : SX X E WL W (.Pass pos) Wn mSkip := PS.imp ps_pass fun N σ H q => by
  obtain ⟨B, f, ρ, g, s, p⟩ := q
  exact p σ H f (Le.refl f) (s.weak h)
def mBrk : MS := fun ρ g => .bk ρ g
def mCnt : MS := fun ρ g => .ct ρ g
theorem sx_break (h : Wle WL W = true := by rfl) : SX X E WL W (.Break pos) Wn mBrk := PS.imp ps_break fun N σ H q => by
  obtain ⟨B, f, ρ, g, s, p⟩ := q
  exact p σ H f (Le.refl f) (s.weak h)
theorem sx_continue (h : Wle WL W = true := by rfl) : SX X E WL W (.Continue pos) Wn mCnt := PS.imp ps_continue fun N σ H q => by
  obtain ⟨B, f, ρ, g, s, p⟩ := q
  exact p σ H f (Le.refl f) (s.weak h)
def mExp (m : M D) : MS := fun ρ g => (m ρ g).st fun _ g' => .nx ρ g'
theorem sx_expr {e : Expr} {m : M D} (he : PX X E W e m) (h : Wle Wn W = true := by rfl) (hs : swapsWith e none pos.line X.env = pure false := by rfl) : SX X E WL W (.Expr e pos) Wn (mExp m) := PS.imp (ps_expr he hs) fun N σ H q => by
  obtain ⟨B, f, ρ, g, s, p⟩ := q
  exact ⟨f, ρ, g, s.sr, s.hs, postS.bind s p fun a g' v H' f' _ s' r p' => p' σ H' f' (Le.refl _) (s'.weak h)⟩
def mRet (m : M D) : MS := fun ρ g => (m ρ g).st fun d g' => .rt d g'
theorem sx_ret {e : Expr} {m : M D} (he : PX X E W e m) : SX X E WL W (.Return (some e) pos) Wn (mRet m) := PS.imp (ps_ret he) fun N σ H q => by
  obtain ⟨B, f, ρ, g, s, p⟩ := q
  exact ⟨f, ρ, g, s.sr, s.hs, postS.bind s p fun a g' v H' f' _ s' r p' => p' v H' f' s'.ex s'.hs r⟩
/-- a new container is handed back -/
def mRetF (m : M D) : MS := fun ρ g => (m ρ g).st fun d g' => .ro d g'
theorem sx_retF {e : Expr} {m : M D} (he : FX X E W e m) : SX X E WL W (.Return (some e) pos) Wn (mRetF m) := PS.imp (ps_ret he) fun N σ H q => by
  obtain ⟨B, f, ρ, g, s, p⟩ := q
  refine ⟨f, ρ, g, s.sr, s.hs, ?_⟩
  have p' : postS (wd X) E B f WL Wn ((m ρ g).st fun d g' => .ro d g') N := p
  cases e : m ρ g with
  | ok d g' =>
    rw [e] at p'
    intro a o H' f' ex hs' n
    refine p' a o H' f' (s.ex.trans ex) hs' ⟨?_, n.at_, n.fr, n.nh, n.r, n.nz⟩
    refine new_back s.ex n.new fun z => ?_
    obtain ⟨x, hx⟩ := List.getElem?_of_mem z
    exact n.nh (List.mem_of_getElem? (ex.le.e _ _ hx))
  | ex x g' => rw [e] at p'; exact pEx.ext p' s.ex
  | no => rw [e] at p'; exact p'
/-- an owned container is handed back -/
def mRetO (i : Nat) : MS := fun ρ g => .ro (ρ.getD i .non) g
theorem sx_retO' {i : Nat} {x : Str} {p1 : Pos} (h : PE X (.Name x p1) (tVar i)) (hk : W[i]? = some .ow) : SX X E WL W (.Return (some (.Name x p1)) pos) Wn (mRetO i) := PS.imp (ps_ret h) fun N σ H q => by
  obtain ⟨B, f, ρ, g, s, p⟩ := q
  obtain ⟨a, o, e1, hF, hn, hH, r, nz⟩ := s.sr.slot i .ow hk
  exact ⟨.ref a, e1, p a o H f s.ex s.hs ⟨s.own i a hk e1, hH, hF, hn, r, nz⟩⟩
def mRetN : MS := fun _ g => .rt .non g
theorem sx_retN : SX X E WL W (.Return none pos) Wn mRetN := PS.imp ps_retN fun N σ H q => by
  obtain ⟨B, f, ρ, g, s, p⟩ := q
  exact p .non H f s.ex s.hs (by simp only [Rp])
def mIf (c : M Bool) (a b : MS) : MS := fun ρ g => (c ρ g).st fun t g' => if t = true then a ρ g' else b ρ g'
theorem sx_if {c : Expr} {a b : List Stmt} {mc : M Bool} {ma mb : MS} (hc : TX X E W c mc) (ha : BX X E WL W a Wn ma) (hb : BX X E WL W b Wn mb) : SX X E WL W (.If c a b pos) Wn (mIf mc ma mb) := PS.imp (ps_if hc ha hb) fun N σ H q => by
  obtain ⟨B, f, ρ, g, s, p⟩ := q
  refine ⟨f, ρ, g, s.sr, s.hs, postS.bind s p fun t g' v H' f' _ s' r p' => ?_⟩
  cases r
  cases t with
  | true => rw [if_pos rfl] at p' ⊢; exact ⟨B, f', ρ, g', s', p'⟩
  | false => rw [if_neg (by decide)] at p' ⊢; exact ⟨B, f', ρ, g', s', p'⟩
/-- a name is stored -/
def mSet (i : Nat) (m : M D) : MS := fun ρ g => (m ρ g).st fun d g' => .nx (ρ.set i d) g'
theorem sx_set' {i : Nat} {st : Stmt} {m : M D} (h : PS X st (tAsg (tE (wd X) E W m) (gName i))) (hi : i < W.length := by decide) (hw : Wle Wn (W.set i .sh) = true := by rfl) : SX X E WL W st Wn (mSet i m) := PS.imp h fun N σ H q => by
  obtain ⟨B, f, ρ, g, s, p⟩ := q
  have hl := s.sr.lenW
  exact ⟨f, ρ, g, s.sr, s.hs, postS.bind s p fun a g' v H' f' _ s' r p' => p' _ H' f' (Le.refl _) ((s'.set_sh (by omega) r).weak hw)⟩
/-- .. takes a new container -/
theorem sx_own' {i : Nat} {st : Stmt} {m : M D} (h : PS X st (tAsg (tF (wd X) E W m) (gName i))) (hi : i < W.length := by decide) (i0 : 0 < i := by decide) (hw : Wle Wn (W.set i .ow) = true := by rfl) : SX X E WL W st Wn (mSet i m) := PS.imp h fun N σ H q => by
  obtain ⟨B, f, ρ, g, s, p⟩ := q
  have hl := s.sr.lenW
  refine ⟨f, ρ, g, s.sr, s.hs, ?_⟩
  have p' : postS (wd X) E B f WL Wn ((m ρ g).st fun d g' => .nx (ρ.set i d) g') N := p
  cases e : m ρ g with
  | ok d g' =>
    rw [e] at p'
    exact fun a o H' f' ex hs' n => p' _ H' f' ex.le ((s.set_ow (by omega) ex hs' n i0).weak hw)
  | ex x g' => rw [e] at p'; exact pEx.ext p' s.ex
  | no => rw [e] at p'; exact p'
theorem sx_set {i : Nat} {x : Str} {e : Expr} {m : M D} {pos' : Pos} (he : PX X E W e m) (hN : X.N.Nodup) (hx' : X.N[i]? = some x) (hx : Loc X.env.scope x) (hf : X.fn x = true ∨ X.env.scope.names.lookup x = some .local) (hi : i < W.length := by decide) (hw : Wle Wn (W.set i .sh) = true := by rfl)
    (hs : swapsWith e (some (.Name x pos')) pos.line X.env = pure false := by rfl) : SX X E WL W (.Assign [.Name x pos'] e pos) Wn (mSet i m) := sx_set' (ps_set hN hx' hx he hs hf) hi hw
theorem sx_own {i : Nat} {x : Str} {e : Expr} {m : M D} {pos' : Pos} (he : FX X E W e m) (hN : X.N.Nodup) (hx' : X.N[i]? = some x) (hx : Loc X.env.scope x) (hf : X.fn x = true ∨ X.env.scope.names.lookup x = some .local) (hi : i < W.length := by decide) (i0 : 0 < i := by decide) (hw : Wle Wn (W.set i .ow) = true := by rfl)
    (hs : swapsWith e (some (.Name x pos')) pos.line X.env = pure false := by rfl) : SX X E WL W (.Assign [.Name x pos'] e pos) Wn (mSet i m) := sx_own' (ps_set hN hx' hx he hs hf) hi i0 hw
end
end TL
end

section
set_option Elab.async false
set_option linter.all false
set_option autoImplicit false
set_option maxRecDepth 100000
/-! TL, part e: what is walked, loops, comprehensions -/
namespace TL
open PySem PySem.Spec PyProof.Rows L2
variable [TabL]

/-- J yields the trees ds, whatever else goes on -/
def ItR (Z : Wd) (J : It) (ds : List D) (f : Fz) : Prop :=
  ∀ H' f' g', Le f f' → Hs Z H' f' g' → ∀ i, (i < ds.length → J.go i H' ∧ ∀ x H'', J.yld i H' x H'' → ∃ f'', Ex H' f' H'' f'' ∧ Hs Z H'' f'' g' ∧ Rp Z f'' (ds.getD i .non) x) ∧ (ds.length ≤ i → J.stop i H')
theorem ItR.mono {Z : Wd} {J : It} {ds : List D} {f f' : Fz} (h : ItR Z J ds f) (l : Le f f') : ItR Z J ds f' := fun H' f'' g' l' hs i => h H' f'' g' (l.trans l') hs i
def postI (Z : Wd) (E : XK) (H : Hp) (f : Fz) (r : R (List D)) (Q : It → Hp → Prop) : Prop :=
  match r with
  | .ok ds g' => ∀ J H' f', Ex H f H' f' → Hs Z H' f' g' → ItR Z J ds f' → Q J H'
  | .ex x g' => pEx Z E H f x g'
  | .no => False
def tI (Z : Wd) (E : XK) (W : List Kd) (m : M (List D)) : TI := fun σ H Q => ∃ f ρ g, Sr Z W σ ρ H f ∧ Hs Z H f g ∧ postI Z E H f (m ρ g) Q
def IX (X : Cx) (E : XK) (W : List Kd) (tg e : Expr) (m : M (List D)) : Prop := PI X tg e (tI (wd X) E W m)
theorem PI.imp {X : Cx} {tg e : Expr} {t t' : TI} (h : PI X tg e t) (i : ∀ σ H Q, t' σ H Q → t σ H Q) : PI X tg e t' := ⟨fun pins s σ H Q I q => h.run pins s σ H Q I (i σ H Q q)⟩
/-- .. as long as P -/
def ItP (Z : Wd) (P : Hp → Fz → Prop) (J : It) (ds : List D) (f : Fz) : Prop :=
  ∀ H' f' g', Le f f' → P H' f' → Hs Z H' f' g' → ∀ i, (i < ds.length → J.go i H' ∧ ∀ x H'', J.yld i H' x H'' → ∃ f'', Ex H' f' H'' f'' ∧ Hs Z H'' f'' g' ∧ Rp Z f'' (ds.getD i .non) x) ∧ (ds.length ≤ i → J.stop i H')
def postIp (Z : Wd) (E : XK) (P : Hp → Fz → Prop) (H : Hp) (f : Fz) (r : R (List D)) (Q : It → Hp → Prop) : Prop :=
  match r with
  | .ok ds g' => ∀ J H' f', Ex H f H' f' → Hs Z H' f' g' → ItP Z P J ds f' → Q J H'
  | .ex x g' => pEx Z E H f x g'
  | .no => False
def tIp (Z : Wd) (E : XK) (W : List Kd) (m : M (List D)) : TI := fun σ H Q => ∃ f ρ g, Sr Z W σ ρ H f ∧ Hs Z H f g ∧ postIp Z E (Ex H f) H f (m ρ g) Q
/-- .. within a comprehension -/
def JX (X : Cx) (E : XK) (W : List Kd) (tg e : Expr) (m : M (List D)) : Prop := PI X tg e (tIp (wd X) E W m)
theorem IX.j {X : Cx} {E : XK} {W : List Kd} {tg e : Expr} {m : M (List D)} (h : IX X E W tg e m) : JX X E W tg e m := PI.imp h fun σ H Q q => by
  obtain ⟨f, ρ, g, s, hs, p⟩ := q
  refine ⟨f, ρ, g, s, hs, ?_⟩
  cases r : m ρ g with
  | ok ds g' => rw [r] at p; exact fun J H' f' ex hs' it => p J H' f' ex hs' fun H2 f2 g2 l _ hs2 i => it H2 f2 g2 l hs2 i
  | ex x g' => rw [r] at p; exact p
  | no => rw [r] at p; exact p
/-- a key as a tree -/
def kD : Key → D
  | .inl i => .int i
  | .inr x => .str x
theorem rp_kD (Z : Wd) (f : Fz) (k : Key) : Rp Z f (kD k) (kV k) := by
  cases k <;> simp only [kD, kV, Rp]
/-- the signs of a text -/
def signs (x : Str) : List D := x.cps.toList.map fun c => .str ⟨#[c]⟩
/-- what is walked if a thing is -/
def kIter : D → List D → R (List D)
  | .lst xs, g => .ok xs g
  | .tup xs, g => .ok xs g
  | .dct kvs, g => .ok (kvs.map fun p => kD p.1) g
  | .str x, g => .ok (signs x) g
  | _, _ => .no
def mIter (m : M D) : M (List D) := fun ρ g => (m ρ g).bind kIter
theorem getD_pd {α β : Type} {R : α → β → Prop} {a : List α} {b : List β} (h : Paired R a b) {i : Nat} (hi : i < a.length) (d : α) : ∃ y, b[i]? = some y ∧ R (a.getD i d) y := by
  obtain ⟨y, h1, h2⟩ := pd_get h (i := i) (x := a[i]) (List.getElem?_eq_getElem hi)
  refine ⟨y, h1, ?_⟩
  simpa [List.getD_eq_getElem?_getD, List.getElem?_eq_getElem hi] using h2
section
variable {X : Cx} {E : XK} {W : List Kd} {tg e : Expr}
theorem it_lst {Z : Wd} {f : Fz} {a : Addr} {vs : List V} {ds : List D} (h : f.F a = some (.lst vs)) (p : Paired (Rp Z f) ds vs) : ItR Z (Itl Z.K a) ds f := fun H' f' g' l hs i => by
  have hl := PySem.Paired.length p
  have hH : H' a = some (.lst vs) := hs.fr _ _ (l.F _ _ h)
  refine ⟨fun hi => ?_, fun hi => ⟨vs, .of hH, by omega⟩⟩
  obtain ⟨y, h1, h2⟩ := getD_pd p hi .non
  refine ⟨⟨vs, y, .of hH, h1⟩, fun x H'' q => ?_⟩
  obtain ⟨rfl, q⟩ := q
  have := q vs (.of hH)
  rw [h1] at this; cases this
  exact ⟨f', Ex.refl _ _, hs, h2.mono l⟩
theorem it_tup {Z : Wd} {f : Fz} {a : Addr} {vs : List V} {ds : List D} (h : f.F a = some (.tup vs) ∨ CT Z.K a vs) (p : Paired (Rp Z f) ds vs) : ItR Z (Itt Z.K a) ds f := fun H' f' g' l hs i => by
  have hl := PySem.Paired.length p
  have hH : SqT Z.K H' a vs := by
    rcases h with h | h
    · exact .inl (.inl (hs.fr _ _ (l.F _ _ h)))
    · exact .inr h
  refine ⟨fun hi => ?_, fun hi => ⟨vs, hH, by omega⟩⟩
  obtain ⟨y, h1, h2⟩ := getD_pd p hi .non
  refine ⟨⟨vs, y, hH, h1⟩, fun x H'' q => ?_⟩
  obtain ⟨rfl, q⟩ := q
  have := q vs hH
  rw [h1] at this; cases this
  exact ⟨f', Ex.refl _ _, hs, h2.mono l⟩
theorem it_dct {Z : Wd} {f : Fz} {a : Addr} {od : Obj} {ws : List (Key × V)} {kvs : List (Key × D)} (h : f.F a = some (.frz od (.dK ws))) (p : Paired (PK Z f) kvs ws) : ItR Z (Itk a od ws) (kvs.map fun q => kD q.1) f := fun H' f' g' l hs i => by
  have hl := PySem.Paired.length p
  have hH : H' a = some (.frz od (.dK ws)) := hs.fr _ _ (l.F _ _ h)
  simp only [List.length_map]
  refine ⟨fun hi => ?_, fun hi => ⟨hH, by omega⟩⟩
  refine ⟨⟨hH, by omega⟩, fun x H'' q => ?_⟩
  obtain ⟨rfl, k, v, h1, rfl⟩ := q
  refine ⟨f', Ex.refl _ _, hs, ?_⟩
  obtain ⟨y, h2, h3, _⟩ := pd_getr p h1
  have e : (kvs.map fun q => kD q.1).getD i .non = kD k := by
    simp [List.getD_eq_getElem?_getD, h2, h3]
  rw [e]
  exact rp_kD _ _ _
theorem it_str {Z : Wd} {f : Fz} {x : Str} : ItR Z (Its x) (signs x) f := fun H' f' g' l hs i => by
  have hl : (signs x).length = x.cps.size := by simp [signs]
  refine ⟨fun hi => ⟨by show i < x.cps.size; omega, fun y H'' q => ?_⟩, fun hi => by show x.cps.size ≤ i; omega⟩
  obtain ⟨rfl, c, h1, rfl⟩ := q
  refine ⟨f', Ex.refl _ _, hs, ?_⟩
  have h2 : x.cps.toList[i]? = some c := by simpa using h1
  have e : (signs x).getD i .non = .str ⟨#[c]⟩ := by
    unfold signs
    simp only [List.getD_eq_getElem?_getD, List.getElem?_map, h2, Option.map_some, Option.getD_some]
  rw [e]
  simp only [Rp]
/-- a value is walked: a list, a tuple, a dict by its keys, a text -/
theorem ix_val {m : M D} (h : PX X E W e m) : IX X E W tg e (mIter m) := by
  refine ⟨fun pins s σ H R I q => ?_⟩
  obtain ⟨f, ρ, g, sr, hs, p⟩ := q
  have p0 : postI (wd X) E H f ((m ρ g).bind kIter) R := p
  let Q : VK := fun v H1 => (∃ a, v = .ref a ∧ (∃ xs, SqL X.K H1 a xs) ∧ R (Itl X.K a) H1) ∨ (∃ a, v = .ref a ∧ (∃ xs, SqT X.K H1 a xs) ∧ R (Itt X.K a) H1) ∨ (∃ d o kvs, v = .ref d ∧ H1 d = some (.frz o (.dK kvs)) ∧ R (Itk d o kvs) H1) ∨ ∃ x, v = .str x ∧ R (Its x) H1
  have hq : tE (wd X) E W m σ H Q := by
    refine ⟨f, ρ, g, sr, hs, ?_⟩
    cases hr : m ρ g with
    | ok d g' =>
      rw [hr] at p0
      have p1 : postI (wd X) E H f (kIter d g') R := p0
      intro v H' f' ex hs' r
      cases d <;> simp only [kIter, postI] at p1
      · rename_i x
        simp only [Rp] at r
        exact .inr (.inr (.inr ⟨x, r, p1 _ H' f' ex hs' it_str⟩))
      · simp only [Rp] at r
        obtain ⟨a, vs, rfl, h1, h2⟩ := r
        exact .inl ⟨a, rfl, ⟨vs, .of (hs'.fr _ _ h1)⟩, p1 _ H' f' ex hs' (it_lst h1 (rpL_iff.mp h2))⟩
      · simp only [Rp] at r
        obtain ⟨a, vs, rfl, h1, h2⟩ := r
        refine .inr (.inl ⟨a, rfl, ⟨vs, ?_⟩, p1 _ H' f' ex hs' (it_tup h1 (rpL_iff.mp h2))⟩)
        rcases h1 with h1 | h1
        · exact .inl (.inl (hs'.fr _ _ h1))
        · exact .inr h1
      · simp only [Rp] at r
        obtain ⟨a, od, ws, rfl, h1, h2⟩ := r
        exact .inr (.inr (.inl ⟨a, od, ws, rfl, hs'.fr _ _ h1, p1 _ H' f' ex hs' (it_dct h1 (rpK_iff.mp h2))⟩))
    | ex x g' => rw [hr] at p0; exact p0
    | no => rw [hr] at p0; exact p0
  refine thn ((show PE X e _ from h).run pins s σ H Q I hq) fun v s1 ⟨x, H1, I1, r1, q1⟩ => ?_
  rcases q1 with ⟨a, rfl, ⟨xs, hx⟩, q⟩ | ⟨a, rfl, ⟨xs, hx⟩, q⟩ | ⟨d, o, kvs, rfl, hd, q⟩ | ⟨x, rfl, q⟩
  · cases r1
    obtain ⟨its, rv, pl, hz⟩ := I1.list hx
    exact wpAny_pyIter_list pl.isList (pi_one (tk := s1.toks) I1 _ (turn_list a _) ⟨_, Heap.get?_push_size _ rfl, rfl, rfl⟩ q)
  · cases r1
    obtain ⟨its, rv, pl, hz⟩ := I1.tuple hx
    exact wpAny_pyIter_tuple (show s1.heap.IsTuple a its.toArray from pl) (pi_one (tk := s1.toks) I1 _ (turn_tuple a _) ⟨_, Heap.get?_push_size _ rfl, rfl, rfl⟩ q)
  · obtain rfl : v = Value.ref d := r1
    obtain ⟨z1, hgd, hx, es, ep, vs, hdt, hsz, kv, hm⟩ := I1.frzK hd
    refine iter_keys z1 hgd hx hdt (pi_one (tk := s1.toks) I1 _ (turn_keys _ hdt) ⟨_, Heap.get?_push_size _ rfl, rfl, ?_⟩ q)
    rw [hsz] <;> rfl
  · obtain ⟨tk, rfl⟩ := r1
    cases hA : x.cps.all (· < 128) with
    | false => exact wpAny_pyIter_wide hA (pi_one (tk := s1.toks) I1 _ (turn_str _ x tk _ (.inr rfl)) ⟨_, Heap.get?_push_size _ rfl, rfl, rfl⟩ q)
    | true => exact wpAny_pyIter_ascii hA (pi_one (tk := s1.toks) I1 _ (turn_str _ x tk _ (.inl rfl)) ⟨_, Heap.get?_push_size _ rfl, rfl, rfl⟩ q)
end

section
variable {X : Cx} {E : XK} {W : List Kd} {tg : Expr} {pos : Pos}
/-- a locked container of one's own is walked -/
theorem jx_lk' {i : Nat} {x : Str} (h : PE X (.Name x pos) (tVar i)) (hk : W[i]? = some .lk) : JX X E W tg (.Name x pos) (mIter (mVar i)) := by
  refine ⟨fun pins s σ H R I q => ?_⟩
  obtain ⟨f, ρ, g, sr, hs, p⟩ := q
  have p0 : postIp (wd X) E (Ex H f) H f (kIter (ρ.getD i .non) g) R := p
  obtain ⟨a, o, ea, hF, hn, hH, ro, nk⟩ := sr.slot i .lk hk
  refine thn (h.run pins s σ H (fun v H1 => v = .ref a ∧ H1 = H) I ⟨_, ea, rfl, rfl⟩) fun v s1 ⟨x, H1, I1, r1, q1, q2⟩ => ?_
  subst q1 q2
  cases o with
  | lst vs =>
    cases hd : ρ.getD i .non <;> rw [hd] at ro <;> simp only [RpO] at ro
    rename_i ds
    rw [hd] at p0
    cases r1
    have hq : SqL X.K H1 a vs := .of hH
    obtain ⟨its, rv, pl, hz⟩ := I1.list hq
    refine wpAny_pyIter_list pl.isList (pi_one (tk := s1.toks) I1 _ (turn_list a _) ⟨_, Heap.get?_push_size _ rfl, rfl, rfl⟩ ?_)
    refine p0 _ H1 f (Ex.refl _ _) hs fun H' f' g' l ex hs' j => ?_
    have hl := PySem.Paired.length ro
    have hH' : H' a = some (.lst vs) := (ex.keep a _ hH (ctB_nt rfl) hn).1
    refine ⟨fun hi => ?_, fun hi => ⟨vs, .of hH', by omega⟩⟩
    obtain ⟨y, h1, h2⟩ := getD_pd ro hi .non
    refine ⟨⟨vs, y, .of hH', h1⟩, fun x H'' q => ?_⟩
    obtain ⟨rfl, q⟩ := q
    have := q vs (.of hH')
    rw [h1] at this; cases this
    exact ⟨f', Ex.refl _ _, hs', h2.mono l⟩
  | frz od u =>
    cases u <;> cases hd : ρ.getD i .non <;> rw [hd] at ro <;> simp only [RpO] at ro
    rename_i ws kvs
    rw [hd] at p0
    obtain rfl : v = Value.ref a := r1
    obtain ⟨z1, hgd, hx, es, ep, vs, hdt, hsz, kv, hm⟩ := I1.frzK hH
    refine iter_keys z1 hgd hx hdt (pi_one (tk := s1.toks) I1 (J := Itk a od ws) _ (turn_keys _ hdt) ⟨_, Heap.get?_push_size _ rfl, rfl, ?_⟩ ?_)
    · rw [hsz] <;> rfl
    refine p0 _ H1 f (Ex.refl _ _) hs fun H' f' g' l ex hs' j => ?_
    have hl := PySem.Paired.length ro
    have hH' : H' a = some (.frz od (.dK ws)) := (ex.keep a _ hH (ctB_nt rfl) hn).1
    simp only [List.length_map]
    refine ⟨fun hi => ?_, fun hi => ⟨hH', by omega⟩⟩
    refine ⟨⟨hH', by omega⟩, fun x H'' q => ?_⟩
    obtain ⟨rfl, k, v, h1, rfl⟩ := q
    refine ⟨f', Ex.refl _ _, hs', ?_⟩
    obtain ⟨y, h2, h3, _⟩ := pd_getr ro h1
    have e : (kvs.map fun q => kD q.1).getD j .non = kD k := by
      simp [List.getD_eq_getElem?_getD, h2, h3]
    rw [e]
    exact rp_kD _ _ _
  | ins C dx ws => cases hd : ρ.getD i .non <;> rw [hd] at ro p0 <;> first | (simp only [RpO] at ro; done) | exact p0.elim
  | dK ws => exact absurd rfl (nk ws)
  | _ => cases hd : ρ.getD i .non <;> rw [hd] at ro <;> simp only [RpO] at ro
end
/-! ### a slot's own dict is locked while an expression runs -/
section
variable {X : Cx} {E : XK} {W : List Kd} {e : Expr}
theorem sr_lk {Z : Wd} {σ : L2.St} {ρ : List D} {H : Hp} {f : Fz} {i : Nat} {a : Addr} {od : Obj} {ws : List (Key × V)} (s : Sr Z W σ ρ H f) (hk : W[i]? = some .ow) (nl : W.all (fun k => decide (k ≠ .lk)) = true) (ea : σ[i]? = some (some (.ref a))) (hF : f.F a = none) (hn : a ∉ f.e) (r : RpO Z f (.dK ws) (ρ.getD i .non)) :
    Sr Z (W.set i .lk) σ ρ (upd H a (.frz od (.dK ws))) f := by
  refine ⟨s.len, by simp [s.lenW], fun j k h => ?_, fun j k b h1 h2 e1 e2 => ?_⟩
  · rcases W_set h with ⟨rfl, rfl⟩ | ⟨n, h⟩
    · refine ⟨a, _, ea, hF, hn, upd_same, ?_, fun ws z => (nomatch z)⟩
      cases hd : ρ.getD i .non <;> rw [hd] at r <;> simp only [RpO] at r ⊢
      exact r
    · have q := s.slot j k h
      cases k with
      | un => trivial
      | sh => exact q
      | ow =>
        obtain ⟨b, u, e1, e2, e3, e4, e5⟩ := q
        have hb : b ≠ a := fun z => by subst z; exact n (s.sep i j b hk h ea e1)
        exact ⟨b, u, e1, e2, e3, by rw [upd_ne hb]; exact e4, e5⟩
      | lk => exact absurd rfl (of_decide_eq_true (List.all_eq_true.mp nl _ (List.mem_of_getElem? h)))
  · rcases W_set h1 with ⟨_, q⟩ | ⟨n1, h1⟩
    · cases q
    · rcases W_set h2 with ⟨_, q⟩ | ⟨n2, h2⟩
      · cases q
      · exact s.sep j k b h1 h2 e1 e2
theorem sr_lk0 {Z : Wd} {σ : L2.St} {ρ : List D} {H : Hp} {f : Fz} {i : Nat} (s : Sr Z W σ ρ H f) (h : ∀ o a, σ[i]? = some (some (.ref a)) → H a = some o → ∀ ws, o ≠ .dK ws) (hk : W[i]? = some .ow) : Sr Z (W.set i .lk) σ ρ H f := by
  refine ⟨s.len, by simp [s.lenW], fun j k h' => ?_, fun j k b h1 h2 e1 e2 => ?_⟩
  · rcases W_set h' with ⟨rfl, rfl⟩ | ⟨n, h'⟩
    · obtain ⟨a, o, e1, e2, e3, e4, e5, e6⟩ := s.slot i .ow hk
      exact ⟨a, o, e1, e2, e3, e4, e5, h o a e1 e4⟩
    · exact s.slot j k h'
  · rcases W_set h1 with ⟨_, q⟩ | ⟨n1, h1⟩
    · cases q
    · rcases W_set h2 with ⟨_, q⟩ | ⟨n2, h2⟩
      · cases q
      · exact s.sep j k b h1 h2 e1 e2
theorem hs_lk {Z : Wd} {H : Hp} {f : Fz} {g : List D} {a : Addr} {o : HO} (hs : Hs Z H f g) (hF : f.F a = none) (hn : a ∉ f.e) (hc : ∀ u, H a = some u → ctB u = true) : Hs Z (upd H a o) f g :=
  ⟨fun b u e => by rw [upd_ne (fun z => by subst z; rw [hF] at e; cases e)]; exact hs.fr b u e, hs.nt, tabs_upd hs.tab hc, hs.len, fun b hb => by
    obtain ⟨u, e, nt⟩ := hs.lv b hb
    exact ⟨u, by rw [upd_ne (fun z => by subst z; exact hn hb)]; exact e, nt⟩, fun j x hx nd => by
    obtain ⟨b, u, e1, e2, e3, e4⟩ := hs.hot j x hx nd
    have hb : b ≠ a := fun z => by subst z; exact hn (List.mem_of_getElem? e1)
    exact ⟨b, u, e1, e2, by rw [upd_ne hb]; exact e3, e4⟩, hs.nd⟩
/-- back from a locked run -/
theorem ex_unlk {H H' : Hp} {f f' : Fz} {a : Addr} {o o' : HO} (ex : Ex (upd H a o') f H' f') (h : H a = some o) (hn : a ∉ f.e) (hF : f.F a = none) (nt : ctB o' = true) : Ex H f (upd H' a o) f' ∧ f'.F a = none ∧ a ∉ f'.e := by
  have ntc := nt
  obtain ⟨k1, k2, k3⟩ := ex.keep a o' upd_same (ctB_nt nt) hn
  refine ⟨⟨ex.le, fun b u hb nt nb => ?_⟩, k2 nt hF, k3⟩
  by_cases z : b = a
  · subst z
    rw [h] at hb; cases hb
    exact ⟨upd_same, fun _ => k2 ntc, k3⟩
  · obtain ⟨h1, h2, h3⟩ := ex.keep b u (by rw [upd_ne z]; exact hb) nt nb
    exact ⟨by rw [upd_ne z]; exact h1, h2, h3⟩
/-- nothing is raised -/
def mNx {α : Type} (m : M α) : M α := fun ρ g => match m ρ g with
  | .ok a g' => .ok a g'
  | _ => .no
theorem fx_lk (i : Nat) {m : M D} (h : FX X E (W.set i .lk) e m) (hk : W[i]? = some .ow := by rfl) (nl : W.all (fun k => decide (k ≠ .lk)) = true := by rfl) : FX X E W e (mNx m) := by
  refine ⟨fun pins s σ H Q I q => ?_⟩
  obtain ⟨f, ρ, g, sr, hs, p⟩ := q
  obtain ⟨a, o, ea, hF, hn, hH, ro, nz⟩ := sr.slot i .ow hk
  unfold mNx at p
  cases hr : m ρ g with
  | ex x g' => rw [hr] at p; exact p.elim
  | no => rw [hr] at p; exact p.elim
  | ok d g' =>
    rw [hr] at p
    by_cases hd : ∃ ws, o = .dK ws
    · obtain ⟨ws, rfl⟩ := hd
      refine (pe_lock h).run pins s σ H Q I ⟨a, .dK ws, hH, trivial, fun od => ⟨f, ρ, g, sr_lk sr hk nl ea hF hn ro, hs_lk hs hF hn (fun u e => by rw [hH] at e; cases e; rfl), ?_⟩⟩
      rw [hr]
      intro b o2 H' f' ex hs' n
      obtain ⟨e1, e2, e3⟩ := ex_unlk ex hH hn hF rfl
      have hA := (ex.keep a _ upd_same (ctB_nt rfl) hn).1
      have hC : ∀ u, H' a = some u → ctB u = true := fun u e => by rw [hA] at e; cases e; rfl
      have hab : b ≠ a := fun z => by
        have hq : upd H a (.frz od (.dK ws)) b = some (.frz od (.dK ws)) := by rw [z]; exact upd_same
        obtain ⟨ps, q⟩ := n.new _ hq
        cases q
      refine ⟨hA, p b o2 _ f' e1 (hs_lk hs' e2 e3 hC) ⟨?_, ?_, n.fr, n.nh, n.r, n.nz⟩⟩
      · exact fun u e => n.new u (by rw [upd_ne hab]; exact e)
      · rw [upd_ne hab]; exact n.at_
    · refine h.run pins s σ H Q I ⟨f, ρ, g, sr_lk0 sr (fun o' a' e1 e2 ws z => ?_) hk, hs, by rw [hr]; exact p⟩
      rw [ea] at e1; cases e1
      rw [hH] at e2; cases e2
      exact hd ⟨ws, z⟩
theorem px_lk (i : Nat) {m : M D} (h : PX X E (W.set i .lk) e m) (hk : W[i]? = some .ow := by rfl) (nl : W.all (fun k => decide (k ≠ .lk)) = true := by rfl) : PX X E W e (mNx m) := by
  refine ⟨fun pins s σ H Q I q => ?_⟩
  obtain ⟨f, ρ, g, sr, hs, p⟩ := q
  obtain ⟨a, o, ea, hF, hn, hH, ro, nz⟩ := sr.slot i .ow hk
  unfold mNx at p
  cases hr : m ρ g with
  | ex x g' => rw [hr] at p; exact p.elim
  | no => rw [hr] at p; exact p.elim
  | ok d g' =>
    rw [hr] at p
    by_cases hd : ∃ ws, o = .dK ws
    · obtain ⟨ws, rfl⟩ := hd
      refine (pe_lock h).run pins s σ H Q I ⟨a, .dK ws, hH, trivial, fun od => ⟨f, ρ, g, sr_lk sr hk nl ea hF hn ro, hs_lk hs hF hn (fun u e => by rw [hH] at e; cases e; rfl), ?_⟩⟩
      rw [hr]
      intro v H' f' ex hs' r
      obtain ⟨e1, e2, e3⟩ := ex_unlk ex hH hn hF rfl
      have hA := (ex.keep a _ upd_same (ctB_nt rfl) hn).1
      have hC : ∀ u, H' a = some u → ctB u = true := fun u e => by rw [hA] at e; cases e; rfl
      exact ⟨hA, p v _ f' e1 (hs_lk hs' e2 e3 hC) r⟩
    · refine h.run pins s σ H Q I ⟨f, ρ, g, sr_lk0 sr (fun o' a' e1 e2 ws z => ?_) hk, hs, by rw [hr]; exact p⟩
      rw [ea] at e1; cases e1
      rw [hH] at e2; cases e2
      exact hd ⟨ws, z⟩
end

/-! ### targets -/
abbrev KT := D → List D → List D → Option (List D)
/-- all but the slots T stand -/
def Fix (T : List Nat) (σ σ' : L2.St) : Prop := σ'.length = σ.length ∧ ∀ i : Nat, i ∉ T → σ'[i]? = σ[i]?
theorem Fix.refl (T : List Nat) (σ : L2.St) : Fix T σ σ := ⟨rfl, fun _ _ => rfl⟩
theorem Fix.trans {T T' : List Nat} {a b c : L2.St} (h : Fix T a b) (k : Fix T' b c) : Fix (T ++ T') a c :=
  ⟨k.1.trans h.1, fun i n => by
    rw [List.mem_append, not_or] at n
    rw [k.2 i n.2, h.2 i n.1]⟩
def tGt (Z : Wd) (W Wn : List Kd) (T : List Nat) (k : KT) : TG := fun v σ H Q => ∃ B f ρ g d ρ', Ss Z B W σ ρ H f g ∧ Rp Z f d v ∧ k d ρ g = some ρ' ∧ ∀ σ' H' f', Fix T σ σ' → Ex H f H' f' → Ss Z B Wn σ' ρ' H' f' g → Q σ' H'
def GX (X : Cx) (W Wn : List Kd) (T : List Nat) (tg : Expr) (k : KT) : Prop := PG X tg (tGt (wd X) W Wn T k)
abbrev KTs := List D → List D → List D → Option (List D)
def tGts (Z : Wd) (W Wn : List Kd) (T : List Nat) (k : KTs) : TGs := fun vs σ H Q => ∃ B f ρ g ds ρ', Ss Z B W σ ρ H f g ∧ Paired (Rp Z f) ds vs ∧ k ds ρ g = some ρ' ∧ ∀ σ' H' f', Fix T σ σ' → Ex H f H' f' → Ss Z B Wn σ' ρ' H' f' g → Q σ' H'
def GXs (X : Cx) (W Wn : List Kd) (T : List Nat) (tg : List Expr) (k : KTs) : Prop := PGs X tg (tGts (wd X) W Wn T k)
theorem PG.imp {X : Cx} {tg : Expr} {t t' : TG} (h : PG X tg t) (i : ∀ v σ H Q, t' v σ H Q → t v σ H Q) : PG X tg t' := ⟨fun pins s σ H v u Q I r q => h.run pins s σ H v u Q I r (i v σ H Q q)⟩
theorem PGs.imp {X : Cx} {tg : List Expr} {t t' : TGs} (h : PGs X tg t) (i : ∀ v σ H Q, t' v σ H Q → t v σ H Q) : PGs X tg t' := ⟨fun pins s σ H v u Q I r q => h.run pins s σ H v u Q I r (i v σ H Q q)⟩
section
variable {X : Cx} {W W1 Wn : List Kd} {T T' : List Nat} {pos : Pos}
def kName (i : Nat) : KT := fun d ρ _ => some (ρ.set i d)
theorem gx_name {i : Nat} {x : Str} (hN : X.N.Nodup) (hi : X.N[i]? = some x) (hx : Loc X.env.scope x) (hf : X.fn x = true ∨ X.env.scope.names.lookup x = some .local) (hw : i < W.length := by decide) :
    GX X W (W.set i .sh) [i] (.Name x pos) (kName i) := PG.imp (pg_name hN hi hx hf) fun v σ H Q q => by
  obtain ⟨B, f, ρ, g, d, ρ', s, r, e, p⟩ := q
  cases e
  have := s.sr.lenW
  refine p _ _ _ ⟨by simp, fun j n => ?_⟩ (Ex.refl _ _) (s.set_sh (by omega) r)
  rw [List.getElem?_set_ne (fun z => n (by simp [z]))]
def kNil : KTs := fun ds ρ _ => match ds with | [] => some ρ | _ => none
def kCons (a : KT) (b : KTs) : KTs := fun ds ρ g => match ds with | d :: r => (a d ρ g).bind fun ρ' => b r ρ' g | [] => none
theorem gxs_nil : GXs X W W [] [] kNil := PGs.imp pgs_nil fun v σ H Q q => by
  obtain ⟨B, f, ρ, g, ds, ρ', s, r, e, p⟩ := q
  cases ds with
  | nil => cases r; cases e; exact ⟨rfl, p _ _ _ (Fix.refl _ _) (Ex.refl _ _) s⟩
  | cons d t => cases e
theorem gxs_cons {e : Expr} {es : List Expr} {a : KT} {b : KTs} (h : GX X W W1 T e a) (t : GXs X W1 Wn T' es b) (hs : (assignEach (e :: es) X.env).map (·.2) = assign e X.env :: (assignEach es X.env).map (·.2) := by rfl) :
    GXs X W Wn (T ++ T') (e :: es) (kCons a b) := PGs.imp (pgs_cons h t hs) fun vs σ H Q q => by
  obtain ⟨B, f, ρ, g, ds, ρ', s, r, e, p⟩ := q
  cases r with
  | nil => cases e
  | cons r1 rr =>
    rename_i d v ds' vs'
    have e : (a d ρ g).bind (fun ρ' => b ds' ρ' g) = some ρ' := e
    obtain ⟨ρ1, e1, e2⟩ := Option.bind_eq_some_iff.mp e
    refine ⟨v, vs', rfl, B, f, ρ, g, d, ρ1, s, r1, e1, fun σ' H' f' fx l s' => ?_⟩
    exact ⟨B, f', ρ1, g, ds', ρ', s', L2.Paired.mapP rr fun _ _ z => z.mono l.le, e2, fun σ2 H2 f2 fx2 l2 s2 => p σ2 H2 f2 (fx.trans fx2) (l.trans l2) s2⟩
def kTupT (n : Nat) (k : KTs) : KT := fun d ρ g => match d with | .tup ds => if ds.length = n then k ds ρ g else none | _ => none
theorem gx_tup {es : List Expr} {kk : Nat} {k : KTs} {n : Nat} (hc : X.calm = true) (h : GXs X W Wn T es k) (hn : (assignEach es X.env).length = n := by rfl) (hst : (assignEach es X.env).findIdx? (·.1) = none := by rfl) :
    GX X W Wn T (.Tuple es kk pos) (kTupT n k) := PG.imp (pg_tup hc h hn hst) fun v σ H Q q => by
  obtain ⟨B, f, ρ, g, d, ρ', s, r, e, p⟩ := q
  cases d with
  | tup ds =>
    simp only [kTupT] at e
    split at e
    · rename_i hl
      obtain ⟨a, vs, rfl, h1, h2⟩ := see_tup' s.hs r (g := g) rfl
      exact ⟨a, vs, rfl, h1, by rw [← PySem.Paired.length h2]; exact hl, B, f, ρ, g, ds, ρ', s, h2, e, p⟩
    · cases e
  | _ => cases e
end

/-! ### loops -/
def loopF (k : KT) (b : MS) : List D → List D → List D → RS
  | [], ρ, g => .nx ρ g
  | d :: ds, ρ, g => match k d ρ g with
    | none => .no
    | some ρ1 => match b ρ1 g with
      | .nx ρ' g' => loopF k b ds ρ' g'
      | .ct ρ' g' => loopF k b ds ρ' g'
      | .bk ρ' g' => .nx ρ' g'
      | .rt d g' => .rt d g'
      | .ro d g' => .ro d g'
      | .ex x g' => .ex x g'
      | .no => .no
def mFor (mi : M (List D)) (k : KT) (b : MS) : MS := fun ρ g => (mi ρ g).st fun ds g' => loopF k b ds ρ g'
def loopW (c : M Bool) (b : MS) : Nat → List D → List D → RS
  | 0, _, _ => .no
  | n + 1, ρ, g => (c ρ g).st fun t g' => if t = true then
      match b ρ g' with
      | .nx ρ' g2 => loopW c b n ρ' g2
      | .ct ρ' g2 => loopW c b n ρ' g2
      | .bk ρ' g2 => .nx ρ' g2
      | .rt d g2 => .rt d g2
      | .ro d g2 => .ro d g2
      | .ex x g2 => .ex x g2
      | .no => .no
    else .nx ρ g'
def FU : Nat := 1000000000000
def mWhile (c : M Bool) (b : MS) : MS := fun ρ g => loopW c b FU ρ g
section
variable {X : Cx} {E : XK} {WL W Wt Wn : List Kd} {pos : Pos}
theorem sx_for {T : List Nat} {tg iter : Expr} {body : List Stmt} {mi : M (List D)} {k : KT} {b : MS} (hp : PassesOwn (model X.prog X.w) X.A X.env X.xe) (hc : X.calm = true) (hi : IX X E W tg iter mi) (hg : GX X W Wt T tg k) (hb : BX X E W Wt body W b) (hw : Wle Wn W = true := by rfl) (hs : ∀ x, foldedSetIterable iter X.env x = pure x := by intro _; rfl) :
    SX X E WL W (.For tg iter body [] pos) Wn (mFor mi k b) := PS.imp (ps_for hp hc hi hg hb hs) fun N σ H q => by
  obtain ⟨B, f, ρ, g, s, p⟩ := q
  refine ⟨f, ρ, g, s.sr, s.hs, ?_⟩
  have p0 : postS (wd X) E B f WL Wn ((mi ρ g).st fun ds g' => loopF k b ds ρ g') N := p
  cases hr : mi ρ g with
  | ex x g' => rw [hr] at p0; exact pEx.ext p0 s.ex
  | no => rw [hr] at p0; exact p0
  | ok ds g' =>
    rw [hr] at p0
    have p1 : postS (wd X) E B f WL Wn (loopF k b ds ρ g') N := p0
    intro J H1 f1 ex1 hs1 it
    refine ⟨fun i m σ H => i + m = ds.length ∧ ∃ f ρ g, Le f1 f ∧ Ss (wd X) B W σ ρ H f g ∧ postS (wd X) E B f WL Wn (loopF k b (ds.drop i) ρ g) N, ⟨ds.length, by omega, f1, ρ, g', Le.refl _, s.ext ex1 hs1, postS.low p1 ex1.le⟩, ?_⟩
    rintro i m σ H ⟨hm, f, ρ, g, l, s, p⟩
    have hit := it H f g l s.hs i
    by_cases hi : i < ds.length
    · obtain ⟨hgo, hyl⟩ := hit.1 hi
      refine .inr ⟨hgo, fun σ' H' => ∃ m', m' < m ∧ i + 1 + m' = ds.length ∧ ∃ f ρ g, Le f1 f ∧ Ss (wd X) B W σ' ρ H' f g ∧ postS (wd X) E B f WL Wn (loopF k b (ds.drop (i + 1)) ρ g) N, fun σ' H' ⟨m', h1, h2, r⟩ => ⟨m', h1, h2, r⟩, fun x H2 hx => ?_⟩
      obtain ⟨f2, ex2, hs2, rx⟩ := hyl x H2 hx
      rw [List.drop_eq_getElem_cons hi] at p
      have hd : ds.getD i .non = ds[i] := by simp [List.getD_eq_getElem?_getD, hi]
      rw [hd] at rx
      simp only [loopF] at p
      cases hk : k ds[i] ρ g with
      | none => rw [hk] at p; exact p.elim
      | some ρ1 =>
        rw [hk] at p
        refine ⟨B, f2, ρ, g, _, ρ1, s.ext ex2 hs2, rx, hk, fun σ3 H3 f3 _ l3 s3 => ⟨B, f3, ρ1, g, s3, ?_⟩⟩
        have lf : Le f f3 := ex2.le.trans l3.le
        dsimp only at p
        cases hbd : b ρ1 g with
        | nx ρ' g' =>
          rw [hbd] at p
          intro σ4 H4 f4 l4 s4
          exact ⟨m - 1, by omega, by omega, f4, ρ', g', l.trans (lf.trans l4), s4, postS.low p (lf.trans l4)⟩
        | ct ρ' g' =>
          rw [hbd] at p
          intro σ4 H4 f4 l4 s4
          exact ⟨m - 1, by omega, by omega, f4, ρ', g', l.trans (lf.trans l4), s4, postS.low p (lf.trans l4)⟩
        | bk ρ' g' => rw [hbd] at p; exact fun σ4 H4 f4 l4 s4 => p σ4 H4 f4 (lf.trans l4) (s4.weak hw)
        | rt d g' => rw [hbd] at p; exact p
        | ro d g' => rw [hbd] at p; exact p
        | ex x g' => rw [hbd] at p; exact p
        | no => rw [hbd] at p; exact p
    · refine .inl ⟨hit.2 (by omega), ?_⟩
      rw [List.drop_eq_nil_of_le (by omega)] at p
      exact p σ H f (Le.refl f) (s.weak hw)
theorem sx_while {c : Expr} {body : List Stmt} {mc : M Bool} {b : MS} (hp : PassesOwn (model X.prog X.w) X.A X.env X.xe) (hc : TX X E W c mc) (hb : BX X E W W body W b) (hw : Wle Wn W = true := by rfl) :
    SX X E WL W (.While c body [] pos) Wn (mWhile mc b) := PS.imp (ps_while hp hc hb) fun N σ H q => by
  obtain ⟨B, f, ρ, g, s, p⟩ := q
  refine ⟨fun n σ H => ∃ f ρ g, Ss (wd X) B W σ ρ H f g ∧ postS (wd X) E B f WL Wn (loopW mc b n ρ g) N, ⟨FU, f, ρ, g, s, p⟩, ?_⟩
  rintro n σ H ⟨f, ρ, g, s, p⟩
  cases n with
  | zero => exact p.elim
  | succ n =>
    refine ⟨f, ρ, g, s.sr, s.hs, postS.bind s p fun t g' v H' f' l s' r p' => ?_⟩
    cases r
    cases t with
    | false => rw [if_neg (by decide)] at p' ⊢; exact p' σ H' f' (Le.refl _) (s'.weak hw)
    | true =>
      rw [if_pos rfl] at p' ⊢
      refine ⟨fun σ' H' => ∃ f ρ g, Ss (wd X) B W σ' ρ H' f g ∧ postS (wd X) E B f WL Wn (loopW mc b n ρ g) N, fun σ2 H2 h2 => ⟨n, by omega, h2⟩, B, f', ρ, g', s', ?_⟩
      cases hbd : b ρ g' with
      | nx ρ' g2 => rw [hbd] at p'; exact fun σ4 H4 f4 l4 s4 => ⟨f4, ρ', g2, s4, postS.low p' l4⟩
      | ct ρ' g2 => rw [hbd] at p'; exact fun σ4 H4 f4 l4 s4 => ⟨f4, ρ', g2, s4, postS.low p' l4⟩
      | bk ρ' g2 => rw [hbd] at p'; exact fun σ4 H4 f4 l4 s4 => p' σ4 H4 f4 l4 (s4.weak hw)
      | rt d g2 => rw [hbd] at p'; exact p'
      | ro d g2 => rw [hbd] at p'; exact p'
      | ex x g2 => rw [hbd] at p'; exact p'
      | no => rw [hbd] at p'; exact p'
end

/-! ### list comprehensions -/
def R.nox {α : Type} : R α → R α
  | .ok a g => .ok a g
  | _ => .no
/-- no exception leaves a comprehension -/
abbrev EN : XK := fun _ _ _ => False
def compL (k : KT) (c : M Bool) (e : M D) : List D → List D → List D → R (List D)
  | [], _, g => .ok [] g
  | d :: ds, ρ, g => match k d ρ g with
    | none => .no
    | some ρ1 => (c ρ1 g).nox.bind fun t g1 => if t = true then
        (e ρ1 g1).nox.bind fun y g2 => (compL k c e ds ρ g2).bind fun ys g3 => .ok (y :: ys) g3
      else compL k c e ds ρ g1
def mComp (mi : M (List D)) (k : KT) (c : M Bool) (e : M D) : M D := fun ρ g => (mi ρ g).bind fun ds g' => (compL k c e ds ρ g').bind kList
def mYes : M Bool := fun _ g => .ok true g
theorem post_nox {α β : Type} {rel : Hp → Fz → α → β → Prop} {Z : Wd} {H : Hp} {f : Fz} {r : R α} {Q : β → Hp → Prop} (h : ∀ a g, r = .ok a g → ∀ v H' f', Ex H f H' f' → Hs Z H' f' g → rel H' f' a v → Q v H') (hr : r.nox ≠ .no) : post rel Z EN H f r Q := by
  cases r with
  | ok a g => exact h a g rfl
  | ex x g => exact absurd rfl hr
  | no => exact absurd rfl hr
theorem R.bind_ok {α β : Type} {r : R α} {k : α → List D → R β} : r.bind k = .no ∨ (∃ x g, r = .ex x g ∧ r.bind k = .ex x g) ∨ ∃ a g, r = .ok a g ∧ r.bind k = k a g := by
  cases r with
  | ok a g => exact .inr (.inr ⟨a, g, rfl, rfl⟩)
  | ex x g => exact .inr (.inl ⟨x, g, rfl, rfl⟩)
  | no => exact .inl rfl
theorem compL_nox {k : KT} {c : M Bool} {e : M D} : ∀ {ds : List D} {ρ g : List D} {x : Exc} {g' : List D}, compL k c e ds ρ g ≠ .ex x g'
  | [], ρ, g, x, g', h => by simp [compL] at h
  | d :: ds, ρ, g, x, g', h => by
    simp only [compL] at h
    cases hk : k d ρ g with
    | none => rw [hk] at h; cases h
    | some ρ1 =>
      rw [hk] at h
      dsimp only at h
      cases hc : c ρ1 g with
      | ok t g1 =>
        rw [hc] at h
        simp only [R.nox, R.bind] at h
        cases t with
        | false => rw [if_neg (by decide)] at h; exact compL_nox h
        | true =>
          rw [if_pos rfl] at h
          cases he : e ρ1 g1 with
          | ok y g2 =>
            rw [he] at h
            simp only [R.nox, R.bind] at h
            cases hr : compL k c e ds ρ g2 with
            | ok a g3 => rw [hr] at h; cases h
            | ex x' g3 => exact compL_nox hr
            | no => rw [hr] at h; cases h
          | ex _ _ => rw [he] at h; cases h
          | no => rw [he] at h; cases h
      | ex _ _ => rw [hc] at h; cases h
      | no => rw [hc] at h; cases h

/-- the kinds within: the block's own slots unset -/
def Wwipe (W : List Kd) : List Nat → List Kd
  | [] => W
  | v :: vs => (Wwipe W vs).set v .un
theorem wipe_sr {Z : Wd} {W : List Kd} {σ : L2.St} {ρ : List D} {H : Hp} {f : Fz} (s : Sr Z W σ ρ H f) : ∀ vs : List Nat, Sr Z (Wwipe W vs) (wipe σ vs) ρ H f
  | [] => s
  | v :: vs => by
    have t := wipe_sr s vs
    unfold Wwipe wipe
    refine ⟨by simpa using t.len, by simpa using t.lenW, fun i k h => ?_, fun i j a h1 h2 e1 e2 => ?_⟩
    · rcases W_set h with ⟨_, rfl⟩ | ⟨n, h⟩
      · trivial
      · rw [List.getElem?_set_ne n]; exact t.slot i k h
    · rcases W_set h1 with ⟨_, q⟩ | ⟨n1, h1⟩
      · cases q
      · rcases W_set h2 with ⟨_, q⟩ | ⟨n2, h2⟩
        · cases q
        · rw [List.getElem?_set_ne n1] at e1
          rw [List.getElem?_set_ne n2] at e2
          exact t.sep i j a h1 h2 e1 e2
theorem wipe_get {σ : L2.St} : ∀ {vs : List Nat} {i : Nat}, (wipe σ vs)[i]? = if i ∈ vs then (if i < σ.length then some none else none) else σ[i]?
  | [], i => by simp [wipe]
  | v :: vs, i => by
    unfold wipe
    rw [List.getElem?_set, wipe_length]
    by_cases h : v = i
    · subst h; simp
    · rw [if_neg h, wipe_get (vs := vs) (i := i)]
      have : i ≠ v := fun z => h z.symm
      simp [this]
theorem wipe_fix {σ σ' : L2.St} {T vs : List Nat} (h : Fix T σ σ') (hs : ∀ i ∈ T, i ∈ vs) : wipe σ' vs = wipe σ vs := by
  refine List.ext_getElem? fun i => ?_
  rw [wipe_get, wipe_get, h.1]
  split
  · rfl
  · rename_i n
    exact h.2 i fun z => n (hs i z)
theorem wipe_wipe (σ : L2.St) (vs : List Nat) : wipe (wipe σ vs) vs = wipe σ vs := by
  refine List.ext_getElem? fun i => ?_
  rw [wipe_get, wipe_length, wipe_get]
  split <;> rfl
/-- the empty base -/
def B0 : Bs := ⟨fun _ => none, ⟨fun _ => none, []⟩, none⟩
theorem ss0 {Z : Wd} {W : List Kd} {σ : L2.St} {ρ : List D} {H : Hp} {f : Fz} {g : List D} (s : Sr Z W σ ρ H f) (hs : Hs Z H f g) : Ss Z B0 W σ ρ H f g :=
  ⟨s, hs, ⟨⟨fun _ _ h => (nomatch h), fun i a h => by simp [B0] at h⟩, fun _ _ h => (nomatch h)⟩, fun _ _ _ _ => New.of rfl, fun _ h => (nomatch h)⟩
def TX' (X : Cx) (E : XK) (W : List Kd) (ifs : List Expr) (m : M Bool) : Prop := PTs X ifs (tT (wd X) E W m)
theorem PTs.imp {X : Cx} {e : List Expr} {t t' : TT} (h : PTs X e t) (i : ∀ σ H Q, t' σ H Q → t σ H Q) : PTs X e t' := ⟨fun pins s σ H Q I q => h.run pins s σ H Q I (i σ H Q q)⟩
theorem tx_yes {X : Cx} {E : XK} {W : List Kd} : TX' X E W [] mYes := PTs.imp pts_nil fun σ H Q q => by
  obtain ⟨f, ρ, g, s, hs, p⟩ := q
  exact p true H f (Ex.refl _ _) hs rfl
theorem tx_one {X : Cx} {E : XK} {W : List Kd} {c : Expr} {m : M Bool} (h : TX X E W c m) : TX' X E W [c] m := pts_one h

/-- an object that is neither frozen nor hot nor owned by a slot changes -/
theorem hs_upd {Z : Wd} {H : Hp} {f : Fz} {g : List D} {a : Addr} {o : HO} (hs : Hs Z H f g) (hF : f.F a = none) (hn : a ∉ f.e) (hc : ∀ u, H a = some u → ctB u = true) : Hs Z (upd H a o) f g :=
  ⟨fun b u e => by rw [upd_ne (fun z => by subst z; rw [hF] at e; cases e)]; exact hs.fr b u e, hs.nt, tabs_upd hs.tab hc, hs.len, fun b hb => by
    obtain ⟨u, e, nt⟩ := hs.lv b hb
    exact ⟨u, by rw [upd_ne (fun z => by subst z; exact hn hb)]; exact e, nt⟩, fun j x hx nd => by
    obtain ⟨b, u, e1, e2, e3, e4⟩ := hs.hot j x hx nd
    have hb : b ≠ a := fun z => by subst z; exact hn (List.mem_of_getElem? e1)
    exact ⟨b, u, e1, e2, by rw [upd_ne hb]; exact e3, e4⟩, hs.nd⟩
theorem ex_upd {H H' : Hp} {f f' : Fz} {a : Addr} {o : HO} (e : Ex H f H' f') (h : New H a) : Ex H f (upd H' a o) f' :=
  ⟨e.le, fun b u hb nt n => by
    obtain ⟨h1, h2, h3⟩ := e.keep b u hb nt n
    exact ⟨by rw [upd_ne (h.ne hb nt)]; exact h1, h2, h3⟩⟩
theorem sr_upd {Z : Wd} {W : List Kd} {σ : L2.St} {ρ : List D} {H : Hp} {f : Fz} {a : Addr} {o : HO} (s : Sr Z W σ ρ H f) (h : ∀ (i : Nat) (b : Addr), (W[i]? = some .ow ∨ W[i]? = some .lk) → σ[i]? = some (some (.ref b)) → b ≠ a) : Sr Z W σ ρ (upd H a o) f :=
  ⟨s.len, s.lenW, fun i k e => by
    have q := s.slot i k e
    cases k with
    | un => trivial
    | sh => exact q
    | ow =>
      obtain ⟨b, u, e1, e2, e3, e4, e5⟩ := q
      exact ⟨b, u, e1, e2, e3, by rw [upd_ne (h i b (.inl e) e1)]; exact e4, e5⟩
    | lk =>
      obtain ⟨b, u, e1, e2, e3, e4, e5⟩ := q
      exact ⟨b, u, e1, e2, e3, by rw [upd_ne (h i b (.inr e) e1)]; exact e4, e5⟩, s.sep⟩
/-- what a comprehension's loop wants: behind ds, with acc made -/
def compWish (Z : Wd) (E : XK) (H0 : Hp) (f0 : Fz) (k : KT) (c : M Bool) (e : M D) (Dd : Addr) (Q : VK) (ds : List D) (ρ : List D) (acc : List D) (H : Hp) (f : Fz) (g : List D) : Prop :=
  Ex H0 f0 H f ∧ Hs Z H f g ∧ f.F Dd = none ∧ Dd ∉ f.e ∧ (∃ vs, H Dd = some (.lst vs) ∧ Paired (Rp Z f) acc vs) ∧ postF Z E H0 f0 ((compL k c e ds ρ g).bind fun ys g' => kList (acc ++ ys) g') Q
theorem lc_run {Z : Wd} {E : XK} {W Wt : List Kd} {T vs : List Nat} {k : KT} {c : M Bool} {e : M D} {wi : TI} {g0 : TG} {tt : TT} {te : TE} {mi : M (List D)} {σ : L2.St} {H : Hp} {Q : VK} (hT : ∀ i ∈ T, i ∈ vs)
    (hi : ∀ σ H R, tIp Z E W mi σ H R → wi σ H R) (hg : ∀ v σ H Q, tGt Z (Wwipe W vs) Wt T k v σ H Q → g0 v σ H Q) (ht : ∀ σ H Q, tT Z EN Wt c σ H Q → tt σ H Q) (he : ∀ σ H Q, tE Z EN Wt e σ H Q → te σ H Q)
    (q : tF Z E W (mComp mi k c e) σ H Q) : tLc wi g0 tt te vs σ H Q := by
  obtain ⟨f, ρ, g, s, hs, p⟩ := q
  refine hi _ _ _ ⟨f, ρ, g, s, hs, ?_⟩
  have p0 : postF Z E H f ((mi ρ g).bind fun ds g' => (compL k c e ds ρ g').bind kList) Q := p
  cases hr : mi ρ g with
  | ex x g' => rw [hr] at p0; exact p0
  | no => rw [hr] at p0; exact p0
  | ok ds g1 =>
    rw [hr] at p0
    have p1 : postF Z E H f ((compL k c e ds ρ g1).bind kList) Q := p0
    intro J H1 f1 ex1 hs1 it Dd hD
    have s1 := s.ext ex1
    have n1 := hs1.free hD
    have hD0 : New H Dd := new_back ex1 (New.of hD) n1.2
    have hown : ∀ (i : Nat) (b : Addr), (W[i]? = some .ow ∨ W[i]? = some .lk) → σ[i]? = some (some (.ref b)) → b ≠ Dd := fun i b h1 h2 => by
      rcases h1 with h1 | h1
      · obtain ⟨b', o', e1, _, _, h, _⟩ := s1.slot i .ow h1
        rw [h2] at e1; cases e1
        exact ne_of_none h hD
      · obtain ⟨b', o', e1, _, _, h, _⟩ := s1.slot i .lk h1
        rw [h2] at e1; cases e1
        exact ne_of_none h hD
    refine ⟨fun i m H' => i + m = ds.length ∧ ∃ f' g' acc, Le f1 f' ∧ Sr Z W σ ρ H' f' ∧ compWish Z E H f k c e Dd Q (ds.drop i) ρ acc H' f' g',
      ⟨ds.length, by omega, f1, g1, [], Le.refl _, s1.ext (Ex.laid hs1 hD), ex1.trans (Ex.laid hs1 hD), hs1.laid hD, n1.1, n1.2, ⟨[], upd_same, .nil⟩, ?_⟩, ?_⟩
    · simpa using p1
    rintro i m H2 ⟨hm, f2, g2, acc, l2, s2, ex2, hs2, nF, nh, ⟨vs2, hDl, hacc⟩, p2⟩
    have hit := it H2 f2 g2 l2 ex2 hs2 i
    by_cases hlt : i < ds.length
    · obtain ⟨hgo, hyl⟩ := hit.1 hlt
      refine .inr ⟨hgo, fun H' => ∃ m', m' < m ∧ i + 1 + m' = ds.length ∧ ∃ f' g' acc, Le f1 f' ∧ Sr Z W σ ρ H' f' ∧ compWish Z E H f k c e Dd Q (ds.drop (i + 1)) ρ acc H' f' g', fun H' ⟨m', a1, a2, r⟩ => ⟨m', a1, a2, r⟩, fun x H3 hx => ?_⟩
      obtain ⟨f3, ex3, hs3, rx⟩ := hyl x H3 hx
      have hd : ds.getD i .non = ds[i] := by simp [List.getD_eq_getElem?_getD, hlt]
      rw [hd] at rx
      rw [List.drop_eq_getElem_cons hlt] at p2
      simp only [compL] at p2
      have s3 := s2.ext ex3
      have kD3 := ex3.keep Dd _ hDl (ctB_nt rfl) nh
      cases hk : k ds[i] ρ g2 with
      | none => rw [hk] at p2; exact p2.elim
      | some ρ1 =>
        rw [hk] at p2
        dsimp only at p2
        refine hg _ _ _ _ ⟨B0, f3, ρ, g2, _, ρ1, ss0 (wipe_sr s3 vs) hs3, rx, hk, fun σ4 H4 f4 fx4 ex4 s4 => ⟨(wipe_fix fx4 hT).trans (wipe_wipe σ vs), ?_⟩⟩
        have exA := (ex2.trans ex3).trans ex4
        have lA : Le f1 f4 := l2.trans (ex3.le.trans ex4.le)
        have srA := s3.ext ex4
        obtain ⟨hD4, nF4, nh4⟩ := ex4.keep Dd _ kD3.1 (ctB_nt rfl) kD3.2.2
        have nF4 := nF4 rfl (kD3.2.1 rfl nF)
        have hacc4 := L2.Paired.mapP hacc fun _ _ z => z.mono (ex3.le.trans ex4.le)
        -- the test
        refine ht _ _ _ ⟨f4, ρ1, g2, s4.sr, s4.hs, ?_⟩
        cases hc : c ρ1 g2 with
        | ex x' g' => rw [hc] at p2; exact p2.elim
        | no => rw [hc] at p2; exact p2.elim
        | ok t g3 =>
          rw [hc] at p2
          simp only [R.nox, R.bind] at p2
          intro b H5 f5 ex5 hs5 hb
          cases hb
          obtain ⟨hD5, nF5, nh5⟩ := ex5.keep Dd _ hD4 (ctB_nt rfl) nh4
          have nF5 := nF5 rfl nF4
          have hacc5 := L2.Paired.mapP hacc4 fun _ _ z => z.mono ex5.le
          cases t with
          | false =>
            rw [if_neg (by decide)] at p2 ⊢
            exact ⟨m - 1, by omega, by omega, f5, g3, acc, lA.trans ex5.le, srA.ext ex5, exA.trans ex5, hs5, nF5, nh5, ⟨_, hD5, hacc5⟩, p2⟩
          | true =>
            rw [if_pos rfl] at p2 ⊢
            refine he _ _ _ ⟨f5, ρ1, g3, s4.sr.ext ex5, hs5, ?_⟩
            cases hee : e ρ1 g3 with
            | ex x' g' => rw [hee] at p2; exact p2.elim
            | no => rw [hee] at p2; exact p2.elim
            | ok y g4 =>
              rw [hee] at p2
              simp only [R.nox, R.bind] at p2
              intro v H6 f6 ex6 hs6 rv
              obtain ⟨hD6, nF6, nh6⟩ := ex6.keep Dd _ hD5 (ctB_nt rfl) nh5
              have nF6 := nF6 rfl nF5
              have hacc6 := L2.Paired.mapP hacc5 fun _ _ z => z.mono ex6.le
              -- what is behind
              have p3 : postF Z E H f ((compL k c e (ds.drop (i + 1)) ρ g4).bind fun ys g' => kList ((acc ++ [y]) ++ ys) g') Q := by
                cases hrest : compL k c e (ds.drop (i + 1)) ρ g4 with
                | ok ys g5 =>
                  rw [hrest] at p2
                  show postF Z E H f (kList ((acc ++ [y]) ++ ys) g5) Q
                  rw [List.append_assoc]
                  exact p2
                | ex x' g5 => exact absurd hrest compL_nox
                | no => rw [hrest] at p2; exact p2.elim
              have hlen : acc.length < 16777216 := by
                cases hrest : compL k c e (ds.drop (i + 1)) ρ g4 with
                | ok ys g5 =>
                  rw [hrest] at p3
                  simp only [R.bind, kList] at p3
                  split at p3
                  · rename_i z; simp at z; omega
                  · exact p3.elim
                | ex x' g5 => exact absurd hrest compL_nox
                | no => rw [hrest] at p3; exact p3.elim
              have hla := PySem.Paired.length hacc6
              refine ⟨_, hD6, by rw [sl_eq]; omega, m - 1, by omega, by omega, f6, g4, acc ++ [y], (lA.trans ex5.le).trans ex6.le, ?_⟩
              exact ⟨sr_upd ((srA.ext ex5).ext ex6) hown, ex_upd ((exA.trans ex5).trans ex6) hD0, hs_upd hs6 nF6 nh6 (fun u e => by rw [hD6] at e; cases e; rfl), nF6, nh6, ⟨_, upd_same, pd_app hacc6 (.cons rv .nil)⟩, p3⟩
    · refine .inl ⟨hit.2 (by omega), ?_⟩
      rw [List.drop_eq_nil_of_le (by omega)] at p2
      simp only [compL, R.bind, List.append_nil] at p2
      unfold kList at p2
      split at p2
      · exact p2 Dd (.lst vs2) H2 f2 ex2 hs2 ⟨hD0, hDl, nF, nh, hacc, rfl⟩
      · exact p2.elim
section
variable {X : Cx} {E : XK} {WL W Wt Wn : List Kd} {T : List Nat} {pos : Pos}
theorem fx_lc {elt tg iter : Expr} {ifs : List Expr} {scope : Scope} {own : List (Str × Nat)} {mi : M (List D)} {k : KT} {c : M Bool} {e : M D} (hc : X.calm = true) (hN : X.N.Nodup) (hi : JX X E W tg iter mi) (ok : BlkOk X.N X.env.scope scope own) (hT : ∀ i ∈ T, i ∈ own.map (·.2))
    (hg : ∀ (s : Shared) (H : Hp) (C : Addr) (cl : List (Str × Addr)) (fp : List Addr), GX (X.blk s H scope (compEnvC scope cl C X.env) fp) (Wwipe W (own.map (·.2))) Wt T tg k)
    (ht : ∀ (s : Shared) (H : Hp) (C : Addr) (cl : List (Str × Addr)) (fp : List Addr), TX' (X.blk s H scope (compEnvC scope cl C X.env) fp) EN Wt ifs c)
    (he : ∀ (s : Shared) (H : Hp) (C : Addr) (cl : List (Str × Addr)) (fp : List Addr), PX (X.blk s H scope (compEnvC scope cl C X.env) fp) EN Wt elt e) (hs : ∀ x, foldedSetIterable iter X.env x = pure x := by intro _; rfl) :
    FX X E W (.ListComp elt [⟨tg, iter, ifs, 0⟩] scope pos) (mComp mi k c e) :=
  PE.imp (pe_lc (g := tGt (wd X) (Wwipe W (own.map fun (q : Str × Nat) => q.2)) Wt T k) (tt := tT (wd X) EN Wt c) (te := tE (wd X) EN Wt e) hc hN hi ok (fun s H C cl fp => hg s H C cl fp) (fun s H C cl fp => ht s H C cl fp) (fun s H C cl fp => he s H C cl fp) hs) fun σ H Q q =>
    lc_run hT (fun _ _ _ h => h) (fun _ _ _ _ h => h) (fun _ _ _ h => h) (fun _ _ _ h => h) q
/-- name = [..] on one line -/
theorem ps_lcset {i : Nat} {y : Str} {py : Pos} {elt tg iter : Expr} {ifs : List Expr} {scope : Scope} {own : List (Str × Nat)} {spos : Pos} {mi : M (List D)} {k : KT} {c : M Bool} {e : M D} (hc : X.calm = true) (hN : X.N.Nodup) (hy : X.N[i]? = some y) (hyl : X.env.scope.names.lookup y = some .local)
    (hsw : swapsWith (.ListComp elt [⟨tg, iter, ifs, 0⟩] scope pos) (some (.Name y py)) spos.line X.env = pure true) (hi : JX X E W tg iter mi) (ok : BlkOk X.N X.env.scope scope own) (hT : ∀ i ∈ T, i ∈ own.map (·.2))
    (hg : ∀ (s : Shared) (H : Hp) (C : Addr) (cl : List (Str × Addr)) (fp : List Addr), GX (X.blk s H scope (compEnvC scope cl C X.env) fp) (Wwipe W (own.map (·.2))) Wt T tg k)
    (ht : ∀ (s : Shared) (H : Hp) (C : Addr) (cl : List (Str × Addr)) (fp : List Addr), TX' (X.blk s H scope (compEnvC scope cl C X.env) fp) EN Wt ifs c)
    (he : ∀ (s : Shared) (H : Hp) (C : Addr) (cl : List (Str × Addr)) (fp : List Addr), PX (X.blk s H scope (compEnvC scope cl C X.env) fp) EN Wt elt e) (hs : ∀ x, foldedSetIterable iter X.env x = pure x := by intro _; rfl) :
    PS X (.Assign [.Name y py] (.ListComp elt [⟨tg, iter, ifs, 0⟩] scope pos) spos) (tAsg (tF (wd X) E W (mComp mi k c e)) (gName i)) :=
  PS.imp (ps_setLc (g := tGt (wd X) (Wwipe W (own.map fun (q : Str × Nat) => q.2)) Wt T k) (tt := tT (wd X) EN Wt c) (te := tE (wd X) EN Wt e) hc hN hy hyl hsw hi ok (fun s H C cl fp => hg s H C cl fp) (fun s H C cl fp => ht s H C cl fp) (fun s H C cl fp => he s H C cl fp) hs) fun N σ H q =>
    lc_run hT (fun _ _ _ h => h) (fun _ _ _ _ h => h) (fun _ _ _ h => h) (fun _ _ _ h => h) q
end
end TL
end

section
set_option Elab.async false
set_option linter.all false
set_option autoImplicit false
set_option maxRecDepth 100000
/-! TL, part f: defs, calls, what is known where a body runs -/
namespace TL
open PySem PySem.Spec PyProof.Rows L2
variable [TabL]

/-! ### names -/
def visB (sc : Scope) (x : Str) : Bool := match sc.names.lookup x with
  | some .local => true | some .cell => true | some .free => true | _ => false
def locB (df : Bool) (sc : Scope) (x : Str) : Bool := match sc.names.lookup x with
  | some .local => true | some .cell => df | _ => false
def glB (sc : Scope) (x : Str) : Bool := match sc.names.lookup x with
  | some .globalImplicit => true | _ => false
def scOk (sc : Scope) : Bool := sc.names.all fun p => decide (p.1 ≠ "__debug__") && decide (p.1 ≠ "__classdict__") && decide (p.1 ≠ "__name__")
theorem vis_of {sc : Scope} {x : Str} (h : visB sc x = true) : Vis sc x := by
  unfold visB at h
  unfold Vis
  split at h <;> simp_all
theorem lookup_mem {α : Type} {l : List (Str × α)} {x : Str} {k : α} (h : l.lookup x = some k) : (x, k) ∈ l := PySem.mem_of_lookup h
theorem names_ok {sc : Scope} {x : Str} {k : NameKind} (h : scOk sc = true) (e : sc.names.lookup x = some k) : x ≠ "__debug__" ∧ x ≠ "__classdict__" ∧ x ≠ "__name__" := by
  unfold scOk at h
  have q := List.all_eq_true.mp h _ (lookup_mem e)
  simp only [Bool.and_eq_true, decide_eq_true_eq] at q
  exact ⟨q.1.1, q.1.2, q.2⟩
theorem bne_of {x y : Str} (h : x ≠ y) : (x == y) = false := by simpa using h

/-- what is known where code runs -/
structure Gd (X : Cx) (E : XK) (sc : Scope) (N : List Str) (k : Nat) (df : Bool) : Prop where
  N_ : X.N = N
  sc_ : X.env.scope = sc
  nd : X.N.Nodup
  calm : X.calm = true
  room : Room k X.A
  pass : Passes (L2.CX X.prog X.w) X E
  own : PassesOwn (model X.prog X.w) X.A X.env X.xe
  takes : Takes X (fun cls d _ H => E cls d H)
  fn : df = true → ∀ x, X.fn x = true
  ok : scOk sc = true
section
variable {X : Cx} {E : XK} {sc : Scope} {N : List Str} {k : Nat} {df : Bool} {WL W Wn : List Kd} {pos : Pos}
theorem px_var (G : Gd X E sc N k df) (i : Nat) {x : Str} (hN : N[i]? = some x := by rfl) (hv : visB sc x = true := by rfl) (hk : W[i]? = some .sh := by rfl) : PX X E W (.Name x pos) (mVar i) := by
  have hv' := vis_of hv
  obtain ⟨kk, hkk⟩ : ∃ kk, sc.names.lookup x = some kk := by
    rcases hv' with h | h | h <;> exact ⟨_, h⟩
  have nm := names_ok G.ok hkk
  exact px_var' (pe_var (by rw [G.N_]; exact hN) (by rw [G.sc_]; exact hv') (bne_of nm.1) (bne_of nm.2.1)) hk
theorem vx_own (G : Gd X E sc N k df) (i : Nat) {x : Str} (hN : N[i]? = some x := by rfl) (hv : visB sc x = true := by rfl) (hk : W[i]? = some .ow := by rfl) : VX X E W (.Name x pos) (mVar i) := by
  have hv' := vis_of hv
  obtain ⟨kk, hkk⟩ : ∃ kk, sc.names.lookup x = some kk := by
    rcases hv' with h | h | h <;> exact ⟨_, h⟩
  have nm := names_ok G.ok hkk
  exact vx_own' (pe_var (by rw [G.N_]; exact hN) (by rw [G.sc_]; exact hv') (bne_of nm.1) (bne_of nm.2.1)) hk
theorem Gd.name (G : Gd X E sc N k df) (i : Nat) {x : Str} (hN : N[i]? = some x) (hv : visB sc x = true) : PE X (.Name x pos) (tVar i) := by
  have hv' := vis_of hv
  obtain ⟨kk, hkk⟩ : ∃ kk, sc.names.lookup x = some kk := by
    rcases hv' with h | h | h <;> exact ⟨_, h⟩
  have nm := names_ok G.ok hkk
  exact pe_var (by rw [G.N_]; exact hN) (by rw [G.sc_]; exact hv') (bne_of nm.1) (bne_of nm.2.1)
theorem vx_lk (G : Gd X E sc N k df) (i : Nat) {x : Str} (hN : N[i]? = some x := by rfl) (hv : visB sc x = true := by rfl) (hk : W[i]? = some .lk := by rfl) : VX X E W (.Name x pos) (mVar i) := vx_lk' (G.name i hN hv) hk
theorem jx_lk (G : Gd X E sc N k df) (i : Nat) {tg : Expr} {x : Str} (hN : N[i]? = some x := by rfl) (hv : visB sc x = true := by rfl) (hk : W[i]? = some .lk := by rfl) : JX X E W tg (.Name x pos) (mIter (mVar i)) := jx_lk' (G.name i hN hv) hk
theorem sx_retO (G : Gd X E sc N k df) (i : Nat) {x : Str} {p : Pos} (hN : N[i]? = some x := by rfl) (hv : visB sc x = true := by rfl) (hk : W[i]? = some .ow := by rfl) : SX X E WL W (.Return (some (.Name x p)) pos) Wn (mRetO i) := sx_retO' (G.name i hN hv) hk
theorem Gd.loc (G : Gd X E sc N k df) {x : Str} (h : locB df sc x = true) : Loc X.env.scope x ∧ (X.fn x = true ∨ X.env.scope.names.lookup x = some .local) := by
  rw [G.sc_]
  unfold locB at h
  split at h
  · rename_i e; exact ⟨.inl e, .inr e⟩
  · rename_i e; exact ⟨.inr e, .inl (G.fn h x)⟩
  · cases h
theorem Gd.gl (G : Gd X E sc N k df) {x : Str} (h : glB sc x = true) : Gl X x ∧ (x == ("__debug__" : Str)) = false ∧ x ≠ "__name__" := by
  unfold glB at h
  split at h
  · rename_i e
    have nm := names_ok G.ok e
    refine ⟨?_, bne_of nm.1, nm.2.2⟩
    show X.env.scope.names.lookup x = _
    rw [G.sc_]; exact e
  · cases h
theorem scope_of {α : Type} {e : Env} {sc : Scope} {F : Env → α} {v : α} (h : e.scope = sc) (q : ∀ l g c qu f cd fr b, F ⟨sc, l, g, c, qu, f, cd, fr, b⟩ = v) : F e = v := by
  cases e
  cases h
  exact q _ _ _ _ _ _ _ _
theorem sx_let (G : Gd X E sc N k df) (i : Nat) {x : Str} {e : Expr} {m : M D} {pos' : Pos} (he : PX X E W e m) (hN : N[i]? = some x := by rfl) (hl : locB df sc x = true := by rfl) (hi : i < W.length := by decide) (hw : Wle Wn (W.set i .sh) = true := by rfl)
    (hs : ∀ l g c qu f cd fr b, swapsWith e (some (.Name x pos')) pos.line ⟨sc, l, g, c, qu, f, cd, fr, b⟩ = pure false := by intros; rfl) : SX X E WL W (.Assign [.Name x pos'] e pos) Wn (mSet i m) :=
  sx_set he G.nd (by rw [G.N_]; exact hN) (G.loc hl).1 (G.loc hl).2 hi hw (scope_of (F := fun en => swapsWith e (some (.Name x pos')) pos.line en) G.sc_ hs)
theorem sx_new (G : Gd X E sc N k df) (i : Nat) {x : Str} {e : Expr} {m : M D} {pos' : Pos} (he : FX X E W e m) (hN : N[i]? = some x := by rfl) (hl : locB df sc x = true := by rfl) (hi : i < W.length := by decide) (i0 : 0 < i := by decide) (hw : Wle Wn (W.set i .ow) = true := by rfl)
    (hs : ∀ l g c qu f cd fr b, swapsWith e (some (.Name x pos')) pos.line ⟨sc, l, g, c, qu, f, cd, fr, b⟩ = pure false := by intros; rfl) : SX X E WL W (.Assign [.Name x pos'] e pos) Wn (mSet i m) :=
  sx_own he G.nd (by rw [G.N_]; exact hN) (G.loc hl).1 (G.loc hl).2 hi i0 hw (scope_of (F := fun en => swapsWith e (some (.Name x pos')) pos.line en) G.sc_ hs)
theorem gx_nm (G : Gd X E sc N k df) (i : Nat) {x : Str} (hN : N[i]? = some x := by rfl) (hl : locB df sc x = true := by rfl) (hi : i < W.length := by decide) : GX X W (W.set i .sh) [i] (.Name x pos) (kName i) :=
  gx_name G.nd (by rw [G.N_]; exact hN) (G.loc hl).1 (G.loc hl).2 hi
end

/-! ### defs -/
/-- a def's mirror: arguments, hot things -/
abbrev MF := List D → List D → R D
def spT (Z : Wd) (n : Nat) (m : MF) : Sp := fun vs H Q E => ∃ f ds g, ds.length = n ∧ Paired (Rp Z f) ds vs ∧ Hs Z H f g ∧ post (relD Z) Z E H f (m ds g) Q
/-- .. of a def that hands back a new container -/
def spF (Z : Wd) (n : Nat) (m : MF) : Sp := fun vs H Q E => ∃ f ds g, ds.length = n ∧ Paired (Rp Z f) ds vs ∧ Hs Z H f g ∧ postF Z E H f (m ds g) Q
def RS.fn : RS → R D
  | .nx _ g => .ok .non g
  | .rt d g => .ok d g
  | .ex x g => .ex x g
  | _ => .no
def RS.fnF : RS → R D
  | .ro d g => .ok d g
  | .ex x g => .ex x g
  | _ => .no
def mFnF (n : Nat) (b : MS) : MF := fun ds g => (b (ds ++ List.replicate n .non) g).fnF
def mFn (n : Nat) (b : MS) : MF := fun ds g => (b (ds ++ List.replicate n .non) g).fn
def W0 (p n : Nat) : List Kd := List.replicate p .sh ++ List.replicate n .un
section
variable {P : Program} {w : World} {K : PySem.W.Frag} {mg : Str → Option Value} {base : Heap}
theorem gd_of {qual : Str} {st : Stmt} {sc : Scope} {N ps : List Str} {k : Nat} {f : Addr} {cdv : Value} {A : Around} {outer : List Env} {s : Shared} {H : Hp} {E : XK} (hsc : defScope st = sc) (S : FnScope N ps (defScope st)) (hs : scOk sc = true)
    (hr : Room k (A.deeper (envOfC qual (defScope st) s.heap.objs.size f cdv))) : Gd (cxOf (L2.CX P w) P w K mg base N qual (defScope st) f cdv A outer s H E) E sc N k true := by
  have tk : Takes (cxOf (L2.CX P w) P w K mg base N qual (defScope st) f cdv A outer s H E) (fun cls d _ H => E cls d H) := takes_of rfl rfl rfl rfl
  exact ⟨rfl, hsc, S.nd, rfl, hr, passes_call tk fun _ _ _ _ h => h, passes_of rfl, tk, fun _ _ => rfl, hs⟩
theorem start_ss {Z : Wd} {N : List Str} {vs : List V} {ds g : List D} {H : Hp} {f' : Fz} {p n : Nat} (hn : N.length = p + n) (h1 : ds.length = p) (h2 : Paired (Rp Z f') ds vs) (h3 : Hs Z H f' g) :
    Ss Z ⟨H, f', none⟩ (W0 p n) (L2.start N vs) (ds ++ List.replicate n .non) H f' g := by
  have hl := PySem.Paired.length h2
  have hst : L2.start N vs = vs.map some ++ List.replicate n none := by
    unfold L2.start
    have e : N.length - vs.length = n := by omega
    rw [e]
  have nok : ∀ (i : Nat) (k : Kd), (W0 p n)[i]? = some k → k = .sh ∨ k = .un := fun i k e => by
    have := List.mem_of_getElem? e
    unfold W0 at this
    rcases List.mem_append.mp this with z | z
    · exact .inl (List.mem_replicate.mp z).2
    · exact .inr (List.mem_replicate.mp z).2
  refine ⟨⟨?_, ?_, fun i kd hk => ?_, fun i j a e1 => ?_⟩, h3, Ex.refl _ _, fun i a e1 => ?_, fun _ h => (nomatch h)⟩
  · rw [hst]; simp [hl]
  · rw [hst]; unfold W0; simp; omega
  · unfold W0 at hk
    by_cases hi : i < p
    · rw [List.getElem?_append_left (by simpa using hi), List.getElem?_replicate_of_lt hi] at hk
      cases hk
      obtain ⟨y, e1, e2⟩ := getD_pd h2 (i := i) (by omega) .non
      refine ⟨y, ?_, ?_⟩
      · rw [hst, List.getElem?_append_left (by simp; omega)]
        simp [e1]
      · rw [List.getD_eq_getElem?_getD, List.getElem?_append_left (by omega), ← List.getD_eq_getElem?_getD]
        exact e2
    · rw [List.getElem?_append_right (by simpa using hi)] at hk
      have : kd = .un := by
        have := List.mem_of_getElem? hk
        exact (List.mem_replicate.mp this).2
      subst this
      trivial
  · rcases nok i _ e1 with z | z <;> cases z
  · rcases nok i _ e1 with z | z <;> cases z
theorem fn_ok {x qual : Str} {st : Stmt} {sc : Scope} {f : Addr} {fd : FuncData} {N ps : List Str} {k p n : Nat} {b : MS} {Wn : List Kd} (F : Fun K x qual st f fd) (hsc : defScope st = sc) (S : FnScope N ps (defScope st)) (hs : scOk sc = true) (hp : ps.length = p) (hn : N.length = p + n)
    (body : ∀ (X : Cx) (E : XK), X.prog = P → X.w = w → X.K = K → X.mg = mg → X.base = base → Gd X E sc N k true → BX X E [] (W0 p n) (defBody st) Wn b) : FnOk P w K mg base (L2.CX P w) (k + 1) f fd ps (spT ⟨K, mg, TabL.T⟩ p (mFn n b)) := by
  refine F.okX S (fun vs H Q E h => ?_) (fun cdv A outer s H vs Q E hr h => ?_)
  · obtain ⟨f, ds, g, h1, h2, _⟩ := h
    rw [hp, ← PySem.Paired.length h2, h1]
  · refine ⟨_, body _ E rfl rfl rfl rfl rfl (gd_of hsc S hs hr), ?_⟩
    obtain ⟨f', ds, g, h1, h2, h3, h4⟩ := h
    refine ⟨⟨H, f', none⟩, f', ds ++ List.replicate n D.non, g, start_ss hn h1 h2 h3, ?_⟩
    have h4 : post (relD ⟨K, mg, TabL.T⟩) ⟨K, mg, TabL.T⟩ E H f' (b (ds ++ List.replicate n .non) g).fn Q := h4
    cases hb : b (ds ++ List.replicate n .non) g with
    | nx ρ g' => rw [hb] at h4; exact fun σ' H' f2 l s' => h4 .non H' f2 s'.ex s'.hs (by simp only [Rp])
    | rt d g' => rw [hb] at h4; exact fun v H' f2 e hs r => h4 v H' f2 e hs r
    | ex x g' => rw [hb] at h4; exact h4
    | ro _ _ => rw [hb] at h4; exact h4.elim
    | bk _ _ => rw [hb] at h4; exact h4.elim
    | ct _ _ => rw [hb] at h4; exact h4.elim
    | no => rw [hb] at h4; exact h4.elim
theorem fn_okF {x qual : Str} {st : Stmt} {sc : Scope} {f : Addr} {fd : FuncData} {N ps : List Str} {k p n : Nat} {b : MS} {Wn : List Kd} (F : Fun K x qual st f fd) (hsc : defScope st = sc) (S : FnScope N ps (defScope st)) (hs : scOk sc = true) (hp : ps.length = p) (hn : N.length = p + n)
    (body : ∀ (X : Cx) (E : XK), X.prog = P → X.w = w → X.K = K → X.mg = mg → X.base = base → Gd X E sc N k true → BX X E [] (W0 p n) (defBody st) Wn b) : FnOk P w K mg base (L2.CX P w) (k + 1) f fd ps (spF ⟨K, mg, TabL.T⟩ p (mFnF n b)) := by
  refine F.okX S (fun vs H Q E h => ?_) (fun cdv A outer s H vs Q E hr h => ?_)
  · obtain ⟨f, ds, g, h1, h2, _⟩ := h
    rw [hp, ← PySem.Paired.length h2, h1]
  · refine ⟨_, body _ E rfl rfl rfl rfl rfl (gd_of hsc S hs hr), ?_⟩
    obtain ⟨f', ds, g, h1, h2, h3, h4⟩ := h
    refine ⟨⟨H, f', none⟩, f', ds ++ List.replicate n D.non, g, start_ss hn h1 h2 h3, ?_⟩
    have h4 : postF ⟨K, mg, TabL.T⟩ E H f' (b (ds ++ List.replicate n .non) g).fnF Q := h4
    cases hb : b (ds ++ List.replicate n .non) g with
    | ro d g' => rw [hb] at h4; exact fun a o H' f2 e hs r => h4 a o H' f2 e hs r
    | ex x g' => rw [hb] at h4; exact h4
    | nx _ _ => rw [hb] at h4; exact h4.elim
    | rt _ _ => rw [hb] at h4; exact h4.elim
    | bk _ _ => rw [hb] at h4; exact h4.elim
    | ct _ _ => rw [hb] at h4; exact h4.elim
    | no => rw [hb] at h4; exact h4.elim

/-! ### hot things of one's own are let go -/
mutual
/-- d's hot things are below n -/
def hb (n : Nat) : D → Bool
  | .lst xs => hbL n xs
  | .tup xs => hbL n xs
  | .dct kvs => hbK n kvs
  | .ins _ fs => hbF n fs
  | .exc _ fs => hbF n fs
  | .hot i => decide (i < n)
  | _ => true
def hbL (n : Nat) : List D → Bool
  | [] => true
  | d :: ds => hb n d && hbL n ds
def hbK (n : Nat) : List (Key × D) → Bool
  | [] => true
  | (_, d) :: ds => hb n d && hbK n ds
def hbF (n : Nat) : List (Str × D) → Bool
  | [] => true
  | (_, d) :: ds => hb n d && hbF n ds
end
def cutF (f : Fz) (n : Nat) : Fz := ⟨f.F, f.e.take n⟩
section
variable {Z : Wd} {f : Fz} {n : Nat}
mutual
theorem rp_cut : ∀ {d : D} {v : V}, hb n d = true → Rp Z f d v → Rp Z (cutF f n) d v
  | .non, v, _, h => by simpa only [Rp] using h
  | .bl b, v, _, h => by simpa only [Rp] using h
  | .int i, v, _, h => by simpa only [Rp] using h
  | .str s, v, _, h => by simpa only [Rp] using h
  | .lst xs, v, q, h => by
    simp only [Rp] at h ⊢
    obtain ⟨a, vs, rfl, e, r⟩ := h
    exact ⟨a, vs, rfl, e, rpL_cut (by simpa only [hb] using q) r⟩
  | .tup xs, v, q, h => by
    simp only [Rp] at h ⊢
    obtain ⟨a, vs, rfl, e, r⟩ := h
    exact ⟨a, vs, rfl, e, rpL_cut (by simpa only [hb] using q) r⟩
  | .dct kvs, v, q, h => by
    simp only [Rp] at h ⊢
    obtain ⟨a, od, vs, rfl, e, r⟩ := h
    exact ⟨a, od, vs, rfl, e, rpK_cut (by simpa only [hb] using q) r⟩
  | .ins c fs, v, q, h => by
    simp only [Rp] at h ⊢
    obtain ⟨a, C, dx, ws, rfl, e, m, r⟩ := h
    exact ⟨a, C, dx, ws, rfl, e, m, rpF_cut (by simpa only [hb] using q) r⟩
  | .fn x, v, _, h => by simpa only [Rp] using h
  | .hot i, v, q, h => by
    simp only [Rp] at h ⊢
    obtain ⟨a, rfl, e⟩ := h
    have q : i < n := by simpa only [hb, decide_eq_true_eq] using q
    refine ⟨a, rfl, ?_⟩
    show (f.e.take n)[i]? = some a
    rw [List.getElem?_take_of_lt q]; exact e
  | .gv ns, v, _, h => by simp only [Rp] at h ⊢; exact h
  | .exc c fs, v, q, h => by
    simp only [Rp] at h ⊢
    obtain ⟨a, C, rfl, m, e⟩ := h
    refine ⟨a, C, rfl, m, ?_⟩
    rcases e with ⟨d, ws, e1, e2, e3⟩ | ⟨e1, e2⟩
    · exact .inl ⟨d, ws, e1, e2, rpF_cut (by simpa only [hb] using q) e3⟩
    · exact .inr ⟨e1, e2⟩
  | .lam x fs, v, _, h => by simp only [Rp] at h ⊢; exact h
theorem rpL_cut : ∀ {ds : List D} {vs : List V}, hbL n ds = true → RpL Z f ds vs → RpL Z (cutF f n) ds vs
  | [], vs, _, h => by simpa only [RpL] using h
  | d :: ds, vs, q, h => by
    simp only [hbL, Bool.and_eq_true] at q
    simp only [RpL] at h ⊢
    obtain ⟨v, r, e, h1, h2⟩ := h
    exact ⟨v, r, e, rp_cut q.1 h1, rpL_cut q.2 h2⟩
theorem rpK_cut : ∀ {ds : List (Key × D)} {vs : List (Key × V)}, hbK n ds = true → RpK Z f ds vs → RpK Z (cutF f n) ds vs
  | [], vs, _, h => by simpa only [RpK] using h
  | (k, d) :: ds, vs, q, h => by
    simp only [hbK, Bool.and_eq_true] at q
    simp only [RpK] at h ⊢
    obtain ⟨v, r, e, h1, h2⟩ := h
    exact ⟨v, r, e, rp_cut q.1 h1, rpK_cut q.2 h2⟩
theorem rpF_cut : ∀ {ds : List (Str × D)} {vs : List (Str × V)}, hbF n ds = true → RpF Z f ds vs → RpF Z (cutF f n) ds vs
  | [], vs, _, h => by simpa only [RpF] using h
  | (k, d) :: ds, vs, q, h => by
    simp only [hbF, Bool.and_eq_true] at q
    simp only [RpF] at h ⊢
    obtain ⟨v, r, e, h1, h2⟩ := h
    exact ⟨v, r, e, rp_cut q.1 h1, rpF_cut q.2 h2⟩
end
theorem rpO_cut {o : HO} {d : D} (q : hb n d = true) (h : RpO Z f o d) : RpO Z (cutF f n) o d := by
  cases o with
  | frz ob u =>
    cases u <;> cases d <;> simp only [RpO] at h ⊢
    exact rpK_iff.mp (rpK_cut (by simpa only [hb] using q) (rpK_iff.mpr h))
  | lst vs =>
    cases d <;> simp only [RpO] at h ⊢
    exact rpL_iff.mp (rpL_cut (by simpa only [hb] using q) (rpL_iff.mpr h))
  | dK vs =>
    cases d <;> simp only [RpO] at h ⊢
    exact rpK_iff.mp (rpK_cut (by simpa only [hb] using q) (rpK_iff.mpr h))
  | ins _ _ _ =>
    cases d <;> simp only [RpO] at h ⊢
    exact ⟨h.1, rpF_iff.mp (rpF_cut (by simpa only [hb] using q) (rpF_iff.mpr h.2))⟩
  | _ => cases d <;> simp only [RpO] at h
theorem hs_cut {H : Hp} {g : List D} (hs : Hs Z H f g) (hl : n ≤ g.length) (q : ∀ d, d ∈ g.take n → d ≠ dead → hb n d = true) : Hs Z H (cutF f n) (g.take n) := by
  refine ⟨hs.fr, hs.nt, hs.tab, ?_, fun a ha => hs.lv a (List.mem_of_mem_take ha), fun i d hi nd => ?_, hs.nd.sublist (List.take_sublist _ _)⟩
  · show (f.e.take n).length = _
    simp [hs.len]
  · have hm : d ∈ g.take n := List.mem_of_getElem? hi
    have hin : i < n := by
      have := (List.getElem?_eq_some_iff.mp hi).1
      simp at this; omega
    rw [List.getElem?_take_of_lt hin] at hi
    obtain ⟨a, o, e1, e2, e3, e4, e5⟩ := hs.hot i d hi nd
    exact ⟨a, o, by show (f.e.take n)[i]? = some a; rw [List.getElem?_take_of_lt hin]; exact e1, e2, e3, rpO_cut (q d hm nd) e4, e5⟩
theorem ex_cut {H H' : Hp} {f' : Fz} (e : Ex H f H' f') (hl : f.e.length ≤ n) : Ex H f H' (cutF f' n) :=
  ⟨⟨e.le.F, fun i a h => by
    show (f'.e.take n)[i]? = some a
    rw [List.getElem?_take_of_lt (Nat.lt_of_lt_of_le (List.getElem?_eq_some_iff.mp h).1 hl)]
    exact e.le.e i a h⟩, fun a o h nt nh => by
    obtain ⟨h1, h2, h3⟩ := e.keep a o h nt nh
    exact ⟨h1, h2, fun z => h3 (List.mem_of_mem_take z)⟩⟩
end
def dropOk (n : Nat) (g : List D) : Bool := decide (n ≤ g.length) && (g.take n).all (fun d => hb n d || (match d with | .hot 0 => true | _ => false))
theorem dropOk_iff {n : Nat} {g : List D} (h : dropOk n g = true) : n ≤ g.length ∧ ∀ d, d ∈ g.take n → d ≠ dead → hb n d = true := by
  unfold dropOk at h
  rw [Bool.and_eq_true, List.all_eq_true] at h
  refine ⟨of_decide_eq_true h.1, fun d hd nd => ?_⟩
  have q := h.2 d hd
  rw [Bool.or_eq_true] at q
  rcases q with q | q
  · exact q
  · exfalso
    cases d <;> first | cases q | skip
    rename_i i
    cases i with
    | zero => exact nd rfl
    | succ i => cases q
def mDrop (m : MF) : MF := fun ds g => match m ds g with
  | .ok d g' => if (hb g.length d && dropOk g.length g') = true then .ok d (g'.take g.length) else .no
  | .ex x g' => if (hbF g.length x.fs && dropOk g.length g') = true then .ex x (g'.take g.length) else .no
  | .no => .no
theorem pEx_drop {Z : Wd} {E : XK} {H : Hp} {f : Fz} {n : Nat} {x : Exc} {g' : List D} (hl : f.e.length ≤ n) (c : (hbF n x.fs && dropOk n g') = true) (p : pEx Z E H f x (g'.take n)) : pEx Z E H f x g' := fun C dd ws H' f' ex hs m hd r => by
  rw [Bool.and_eq_true] at c
  obtain ⟨c1, c2⟩ := dropOk_iff c.2
  exact p C dd ws H' (cutF f' n) (ex_cut ex hl) (hs_cut hs c1 c2) m hd (rpF_iff.mp (rpF_cut c.1 (rpF_iff.mpr r)))
theorem spT_drop {Z : Wd} {n : Nat} {m : MF} {vs : List V} {H : Hp} {Q : VK} {E : XK} (h : spT Z n (mDrop m) vs H Q E) : spT Z n m vs H Q E := by
  obtain ⟨f, ds, g, h1, h2, h3, h4⟩ := h
  refine ⟨f, ds, g, h1, h2, h3, ?_⟩
  have hl : f.e.length ≤ g.length := Nat.le_of_eq h3.len
  unfold mDrop at h4
  cases e : m ds g with
  | ok d g' =>
    rw [e] at h4
    dsimp only at h4
    split at h4
    · rename_i c
      rw [Bool.and_eq_true] at c
      obtain ⟨c1, c2⟩ := dropOk_iff c.2
      exact fun v H' f' ex hs r => h4 v H' (cutF f' g.length) (ex_cut ex hl) (hs_cut hs c1 c2) (rp_cut c.1 r)
    · exact h4.elim
  | ex x g' =>
    rw [e] at h4
    dsimp only at h4
    split at h4
    · rename_i c
      exact pEx_drop hl c h4
    · exact h4.elim
  | no => rw [e] at h4; exact h4.elim
theorem spF_drop {Z : Wd} {n : Nat} {m : MF} {vs : List V} {H : Hp} {Q : VK} {E : XK} (h : spF Z n (mDrop m) vs H Q E) : spF Z n m vs H Q E := by
  obtain ⟨f, ds, g, h1, h2, h3, h4⟩ := h
  refine ⟨f, ds, g, h1, h2, h3, ?_⟩
  have hl : f.e.length ≤ g.length := Nat.le_of_eq h3.len
  unfold mDrop at h4
  cases e : m ds g with
  | ok d g' =>
    rw [e] at h4
    dsimp only at h4
    split at h4
    · rename_i c
      rw [Bool.and_eq_true] at c
      obtain ⟨c1, c2⟩ := dropOk_iff c.2
      exact fun a o H' f' ex hs n => h4 a o H' (cutF f' g.length) (ex_cut ex hl) (hs_cut hs c1 c2) ⟨n.new, n.at_, n.fr, fun z => n.nh (List.mem_of_mem_take z), rpO_cut c.1 n.r, n.nz⟩
    · exact h4.elim
  | ex x g' =>
    rw [e] at h4
    dsimp only at h4
    split at h4
    · rename_i c
      exact pEx_drop hl c h4
    · exact h4.elim
  | no => rw [e] at h4; exact h4.elim

/-- a def of the module that may be called: its mirror is m -/
structure Df (P : Program) (w : World) (K : PySem.W.Frag) (mg : Str → Option Value) (base : Heap) (k : Nat) (x : Str) (p : Nat) (m : MF) : Prop where
  ex : ∃ (f : Addr) (fd : FuncData) (ps : List Str), ps.length = p ∧ mg x = some (.ref f) ∧ PySem.W.keepIn K (.ref f) = true ∧ Binds K fd ps [] ∧ FnOk P w K mg base (L2.CX P w) k f fd ps (spT ⟨K, mg, TabL.T⟩ p m)
/-- .. hands back a new container -/
structure DfF (P : Program) (w : World) (K : PySem.W.Frag) (mg : Str → Option Value) (base : Heap) (k : Nat) (x : Str) (p : Nat) (m : MF) : Prop where
  ex : ∃ (f : Addr) (fd : FuncData) (ps : List Str), ps.length = p ∧ mg x = some (.ref f) ∧ PySem.W.keepIn K (.ref f) = true ∧ Binds K fd ps [] ∧ FnOk P w K mg base (L2.CX P w) k f fd ps (spF ⟨K, mg, TabL.T⟩ p m)
end
section
variable {X : Cx} {E : XK} {sc : Scope} {N : List Str} {k j : Nat} {df : Bool} {WL W Wn : List Kd} {pos : Pos}
def mCall (m : MF) (a : M (List D)) : M D := fun ρ g => (a ρ g).bind m
/-- the arguments' number is known -/
def AN (n : Nat) (a : M (List D)) : Prop := ∀ ρ g ds g', a ρ g = .ok ds g' → ds.length = n
theorem an_nil : AN 0 mNil := fun ρ g ds g' h => by cases h; rfl
theorem an_cons {n : Nat} {a : M D} {b : M (List D)} (h : AN n b) : AN (n + 1) (mCons a b) := fun ρ g ds g' e => by
  unfold mCons at e
  cases ha : a ρ g with
  | ok d g1 =>
    rw [ha] at e
    simp only [R.bind] at e
    cases hb : b ρ g1 with
    | ok ds' g2 =>
      rw [hb] at e
      simp only [R.bind] at e
      cases e
      simp [h _ _ _ _ hb]
    | ex _ _ => rw [hb] at e; cases e
    | no => rw [hb] at e; cases e
  | ex _ _ => rw [ha] at e; cases e
  | no => rw [ha] at e; cases e
theorem px_call (G : Gd X E sc N k df) {x : Str} {p : Pos} {e : Expr} {es : List Expr} {n : Nat} {m : MF} {a : M (List D)} (d : Df X.prog X.w X.K X.mg X.base j x n m) (ha : AX X E W (e :: es) a) (hn : AN n a) (hj : j ≤ k := by omega) (hg : glB sc x = true := by rfl)
    (he : starEach (e :: es) X.env = (false, eval e X.env) :: starEach es X.env := by rfl) (hpl : (backTo pos (starEach es X.env)).any (·.1) = false := by rfl) :
    PX X E W (.Call (.Name x p) (e :: es) [] pos) (mCall m a) := by
  obtain ⟨f, fd, ps, hps, hm, hk, hb, hF⟩ := d.ex
  refine PE.imp (pe_call (dvs := []) (ds := []) hF (G.room.mono hj) (G.gl hg).1 hm hk hb .nil G.pass ha (G.gl hg).2.1 he hpl) fun σ H Q q => ?_
  obtain ⟨f0, ρ, g, s, hs, p⟩ := q
  refine ⟨f0, ρ, g, s, hs, post.bind p fun ds g1 vs H1 f1 he1 e1 hs1 r1 p1 => ?_⟩
  exact ⟨f1, ds, g1, hn _ _ _ _ he1, by rw [List.append_nil]; exact r1, hs1, p1⟩
theorem fx_call (G : Gd X E sc N k df) {x : Str} {p : Pos} {e : Expr} {es : List Expr} {n : Nat} {m : MF} {a : M (List D)} (d : DfF X.prog X.w X.K X.mg X.base j x n m) (ha : AX X E W (e :: es) a) (hn : AN n a) (hj : j ≤ k := by omega) (hg : glB sc x = true := by rfl)
    (he : starEach (e :: es) X.env = (false, eval e X.env) :: starEach es X.env := by rfl) (hpl : (backTo pos (starEach es X.env)).any (·.1) = false := by rfl) :
    FX X E W (.Call (.Name x p) (e :: es) [] pos) (mCall m a) := by
  obtain ⟨f, fd, ps, hps, hm, hk, hb, hF⟩ := d.ex
  refine PE.imp (pe_call (dvs := []) (ds := []) hF (G.room.mono hj) (G.gl hg).1 hm hk hb .nil G.pass ha (G.gl hg).2.1 he hpl) fun σ H Q q => ?_
  obtain ⟨f0, ρ, g, s, hs, p⟩ := q
  refine ⟨f0, ρ, g, s, hs, postF.bind p fun ds g1 vs H1 f1 he1 e1 hs1 r1 p1 => ?_⟩
  exact ⟨f1, ds, g1, hn _ _ _ _ he1, by rw [List.append_nil]; exact r1, hs1, p1⟩
theorem px_call0 (G : Gd X E sc N k df) {x : Str} {p : Pos} {m : MF} (d : Df X.prog X.w X.K X.mg X.base j x 0 m) (hj : j ≤ k := by omega) (hg : glB sc x = true := by rfl) : PX X E W (.Call (.Name x p) [] [] pos) (mCall m mNil) := by
  obtain ⟨f, fd, ps, hps, hm, hk, hb, hF⟩ := d.ex
  refine PE.imp (pe_call0 (dvs := []) (ds := []) hF (G.room.mono hj) (G.gl hg).1 hm hk hb .nil G.pass (G.gl hg).2.1) fun σ H Q q => ?_
  obtain ⟨f1, ρ, g, s, hs, p⟩ := q
  exact ⟨f1, [], g, rfl, .nil, hs, p⟩
end
end TL
end

section
set_option Elab.async false
set_option linter.all false
set_option autoImplicit false
set_option maxRecDepth 100000
/-! TL, part g: operators and built-ins on trees -/
namespace TL
open PySem PySem.Spec PyProof.Rows L2
variable [TabL]

section
variable {X : Cx} {E : XK} {W : List Kd} {pos : Pos}
def Op2F (Z : Wd) (r : R2) (k : D → D → List D → R D) : Prop :=
  ∀ E x y d e H f g Q, Rv Z H f d x → Rv Z H f e y → Hs Z H f g → postF Z E H f (k d e g) Q → r x y H Q
theorem fx_op {op : Operator} {r : R2} {k : D → D → List D → R D} {a b : Expr} {ma mb : M D} (ho : OpR X (binaryOp op) r) (o : Op2F (wd X) r k) (ha : VX X E W a ma) (hb : VX X E W b mb) :
    FX X E W (.BinOp a op b pos) (m2 ma mb k) := PE.imp (pe_op ho ha hb) fun σ H Q q => by
  obtain ⟨f, ρ, g, s, hs, p⟩ := q
  refine ⟨f, ρ, g, s, hs, postF.bind p fun d g1 x H1 f1 _ e1 hs1 r1 p1 => ?_⟩
  refine ⟨f1, ρ, g1, s.ext e1, hs1, postF.bind p1 fun e g2 y H2 f2 _ e2 hs2 r2 p2 => ?_⟩
  exact o E x y d e H2 f2 g2 Q (r1.ext e2) r2 hs2 p2
/-- a scalar answer -/
theorem post_now {Z : Wd} {E : XK} {H : Hp} {f : Fz} {g : List D} {d : D} {v : V} {Q : VK} (p : post (relD Z) Z E H f (.ok d g) Q) (hs : Hs Z H f g) (r : Rp Z f d v) : Q v H := p v H f (Ex.refl _ _) hs r

/-! ### + - * // % ** -/
def kAdd (d e : D) (g : List D) : R D := match vw g d, vw g e with
  | .int i, .int j => .ok (.int (i + j)) g
  | .str i, .str j => if i.length + j.length ≤ 16777216 then .ok (.str (i ++ j)) g else .no
  | _, _ => .no
theorem op_addT : OpR X (binaryOp .Add) (fun x y H Q => (rI0 (fun i j => V.int (i + j))) x y H Q ∨ ∃ i j, x = .str i ∧ y = .str j ∧ i.length + j.length ≤ sizeLine ∧ Q (.str (i ++ j)) H) := op_add.or op_add_str
theorem kAdd_ok {Z : Wd} : Op2 Z (fun x y H Q => (rI0 (fun i j => V.int (i + j))) x y H Q ∨ ∃ i j, x = .str i ∧ y = .str j ∧ i.length + j.length ≤ sizeLine ∧ Q (.str (i ++ j)) H) kAdd := fun E x y d e H f g Q r1 r2 hs p => by
  unfold kAdd at p
  split at p
  · rename_i i j h1 h2
    exact .inl ⟨i, j, see_int hs r1 h1, see_int hs r2 h2, post_now p hs (by simp only [Rp])⟩
  · rename_i i j h1 h2
    split at p
    · rename_i hl
      exact .inr ⟨i, j, see_str hs r1 h1, see_str hs r2 h2, by rw [sl_eq]; exact hl, post_now p hs (by simp only [Rp])⟩
    · exact p.elim
  · exact p.elim
/-- lists one behind the other -/
def kCat (d e : D) (g : List D) : R D := match vw g d, vw g e with
  | .lst xs, .lst ys => if xs.length + ys.length ≤ 16777216 then .ok (.lst (xs ++ ys)) g else .no
  | _, _ => .no
theorem kCat_ok {Z : Wd} : Op2F Z rCat kCat := fun E x y d e H f g Q r1 r2 hs p => by
  unfold kCat at p
  split at p
  · rename_i i j h1 h2
    split at p
    · rename_i hl
      obtain ⟨a, vs, rfl, e1, p1⟩ := see_lst hs r1 h1
      obtain ⟨b, ws, rfl, e2, p2⟩ := see_lst hs r2 h2
      refine ⟨a, b, vs, ws, rfl, rfl, e1, e2, by rw [sl_eq, ← PySem.Paired.length p1, ← PySem.Paired.length p2]; exact hl, fun l hl' => ?_⟩
      exact p l (.lst (vs ++ ws)) _ f (Ex.laid hs hl') (hs.laid hl') (Nw.laid hs hl' (pd_app p1 p2))
    · exact p.elim
  · exact p.elim
def kSub (d e : D) (g : List D) : R D := match vw g d, vw g e with
  | .int i, .int j => .ok (.int (i - j)) g
  | _, _ => .no
def kMul (d e : D) (g : List D) : R D := match vw g d, vw g e with
  | .int i, .int j => if i.natAbs < 18446744073709551616 ∨ j.natAbs < 18446744073709551616 then .ok (.int (i * j)) g else .no
  | _, _ => .no
def kFdiv (d e : D) (g : List D) : R D := match vw g d, vw g e with
  | .int i, .int j => if 0 < j ∧ j < 18446744073709551616 then .ok (.int (i / j)) g else .no
  | _, _ => .no
def kMod (d e : D) (g : List D) : R D := match vw g d, vw g e with
  | .int i, .int j => if 0 < j then .ok (.int (i % j)) g else .no
  | _, _ => .no
def kPow (d e : D) (g : List D) : R D := match vw g d, vw g e with
  | .int i, .int j => if 0 ≤ j ∧ j ≤ 1000000 ∧ i.natAbs < 18446744073709551616 then .ok (.int (i ^ j.toNat)) g else .no
  | _, _ => .no
/-- two ints, by a condition -/
theorem int2_ok {Z : Wd} {C C' : Int → Int → Prop} [DecidableRel C'] {h : Int → Int → Int} {k : D → D → List D → R D} (hk : ∀ d e g, k d e g = match vw g d, vw g e with
    | .int i, .int j => if C' i j then .ok (.int (h i j)) g else .no
    | _, _ => .no) (hc : ∀ i j, C' i j → C i j) : Op2 Z (rI C fun i j => V.int (h i j)) k := fun E x y d e H f g Q r1 r2 hs p => by
  rw [hk] at p
  split at p
  · rename_i i j h1 h2
    split at p
    · rename_i hC
      exact ⟨i, j, see_int hs r1 h1, see_int hs r2 h2, hc i j hC, post_now p hs (by simp only [Rp])⟩
    · exact p.elim
  · exact p.elim
theorem kSub_ok {Z : Wd} : Op2 Z (rI0 fun i j => V.int (i - j)) kSub := fun E x y d e H f g Q r1 r2 hs p => by
  unfold kSub at p
  split at p
  · rename_i i j h1 h2
    exact ⟨i, j, see_int hs r1 h1, see_int hs r2 h2, post_now p hs (by simp only [Rp])⟩
  · exact p.elim
theorem kMul_ok {Z : Wd} : Op2 Z (rI CMul fun i j => V.int (i * j)) kMul := int2_ok (C' := fun i j => i.natAbs < 18446744073709551616 ∨ j.natAbs < 18446744073709551616) (fun _ _ _ => rfl) fun i j h => by
  unfold CMul
  rcases h with h | h
  · left; omega
  · right; omega
theorem kFdiv_ok {Z : Wd} : Op2 Z (rI CDivW fun i j => V.int (i / j)) kFdiv := int2_ok (C' := fun i j => 0 < j ∧ j < 18446744073709551616) (fun _ _ _ => rfl) fun i j h =>
  wide_div (b := 64) h.1 (by have := h.2; omega) (by decide) (by decide)
theorem kMod_ok {Z : Wd} : Op2 Z (rI (fun _ j => 0 < j) fun i j => V.int (i % j)) kMod := int2_ok (C' := fun i j => 0 < j) (fun _ _ _ => rfl) fun i j h => h
theorem kPow_ok {Z : Wd} : Op2 Z (rI CPow fun i j => V.int (i ^ j.toNat)) kPow := int2_ok (C' := fun i j => 0 ≤ j ∧ j ≤ 1000000 ∧ i.natAbs < 18446744073709551616) (fun _ _ _ => rfl) fun i j h => ⟨h.1, h.2.1, h.2.2⟩
section
variable {a b : Expr} {ma mb : M D}
theorem px_add (ha : VX X E W a ma) (hb : VX X E W b mb) : PX X E W (.BinOp a .Add b pos) (m2 ma mb kAdd) := px_op op_addT kAdd_ok ha hb
theorem fx_cat (ha : VX X E W a ma) (hb : VX X E W b mb) : FX X E W (.BinOp a .Add b pos) (m2 ma mb kCat) := fx_op op_cat kCat_ok ha hb
theorem px_sub (ha : VX X E W a ma) (hb : VX X E W b mb) : PX X E W (.BinOp a .Sub b pos) (m2 ma mb kSub) := px_op op_sub kSub_ok ha hb
theorem px_mul (ha : VX X E W a ma) (hb : VX X E W b mb) : PX X E W (.BinOp a .Mult b pos) (m2 ma mb kMul) := px_op op_mul kMul_ok ha hb
theorem px_fdiv (ha : VX X E W a ma) (hb : VX X E W b mb) : PX X E W (.BinOp a .FloorDiv b pos) (m2 ma mb kFdiv) := px_op op_fdivW kFdiv_ok ha hb
theorem px_mod (ha : VX X E W a ma) (hb : VX X E W b mb) : PX X E W (.BinOp a .Mod b pos) (m2 ma mb kMod) := px_op op_mod kMod_ok ha hb
theorem px_pow (ha : VX X E W a ma) (hb : VX X E W b mb) : PX X E W (.BinOp a .Pow b pos) (m2 ma mb kPow) := px_op op_pow kPow_ok ha hb
end
def kNeg (d : D) (g : List D) : R D := match vw g d with
  | .int i => .ok (.int (-i)) g
  | _ => .no
def m1 (a : M D) (k : D → List D → R D) : M D := fun ρ g => (a ρ g).bind k
theorem px_neg {a : Expr} {ma : M D} (ha : VX X E W a ma) : PX X E W (.UnaryOp .USub a pos) (m1 ma kNeg) := PE.imp (pe_un un_neg ha) fun σ H Q q => by
  refine tG.bind (rel := relV (wd X)) (k := fun d _ g1 => kNeg d g1) q fun d x H1 f1 ρ g1 s1 hs1 (r1 : Rv _ _ _ _ _) p1 => ?_
  unfold kNeg at p1
  split at p1
  · rename_i i h
    exact ⟨i, see_int hs1 r1 h, post_now p1 hs1 (by simp only [Rp])⟩
  · exact p1.elim

/-! ### comparisons of ints, of texts -/
def kLt (d e : D) (g : List D) : R D := match vw g d, vw g e with
  | .int i, .int j => .ok (.bl (decide (i < j))) g
  | _, _ => .no
def kLe (d e : D) (g : List D) : R D := match vw g d, vw g e with
  | .int i, .int j => .ok (.bl (decide (i ≤ j))) g
  | _, _ => .no
def kGt (d e : D) (g : List D) : R D := match vw g d, vw g e with
  | .int i, .int j => .ok (.bl (decide (j < i))) g
  | _, _ => .no
def kGe (d e : D) (g : List D) : R D := match vw g d, vw g e with
  | .int i, .int j => .ok (.bl (decide (j ≤ i))) g
  | _, _ => .no
theorem intb_ok {Z : Wd} {h : Int → Int → Bool} {k : D → D → List D → R D} (hk : ∀ d e g, k d e g = match vw g d, vw g e with
    | .int i, .int j => .ok (.bl (h i j)) g
    | _, _ => .no) : Op2 Z (rI0 fun i j => V.bl (h i j)) k := fun E x y d e H f g Q r1 r2 hs p => by
  rw [hk] at p
  split at p
  · rename_i i j h1 h2
    exact ⟨i, j, see_int hs r1 h1, see_int hs r2 h2, post_now p hs (by simp only [Rp])⟩
  · exact p.elim
theorem kLt_ok {Z : Wd} : Op2 Z (rI0 fun i j => V.bl (decide (i < j))) kLt := intb_ok fun _ _ _ => rfl
theorem kLe_ok {Z : Wd} : Op2 Z (rI0 fun i j => V.bl (decide (i ≤ j))) kLe := intb_ok fun _ _ _ => rfl
theorem kGt_ok {Z : Wd} : Op2 Z (rI0 fun i j => V.bl (decide (j < i))) kGt := intb_ok fun _ _ _ => rfl
theorem kGe_ok {Z : Wd} : Op2 Z (rI0 fun i j => V.bl (decide (j ≤ i))) kGe := intb_ok fun _ _ _ => rfl
def isNon : D → Bool
  | .non => true
  | _ => false
def kIsN (d _e : D) (g : List D) : R D := match _e with
  | .non => .ok (.bl (isNon d)) g
  | _ => .no
def kNotN (d _e : D) (g : List D) : R D := match _e with
  | .non => .ok (.bl (!isNon d)) g
  | _ => .no
theorem isN_dec' {Z : Wd} {f : Fz} {d : D} {x : V} (r : Rp Z f d x) : decide (x = .non) = isNon d := by
  cases d <;> simp only [Rp] at r
  · subst r; rfl
  · subst r; rfl
  · subst r; rfl
  · subst r; rfl
  · obtain ⟨a, _, rfl, _⟩ := r; rfl
  · obtain ⟨a, _, rfl, _⟩ := r; rfl
  · obtain ⟨a, _, _, rfl, _⟩ := r; rfl
  · obtain ⟨a, _, _, _, rfl, _⟩ := r; rfl
  · obtain ⟨a, rfl, _⟩ := r; rfl
  · obtain ⟨a, rfl, _⟩ := r; rfl
  · obtain ⟨a, rfl, _⟩ := r; rfl
  · obtain ⟨a, _, rfl, _⟩ := r; rfl
  · obtain ⟨a, _, rfl, _⟩ := r; rfl
theorem isN_dec {Z : Wd} {H : Hp} {f : Fz} {d : D} {x : V} (r : Rv Z H f d x) : decide (x = .non) = isNon d := by
  rcases r with r | ⟨a, o, rfl, _, _, h, r⟩
  · exact isN_dec' r
  · cases d <;> first | rfl | (cases o <;> simp only [RpO] at r)
theorem rv_non {Z : Wd} {H : Hp} {f : Fz} {x : V} (r : Rv Z H f .non x) : x = .non := by
  rcases r with r | ⟨a, o, rfl, _, _, h, r⟩
  · simpa only [Rp] using r
  · cases o <;> simp only [RpO] at r
theorem kIsN_ok {Z : Wd} : Op2 Z (fun x y H Q => y = .non ∧ Q (.bl (decide (x = .non))) H) kIsN := fun E x y d e H f g Q r1 r2 hs p => by
  cases e <;> simp only [kIsN] at p <;> first | exact p.elim | skip
  exact ⟨rv_non r2, post_now p hs (by simp only [Rp, isN_dec r1])⟩
theorem kNotN_ok {Z : Wd} : Op2 Z (fun x y H Q => y = .non ∧ Q (.bl (!decide (x = .non))) H) kNotN := fun E x y d e H f g Q r1 r2 hs p => by
  cases e <;> simp only [kNotN] at p <;> first | exact p.elim | skip
  exact ⟨rv_non r2, post_now p hs (by simp only [Rp, isN_dec r1])⟩
section
variable {a b : Expr} {ma mb : M D}
theorem px_lt (ha : VX X E W a ma) (hb : VX X E W b mb) : PX X E W (.Compare a [.Lt] [b] pos) (m2 ma mb kLt) := px_cmp op_lt kLt_ok ha hb
theorem px_le (ha : VX X E W a ma) (hb : VX X E W b mb) : PX X E W (.Compare a [.LtE] [b] pos) (m2 ma mb kLe) := px_cmp op_le kLe_ok ha hb
theorem px_gt (ha : VX X E W a ma) (hb : VX X E W b mb) : PX X E W (.Compare a [.Gt] [b] pos) (m2 ma mb kGt) := px_cmp op_gt kGt_ok ha hb
theorem px_ge (ha : VX X E W a ma) (hb : VX X E W b mb) : PX X E W (.Compare a [.GtE] [b] pos) (m2 ma mb kGe) := px_cmp op_ge kGe_ok ha hb
theorem px_isN (ha : VX X E W a ma) (hb : VX X E W b mb) : PX X E W (.Compare a [.Is] [b] pos) (m2 ma mb kIsN) := px_cmp op_isN kIsN_ok ha hb
theorem px_notN (ha : VX X E W a ma) (hb : VX X E W b mb) : PX X E W (.Compare a [.IsNot] [b] pos) (m2 ma mb kNotN) := px_cmp op_notN kNotN_ok ha hb
theorem tx_lt (ha : VX X E W a ma) (hb : VX X E W b mb) : TX X E W (.Compare a [.Lt] [b] pos) (mB (m2 ma mb kLt)) := tx_cmp op_lt kLt_ok ha hb
theorem tx_le (ha : VX X E W a ma) (hb : VX X E W b mb) : TX X E W (.Compare a [.LtE] [b] pos) (mB (m2 ma mb kLe)) := tx_cmp op_le kLe_ok ha hb
theorem tx_gt (ha : VX X E W a ma) (hb : VX X E W b mb) : TX X E W (.Compare a [.Gt] [b] pos) (mB (m2 ma mb kGt)) := tx_cmp op_gt kGt_ok ha hb
theorem tx_ge (ha : VX X E W a ma) (hb : VX X E W b mb) : TX X E W (.Compare a [.GtE] [b] pos) (mB (m2 ma mb kGe)) := tx_cmp op_ge kGe_ok ha hb
theorem tx_isN (ha : VX X E W a ma) (hb : VX X E W b mb) : TX X E W (.Compare a [.Is] [b] pos) (mB (m2 ma mb kIsN)) := tx_cmp op_isN kIsN_ok ha hb
theorem tx_notN (ha : VX X E W a ma) (hb : VX X E W b mb) : TX X E W (.Compare a [.IsNot] [b] pos) (mB (m2 ma mb kNotN)) := tx_cmp op_notN kNotN_ok ha hb
end
end
end TL
end

section
set_option Elab.async false
set_option linter.all false
set_option autoImplicit false
set_option maxRecDepth 100000
/-! TL, part h: equality, in, truth, len, items, fields -/
namespace TL
open PySem PySem.Spec PyProof.Rows L2
variable [TabL]

/-! ### data -/
mutual
def toP : D → Option PyData
  | .non => some .none
  | .bl b => some (.bool b)
  | .int i => some (.int i)
  | .str x => some (.str x)
  | .lst xs => (toPs xs).map .list
  | .tup xs => (toPs xs).map .tuple
  | .dct _ => none
  | .ins _ _ => none
  | .fn _ => none
  | .hot _ => none
  | .gv _ => none
  | .exc _ _ => none
  | .lam _ _ => none
def toPs : List D → Option (List PyData)
  | [] => some []
  | d :: ds => (toP d).bind fun p => (toPs ds).bind fun ps => some (p :: ps)
end
section
variable {Z : Wd} {H : Hp} {f : Fz} {g : List D}
mutual
theorem dp_of (hs : Hs Z H f g) : ∀ {d : D} {v : V} {p : PyData}, Rp Z f d v → toP d = some p → Dp Z.K H v p
  | .non, v, p, r, e => by simp only [Rp, toP] at r e; cases e; subst r; exact .non
  | .bl b, v, p, r, e => by simp only [Rp, toP] at r e; cases e; subst r; exact .bl b
  | .int i, v, p, r, e => by simp only [Rp, toP] at r e; cases e; subst r; exact .int i
  | .str x, v, p, r, e => by simp only [Rp, toP] at r e; cases e; subst r; exact .str x
  | .lst xs, v, p, r, e => by
    simp only [toP, Option.map_eq_some_iff] at e
    obtain ⟨ps, e, rfl⟩ := e
    simp only [Rp] at r
    obtain ⟨a, vs, rfl, h, q⟩ := r
    exact .lst (.of (hs.fr _ _ h)) (dps_of hs q e)
  | .tup xs, v, p, r, e => by
    simp only [toP, Option.map_eq_some_iff] at e
    obtain ⟨ps, e, rfl⟩ := e
    simp only [Rp] at r
    obtain ⟨a, vs, rfl, h, q⟩ := r
    refine .tup ?_ (dps_of hs q e)
    rcases h with h | h
    · exact .inl (.inl (hs.fr _ _ h))
    · exact .inr h
  | .dct _, v, p, r, e => by simp [toP] at e
  | .ins _ _, v, p, r, e => by simp [toP] at e
  | .fn _, v, p, r, e => by simp [toP] at e
  | .hot _, v, p, r, e => by simp [toP] at e
  | .gv _, v, p, r, e => by simp [toP] at e
  | .exc _ _, v, p, r, e => by simp [toP] at e
  | .lam _ _, v, p, r, e => by simp [toP] at e
theorem dps_of (hs : Hs Z H f g) : ∀ {ds : List D} {vs : List V} {ps : List PyData}, RpL Z f ds vs → toPs ds = some ps → DpAll Z.K H vs ps
  | [], vs, ps, r, e => by simp only [RpL, toPs] at r e; cases e; subst r; exact .nil
  | d :: ds, vs, ps, r, e => by
    simp only [RpL] at r
    obtain ⟨v, t, rfl, r1, r2⟩ := r
    simp only [toPs, Option.bind_eq_some_iff] at e
    obtain ⟨p, e1, qs, e2, e3⟩ := e
    cases e3
    exact .cons (dp_of hs r1 e1) (dps_of hs r2 e2)
end
theorem dp_rpO (hs : Hs Z H f g) {d : D} {a : Addr} {o : HO} {p : PyData} (h : H a = some o) (r : RpO Z f o d) (e : toP d = some p) : Dp Z.K H (.ref a) p := by
  cases d <;> simp only [toP] at e <;> try (first | cases e | skip)
  all_goals (cases o <;> simp only [RpO] at r)
  simp only [Option.map_eq_some_iff] at e
  obtain ⟨ps, e, rfl⟩ := e
  exact .lst (.of h) (dps_of hs (rpL_iff.mpr r) e)
/-- what a thing is seen from above -/
theorem dp_vw (hs : Hs Z H f g) {d : D} {v : V} {p : PyData} (r : Rv Z H f d v) (e : toP (vw g d) = some p) : Dp Z.K H v p := by
  rcases r with r | ⟨a, o, rfl, _, _, h, r⟩
  case inr =>
    rw [vw_own r] at e
    exact dp_rpO hs h r e
  rcases vw_cases d g with ⟨j, x, rfl, hx, q⟩ | ⟨j, rfl, hx, q⟩ | ⟨n, q⟩
  · rw [q] at e
    have nd : x ≠ dead := fun z => by subst z; simp [toP, dead] at e
    obtain ⟨a, o, rfl, _, _, h, ro, _⟩ := hot_at hs r hx nd
    exact dp_rpO hs h ro e
  · rw [q] at e
    exfalso
    -- nothing stands there
    simp only [Rp] at r
    obtain ⟨a, rfl, h⟩ := r
    have : j < g.length := by rw [← hs.len]; exact (List.getElem?_eq_some_iff.mp h).1
    rw [List.getElem?_eq_none_iff] at hx
    omega
  · rw [q] at e; exact dp_of hs r e
end
def eqP (d e : D) (g : List D) : Option Bool := (toP (vw g d)).bind fun p => (toP (vw g e)).bind fun q => if SeqAt.shaped p = true ∧ SeqAt.shaped q = true then some (PyData.eqv p q) else none
def kEq (d e : D) (g : List D) : R D := match eqP d e g with | some b => .ok (.bl b) g | none => .no
def kNe (d e : D) (g : List D) : R D := match eqP d e g with | some b => .ok (.bl (!b)) g | none => .no
theorem eqP_some {d e : D} {g : List D} {b : Bool} (h : eqP d e g = some b) : ∃ p q, toP (vw g d) = some p ∧ toP (vw g e) = some q ∧ SeqAt.shaped p = true ∧ SeqAt.shaped q = true ∧ b = PyData.eqv p q := by
  unfold eqP at h
  simp only [Option.bind_eq_some_iff] at h
  obtain ⟨p, h1, q, h2, h3⟩ := h
  split at h3
  · rename_i hh; exact ⟨p, q, h1, h2, hh.1, hh.2, (Option.some.inj h3).symm⟩
  · cases h3
theorem kEq_ok {Z : Wd} : Op2 Z (rEqD Z.K) kEq := fun E x y d e H f g Q r1 r2 hs p => by
  unfold kEq at p
  split at p
  · rename_i b h
    obtain ⟨pd, pe, h1, h2, h3, h4, rfl⟩ := eqP_some h
    exact ⟨pd, pe, dp_vw hs r1 h1, dp_vw hs r2 h2, h3, h4, post_now p hs (by simp only [Rp])⟩
  · exact p.elim
theorem kNe_ok {Z : Wd} : Op2 Z (rNeD Z.K) kNe := fun E x y d e H f g Q r1 r2 hs p => by
  unfold kNe at p
  split at p
  · rename_i b h
    obtain ⟨pd, pe, h1, h2, h3, h4, rfl⟩ := eqP_some h
    exact ⟨pd, pe, dp_vw hs r1 h1, dp_vw hs r2 h2, h3, h4, post_now p hs (by simp only [Rp])⟩
  · exact p.elim

/-! ### in -/
/-- a key that a tree is -/
def keyD : D → Option Key
  | .int i => some (.inl i)
  | .str x => some (.inr x)
  | _ => none
theorem keyD_v {Z : Wd} {f : Fz} {d : D} {v : V} {k : Key} (r : Rp Z f d v) (e : keyD d = some k) : v = kV k := by
  cases d <;> simp only [keyD] at e <;> cases e <;> (simp only [Rp] at r; subst r; rfl)
def lookK (kvs : List (Key × D)) (k : Key) : Option D := (kvs.find? fun q => decide (q.1 = k)).map (·.2)
theorem lookK_some {Z : Wd} {f : Fz} {k : Key} : ∀ {kvs : List (Key × D)} {ws : List (Key × V)}, Paired (PK Z f) kvs ws → (∀ d, lookK kvs k = some d → ∃ v, valV ws k = some v ∧ Rp Z f d v) ∧ (lookK kvs k = none → valV ws k = none)
  | _, _, .nil => ⟨fun d h => by simp [lookK] at h, fun _ => rfl⟩
  | _, _, .cons (a := a) (b := b) r t => by
    obtain ⟨r1, r2⟩ := r
    have ih := lookK_some (k := k) t
    unfold lookK valV at *
    by_cases h : a.1 = k
    · have h' : b.1 = k := r1 ▸ h
      simp only [List.find?_cons, h, h', decide_true, Option.map_some]
      exact ⟨fun d e => ⟨b.2, rfl, by cases e; exact r2⟩, fun e => by cases e⟩
    · have h' : ¬ b.1 = k := r1 ▸ h
      simpa only [List.find?_cons, h, h', decide_false] using ih
/-- a text in a text: the sign by sign look of the model -/
def inS (x y : Str) : Bool := !(Builtin.Str.occurrences y x 0 y.length 1).isEmpty
def inB (d e : D) (g : List D) : Option Bool := match vw g e with
  | .dct kvs => (keyD (vw g d)).bind fun k => some (lookK kvs k).isSome
  | .str y => (match vw g d with | .str x => some (inS x y) | _ => none)
  | .lst xs => (toP (vw g d)).bind fun p => (toPs xs).bind fun ps => if SeqAt.shaped p = true ∧ SeqAt.shaped (.list ps) = true then some (ps.any fun z => PyData.eqv z p) else none
  | .tup xs => (toP (vw g d)).bind fun p => (toPs xs).bind fun ps => if SeqAt.shaped p = true ∧ SeqAt.shaped (.tuple ps) = true then some (ps.any fun z => PyData.eqv z p) else none
  | _ => none
def kIn (d e : D) (g : List D) : R D := match inB d e g with | some b => .ok (.bl b) g | none => .no
def kNotIn (d e : D) (g : List D) : R D := match inB d e g with | some b => .ok (.bl (!b)) g | none => .no
section
variable {X : Cx}
/-- the readings of in, by what stands on the right -/
def rInDict (neg : Bool) : R2 := fun y x H Q => ∃ a kvs k, x = .ref a ∧ Rd H a (.dK kvs) ∧ y = kV k ∧ Q (.bl (if neg then !(valV kvs k).isSome else (valV kvs k).isSome)) H
theorem op_inDict (hu : X.A.units + 1 < cLine) : OpR X (compareOp .In) (rInDict false) := by
  intro pins s σ H x y v u Q I rx ry h
  obtain ⟨a, kvs, k, rfl, hd, rfl, q⟩ := h
  cases (show u = Value.ref a from ry)
  exact d_in hu I (.inl ⟨kvs, k, hd, rfl, rfl⟩) rx fun s' I' => ⟨.bl _, H, I', rfl, q⟩
theorem op_notInDict (hu : X.A.units + 1 < cLine) : OpR X (compareOp .NotIn) (rInDict true) := by
  intro pins s σ H x y v u Q I rx ry h
  obtain ⟨a, kvs, k, rfl, hd, rfl, q⟩ := h
  cases (show u = Value.ref a from ry)
  exact d_notIn hu I (.inl ⟨kvs, k, hd, rfl, rfl⟩) rx fun s' I' => ⟨.bl _, H, I', rfl, q⟩
def rInTup (neg : Bool) : R2 := fun x y H Q => ∃ d ds, Dp X.K H x d ∧ Dp X.K H y (.tuple ds) ∧ SeqAt.shaped d = true ∧ SeqAt.shaped (.tuple ds) = true ∧ Q (.bl (if neg then !(ds.any fun z => PyData.eqv z d) else ds.any fun z => PyData.eqv z d)) H
theorem op_inTup (hu : X.A.units + 65 < cLine) : OpR X (compareOp .In) (rInTup (X := X) false) := by
  intro pins s σ H x y v u Q I rx ry h
  obtain ⟨d, ds, hd, he, sd, se, q⟩ := h
  obtain ⟨as, c1⟩ := Dp.reads I d x v hd rx
  obtain ⟨bs, c2⟩ := Dp.reads I (.tuple ds) y u he ry
  exact SeqAt.in_tuple_reads c2 c1 (SeqAt.canLay_of_shaped se) (SeqAt.canLay_of_shaped sd) (room_in_shaped sd hu) ⟨.bl _, H, I, rfl, q⟩
theorem op_notInTup (hu : X.A.units + 65 < cLine) : OpR X (compareOp .NotIn) (rInTup (X := X) true) := by
  intro pins s σ H x y v u Q I rx ry h
  obtain ⟨d, ds, hd, he, sd, se, q⟩ := h
  obtain ⟨as, c1⟩ := Dp.reads I d x v hd rx
  obtain ⟨bs, c2⟩ := Dp.reads I (.tuple ds) y u he ry
  exact SeqAt.notIn_tuple_reads c2 c1 (SeqAt.canLay_of_shaped se) (SeqAt.canLay_of_shaped sd) (room_in_shaped sd hu) ⟨.bl _, H, I, rfl, q⟩
/-- in, whatever stands on the right -/
def rInAll (K : PySem.W.Frag) (neg : Bool) : R2 := fun x y H Q => ∃ b, ((∃ a kvs k, y = .ref a ∧ Rd H a (.dK kvs) ∧ x = kV k ∧ b = (valV kvs k).isSome) ∨ (∃ i j, x = .str i ∧ y = .str j ∧ b = !(Builtin.Str.occurrences j i 0 j.length 1).isEmpty) ∨
  (∃ d ds, Dp K H x d ∧ Dp K H y (.list ds) ∧ SeqAt.shaped d = true ∧ SeqAt.shaped (.list ds) = true ∧ b = ds.any fun z => PyData.eqv z d) ∨
  ∃ d ds, Dp K H x d ∧ Dp K H y (.tuple ds) ∧ SeqAt.shaped d = true ∧ SeqAt.shaped (.tuple ds) = true ∧ b = ds.any fun z => PyData.eqv z d) ∧ Q (.bl (if neg then !b else b)) H
theorem op_inAll (hu : X.A.units + 65 < cLine) : OpR X (compareOp .In) (rInAll X.K false) := by
  intro pins s σ H x y v u Q I rx ry h
  obtain ⟨b, h, q⟩ := h
  rcases h with ⟨a, kvs, k, h1, h2, h3, rfl⟩ | ⟨i, j, h1, h2, rfl⟩ | ⟨d, ds, h1, h2, h3, h4, rfl⟩ | ⟨d, ds, h1, h2, h3, h4, rfl⟩
  · exact op_inDict (by omega) pins s σ H x y v u Q I rx ry ⟨a, kvs, k, h1, h2, h3, q⟩
  · exact op_in_str pins s σ H x y v u Q I rx ry ⟨i, j, h1, h2, q⟩
  · exact op_inD hu pins s σ H x y v u Q I rx ry ⟨d, ds, h1, h2, h3, h4, q⟩
  · exact op_inTup hu pins s σ H x y v u Q I rx ry ⟨d, ds, h1, h2, h3, h4, q⟩
theorem op_notInAll (hu : X.A.units + 65 < cLine) : OpR X (compareOp .NotIn) (rInAll X.K true) := by
  intro pins s σ H x y v u Q I rx ry h
  obtain ⟨b, h, q⟩ := h
  rcases h with ⟨a, kvs, k, h1, h2, h3, rfl⟩ | ⟨i, j, h1, h2, rfl⟩ | ⟨d, ds, h1, h2, h3, h4, rfl⟩ | ⟨d, ds, h1, h2, h3, h4, rfl⟩
  · exact op_notInDict (by omega) pins s σ H x y v u Q I rx ry ⟨a, kvs, k, h1, h2, h3, q⟩
  · exact L2.op_notIn_str pins s σ H x y v u Q I rx ry ⟨i, j, h1, h2, q⟩
  · exact op_notInD hu pins s σ H x y v u Q I rx ry ⟨d, ds, h1, h2, h3, h4, q⟩
  · exact op_notInTup hu pins s σ H x y v u Q I rx ry ⟨d, ds, h1, h2, h3, h4, q⟩
end
theorem inB_ok {Z : Wd} {H : Hp} {f : Fz} {g : List D} {d e : D} {x y : V} {b : Bool} (r1 : Rv Z H f d x) (r2 : Rv Z H f e y) (hs : Hs Z H f g) (h : inB d e g = some b) :
    (∃ a kvs k, y = .ref a ∧ Rd H a (.dK kvs) ∧ x = kV k ∧ b = (valV kvs k).isSome) ∨ (∃ i j, x = .str i ∧ y = .str j ∧ b = !(Builtin.Str.occurrences j i 0 j.length 1).isEmpty) ∨
    (∃ d ds, Dp Z.K H x d ∧ Dp Z.K H y (.list ds) ∧ SeqAt.shaped d = true ∧ SeqAt.shaped (.list ds) = true ∧ b = ds.any fun z => PyData.eqv z d) ∨
    ∃ d ds, Dp Z.K H x d ∧ Dp Z.K H y (.tuple ds) ∧ SeqAt.shaped d = true ∧ SeqAt.shaped (.tuple ds) = true ∧ b = ds.any fun z => PyData.eqv z d := by
  unfold inB at h
  split at h
  · rename_i kvs he
    simp only [Option.bind_eq_some_iff] at h
    obtain ⟨k, hk, h⟩ := h
    cases h
    obtain ⟨a, ws, rfl, hd, pk⟩ := see_dct hs r2 he
    refine .inl ⟨a, ws, k, rfl, hd, ?_, ?_⟩
    · cases hv : vw g d <;> rw [hv] at hk <;> simp only [keyD] at hk <;> cases hk
      · exact see_int hs r1 hv
      · exact see_str hs r1 hv
    · obtain ⟨l1, l2⟩ := lookK_some (k := k) pk
      cases hl : lookK kvs k with
      | none => rw [l2 hl]; rfl
      | some z => obtain ⟨v, hv, _⟩ := l1 z hl; rw [hv]; rfl
  · rename_i j he
    split at h
    · rename_i i hd
      cases h
      exact .inr (.inl ⟨i, j, see_str hs r1 hd, see_str hs r2 he, rfl⟩)
    · cases h
  · rename_i xs he
    simp only [Option.bind_eq_some_iff] at h
    obtain ⟨p, h1, ps, h2, h3⟩ := h
    split at h3
    · rename_i hh
      cases h3
      exact .inr (.inr (.inl ⟨p, ps, dp_vw hs r1 h1, dp_vw hs r2 (p := .list ps) (by rw [he]; simp [toP, h2]), hh.1, hh.2, rfl⟩))
    · cases h3
  · rename_i xs he
    simp only [Option.bind_eq_some_iff] at h
    obtain ⟨p, h1, ps, h2, h3⟩ := h
    split at h3
    · rename_i hh
      cases h3
      exact .inr (.inr (.inr ⟨p, ps, dp_vw hs r1 h1, dp_vw hs r2 (p := .tuple ps) (by rw [he]; simp [toP, h2]), hh.1, hh.2, rfl⟩))
    · cases h3
  · cases h
theorem kIn_ok {Z : Wd} : Op2 Z (rInAll Z.K false) kIn := fun E x y d e H f g Q r1 r2 hs p => by
  unfold kIn at p
  split at p
  · rename_i b h
    exact ⟨b, inB_ok r1 r2 hs h, post_now p hs (by simp only [Rp]; rfl)⟩
  · exact p.elim
theorem kNotIn_ok {Z : Wd} : Op2 Z (rInAll Z.K true) kNotIn := fun E x y d e H f g Q r1 r2 hs p => by
  unfold kNotIn at p
  split at p
  · rename_i b h
    exact ⟨b, inB_ok r1 r2 hs h, post_now p hs (by simp only [Rp]; rfl)⟩
  · exact p.elim

section
variable {X : Cx} {E : XK} {W : List Kd} {pos : Pos} {sc : Scope} {N : List Str} {k : Nat} {df : Bool}
theorem Gd.u64 (G : Gd X E sc N k df) : X.A.units + 65 < cLine := by have := G.room.un; omega
section
variable {a b : Expr} {ma mb : M D}
theorem px_eq (G : Gd X E sc N k df) (ha : VX X E W a ma) (hb : VX X E W b mb) : PX X E W (.Compare a [.Eq] [b] pos) (m2 ma mb kEq) := px_cmp (op_eqD (by have := G.u64; omega)) kEq_ok ha hb
theorem px_ne (G : Gd X E sc N k df) (ha : VX X E W a ma) (hb : VX X E W b mb) : PX X E W (.Compare a [.NotEq] [b] pos) (m2 ma mb kNe) := px_cmp (op_neD (by have := G.u64; omega)) kNe_ok ha hb
theorem tx_eq (G : Gd X E sc N k df) (ha : VX X E W a ma) (hb : VX X E W b mb) : TX X E W (.Compare a [.Eq] [b] pos) (mB (m2 ma mb kEq)) := tx_cmp (op_eqD (by have := G.u64; omega)) kEq_ok ha hb
theorem tx_ne (G : Gd X E sc N k df) (ha : VX X E W a ma) (hb : VX X E W b mb) : TX X E W (.Compare a [.NotEq] [b] pos) (mB (m2 ma mb kNe)) := tx_cmp (op_neD (by have := G.u64; omega)) kNe_ok ha hb
theorem px_in (G : Gd X E sc N k df) (ha : VX X E W a ma) (hb : VX X E W b mb) (hm : behindInMarks .In b = false := by rfl) : PX X E W (.Compare a [.In] [b] pos) (m2 ma mb kIn) := px_cmp (op_inAll G.u64) kIn_ok ha hb hm
theorem px_notin (G : Gd X E sc N k df) (ha : VX X E W a ma) (hb : VX X E W b mb) (hm : behindInMarks .NotIn b = false := by rfl) : PX X E W (.Compare a [.NotIn] [b] pos) (m2 ma mb kNotIn) := px_cmp (op_notInAll G.u64) kNotIn_ok ha hb hm
theorem tx_in (G : Gd X E sc N k df) (ha : VX X E W a ma) (hb : VX X E W b mb) (hm : behindInMarks .In b = false := by rfl) : TX X E W (.Compare a [.In] [b] pos) (mB (m2 ma mb kIn)) := tx_cmp (op_inAll G.u64) kIn_ok ha hb hm
theorem tx_notin (G : Gd X E sc N k df) (ha : VX X E W a ma) (hb : VX X E W b mb) (hm : behindInMarks .NotIn b = false := by rfl) : TX X E W (.Compare a [.NotIn] [b] pos) (mB (m2 ma mb kNotIn)) := tx_cmp (op_notInAll G.u64) kNotIn_ok ha hb hm
end

/-! ### and, or, not, if -/
def mAndT (a b : M Bool) : M Bool := fun ρ g => (a ρ g).bind fun t g' => if t = true then b ρ g' else .ok false g'
def mOrT (a b : M Bool) : M Bool := fun ρ g => (a ρ g).bind fun t g' => if t = true then .ok true g' else b ρ g'
def mNotT (a : M Bool) : M Bool := fun ρ g => (a ρ g).bind fun t g' => .ok (!t) g'
def UX (X : Cx) (E : XK) (W : List Kd) (e : Expr) (m : M Bool) : Prop := PW X e (tT (wd X) E W m)
theorem PW.imp {X : Cx} {e : Expr} {t t' : TT} (h : PW X e t) (i : ∀ σ H Q, t' σ H Q → t σ H Q) : PW X e t' := ⟨fun wh pins s σ H Q I q => h.run wh pins s σ H Q I (i σ H Q q)⟩
theorem ux_and1 {a : Expr} {m : M Bool} (h : TX X E W a m) : UX X E W (.BoolOp .And [a] pos) m := pw_and1 h
theorem ux_or1 {a : Expr} {m : M Bool} (h : TX X E W a m) : UX X E W (.BoolOp .Or [a] pos) m := pw_or1 h
theorem ux_and {a b : Expr} {rest : List Expr} {m n : M Bool} (h : TX X E W a m) (t : UX X E W (.BoolOp .And (b :: rest) pos) n) : UX X E W (.BoolOp .And (a :: b :: rest) pos) (mAndT m n) := PW.imp (pw_and h t) fun σ H Q q => by
  refine tG.bind (rel := relB) (k := fun t ρ g' => if t = true then n ρ g' else .ok false g') q fun t v H1 f1 ρ g1 s1 hs1 r1 p1 => ?_
  cases r1
  cases t with
  | true => rw [if_pos rfl] at p1 ⊢; exact ⟨f1, ρ, g1, s1, hs1, p1⟩
  | false => rw [if_neg (by decide)] at p1 ⊢; exact p1 false H1 f1 (Ex.refl _ _) hs1 rfl
theorem ux_or {a b : Expr} {rest : List Expr} {m n : M Bool} (h : TX X E W a m) (t : UX X E W (.BoolOp .Or (b :: rest) pos) n) : UX X E W (.BoolOp .Or (a :: b :: rest) pos) (mOrT m n) := PW.imp (pw_or h t) fun σ H Q q => by
  refine tG.bind (rel := relB) (k := fun t ρ g' => if t = true then .ok true g' else n ρ g') q fun t v H1 f1 ρ g1 s1 hs1 r1 p1 => ?_
  cases r1
  cases t with
  | true => rw [if_pos rfl] at p1 ⊢; exact p1 true H1 f1 (Ex.refl _ _) hs1 rfl
  | false => rw [if_neg (by decide)] at p1 ⊢; exact ⟨f1, ρ, g1, s1, hs1, p1⟩
theorem tx_w {e : Expr} {m : M Bool} (h : UX X E W e m) : TX X E W e m := PW.pt h
theorem tx_not {a : Expr} {m : M Bool} (h : TX X E W a m) : TX X E W (.UnaryOp .Not a pos) (mNotT m) := PT.imp (pt_not h) fun σ H Q q => by
  refine tG.bind (rel := relB) (k := fun t _ g' => .ok (!t) g') q fun t v H1 f1 ρ g1 s1 hs1 r1 p1 => ?_
  cases r1
  exact p1 (!t) H1 f1 (Ex.refl _ _) hs1 rfl
/-- as values -/
def mTV (a : M Bool) : M D := fun ρ g => (a ρ g).bind fun t g' => .ok (.bl t) g'
def mAndV (a b : M D) : M D := fun ρ g => (a ρ g).bind fun d g' => match d with | .bl true => b ρ g' | .bl false => .ok (.bl false) g' | _ => .no
def mOrV (a b : M D) : M D := fun ρ g => (a ρ g).bind fun d g' => match d with | .bl true => .ok (.bl true) g' | .bl false => b ρ g' | _ => .no
def kNot (d : D) (g : List D) : R D := match d with | .bl b => .ok (.bl (!b)) g | _ => .no
theorem px_one {op : BoolOp} {a : Expr} {m : M D} (h : PX X E W a m) : PX X E W (.BoolOp op [a] pos) m := pe_one h
theorem px_and {a b : Expr} {rest : List Expr} {m n : M D} (h : PX X E W a m) (t : PX X E W (.BoolOp .And (b :: rest) pos) n) : PX X E W (.BoolOp .And (a :: b :: rest) pos) (mAndV m n) := PE.imp (pe_and h t) fun σ H Q q => by
  refine tG.bind (rel := relD (wd X)) (k := fun d ρ g' => match d with | .bl true => n ρ g' | .bl false => .ok (.bl false) g' | _ => .no) q fun d v H1 f1 ρ g1 s1 hs1 (r1 : Rp _ _ _ _) p1 => ?_
  cases d with
  | bl t =>
    simp only [Rp] at r1
    refine ⟨t, r1, ?_⟩
    cases t with
    | true => rw [if_pos rfl]; exact ⟨f1, ρ, g1, s1, hs1, p1⟩
    | false => rw [if_neg (by decide)]; exact p1 _ H1 f1 (Ex.refl _ _) hs1 (by simp only [Rp])
  | _ => exact p1.elim
theorem px_or {a b : Expr} {rest : List Expr} {m n : M D} (h : PX X E W a m) (t : PX X E W (.BoolOp .Or (b :: rest) pos) n) : PX X E W (.BoolOp .Or (a :: b :: rest) pos) (mOrV m n) := PE.imp (pe_or h t) fun σ H Q q => by
  refine tG.bind (rel := relD (wd X)) (k := fun d ρ g' => match d with | .bl true => .ok (.bl true) g' | .bl false => n ρ g' | _ => .no) q fun d v H1 f1 ρ g1 s1 hs1 (r1 : Rp _ _ _ _) p1 => ?_
  cases d with
  | bl t =>
    simp only [Rp] at r1
    refine ⟨t, r1, ?_⟩
    cases t with
    | true => rw [if_pos rfl]; exact p1 _ H1 f1 (Ex.refl _ _) hs1 (by simp only [Rp])
    | false => rw [if_neg (by decide)]; exact ⟨f1, ρ, g1, s1, hs1, p1⟩
  | _ => exact p1.elim
theorem px_not {a : Expr} {m : M D} (h : PX X E W a m) : PX X E W (.UnaryOp .Not a pos) (m1 m kNot) := PE.imp (pe_not h) fun σ H Q q => by
  refine tG.bind (rel := relD (wd X)) (k := fun d _ g' => kNot d g') q fun d v H1 f1 ρ g1 s1 hs1 (r1 : Rp _ _ _ _) p1 => ?_
  cases d with
  | bl t =>
    simp only [Rp] at r1
    exact ⟨t, r1, p1 _ H1 f1 (Ex.refl _ _) hs1 (by simp only [Rp])⟩
  | _ => exact p1.elim
def mIte {α : Type} (c : M Bool) (a b : M α) : M α := fun ρ g => (c ρ g).bind fun t g' => if t = true then a ρ g' else b ρ g'
theorem px_ite {c a b : Expr} {mc : M Bool} {ma mb : M D} (hc : TX X E W c mc) (ha : PX X E W a ma) (hb : PX X E W b mb) : PX X E W (.IfExp c a b pos) (mIte mc ma mb) := PE.imp (pe_ifExp hc ha hb) fun σ H Q q => by
  refine tG.bind (rel := relB) (k := fun t ρ g' => if t = true then ma ρ g' else mb ρ g') q fun t v H1 f1 ρ g1 s1 hs1 r1 p1 => ?_
  cases r1
  cases t with
  | true => rw [if_pos rfl] at p1 ⊢; exact ⟨f1, ρ, g1, s1, hs1, p1⟩
  | false => rw [if_neg (by decide)] at p1 ⊢; exact ⟨f1, ρ, g1, s1, hs1, p1⟩
theorem fx_ite {c a b : Expr} {mc : M Bool} {ma mb : M D} (hc : TX X E W c mc) (ha : FX X E W a ma) (hb : FX X E W b mb) : FX X E W (.IfExp c a b pos) (mIte mc ma mb) := PE.imp (pe_ifExp hc ha hb) fun σ H Q q => by
  obtain ⟨f, ρ, g, s, hs, p⟩ := q
  refine ⟨f, ρ, g, s, hs, postF.bind p fun t g1 v H1 f1 _ e1 hs1 r1 p1 => ?_⟩
  cases r1
  cases t with
  | true => rw [if_pos rfl] at p1 ⊢; exact ⟨f1, ρ, g1, s.ext e1, hs1, p1⟩
  | false => rw [if_neg (by decide)] at p1 ⊢; exact ⟨f1, ρ, g1, s.ext e1, hs1, p1⟩
end
end TL
end

section
set_option Elab.async false
set_option linter.all false
set_option autoImplicit false
set_option maxRecDepth 100000
/-! TL, part i: truth, len, items, fields, slices, isinstance, list(), tuple(), dict(), all, any -/
namespace TL
open PySem PySem.Spec PyProof.Rows L2
variable [TabL]

section
variable {X : Cx} {E : XK} {W : List Kd} {pos : Pos} {sc : Scope} {N : List Str} {k : Nat} {df : Bool}

/-! ### truth -/
def truB (d : D) (g : List D) : Option Bool := match vw g d with
  | .non => some false
  | .bl b => some b
  | .int i => some (i != 0)
  | .str x => if x.length ≤ 16777216 then some ((x.length : Int) != 0) else none
  | .lst xs => some (!xs.isEmpty)
  | .tup xs => some (!xs.isEmpty)
  | .dct kvs => some (!kvs.isEmpty)
  | _ => none
def mTru (m : M D) : M Bool := fun ρ g => (m ρ g).bind fun d g' => match truB d g' with | some b => .ok b g' | none => .no
theorem pd_isEmpty {α β : Type} {R : α → β → Prop} {a : List α} {b : List β} (h : Paired R a b) : a.isEmpty = b.isEmpty := by cases h <;> rfl
theorem rv_non' {Z : Wd} {H : Hp} {f : Fz} {g : List D} {d : D} {v : V} (hs : Hs Z H f g) (r : Rv Z H f d v) (e : vw g d = .non) : v = .non := by
  rcases r with r | ⟨a, o, rfl, _, _, h, r⟩
  · rcases vw_cases d g with ⟨j, x, rfl, hx, q⟩ | ⟨j, rfl, hx, q⟩ | ⟨n, q⟩
    · rw [q] at e; subst e
      obtain ⟨a, o, rfl, _, _, h, ro, _⟩ := hot_at hs r hx
      cases o <;> simp only [RpO] at ro
    · exfalso
      simp only [Rp] at r
      obtain ⟨a, rfl, h⟩ := r
      have : j < g.length := by rw [← hs.len]; exact (List.getElem?_eq_some_iff.mp h).1
      rw [List.getElem?_eq_none_iff] at hx
      omega
    · rw [q] at e; subst e; simpa only [Rp] using r
  · rw [vw_own r] at e; subst e
    cases o <;> simp only [RpO] at r
theorem truB_run {Z : Wd} {pins : List (Addr × Obj)} {σ : L2.St} {H : Hp} {s : Shared} {f : Fz} {g : List D} {d : D} {x : V} {v : Value} {b : Bool} {Q : Bool → Shared → Prop} (hZ : Z = wd X) (I : Inv X pins σ H s) (hs : Hs Z H f g) (r : Rv Z H f d x) (rv : RelV x v) (h : truB d g = some b)
    (q : ∀ s', Inv X pins σ H s' → Q b s') : wpAny (model X.prog X.w) X.A (truthy v) Q X.xe s := by
  subst hZ
  have tr : ∀ k, TruV X.K x H k → k = b → wpAny (model X.prog X.w) X.A (truthy v) Q X.xe s := fun k h e => by
    refine thn (tru_ok pins s σ H x v (fun c H' => c = b ∧ H' = H) I rv ⟨k, h, e, rfl⟩) fun c s' ⟨H', I', e1, e2⟩ => ?_
    subst e1 e2
    exact q s' I'
  unfold truB at h
  split at h
  · rename_i e; cases h; exact tr false (by rw [rv_non' hs r e]; rfl) rfl
  · rename_i e; cases h; exact tr _ (by rw [see_bl hs r e]; rfl) rfl
  · rename_i i e; cases h; exact tr _ (by rw [see_int hs r e]; rfl) rfl
  · rename_i y e
    split at h
    · rename_i hl; cases h; exact tr _ (by rw [see_str hs r e]; exact ⟨by rw [sl_eq]; exact hl, rfl⟩) rfl
    · cases h
  · rename_i xs e; cases h
    obtain ⟨a, vs, rfl, e1, p1⟩ := see_lst hs r e
    exact tr _ (.inl ⟨vs, .of e1, rfl⟩) (by rw [pd_isEmpty p1])
  · rename_i xs e; cases h
    obtain ⟨a, vs, rfl, e1, p1⟩ := see_tup hs r e
    exact tr _ (.inr (.inl ⟨vs, e1, rfl⟩)) (by rw [pd_isEmpty p1])
  · rename_i xs e; cases h
    obtain ⟨a, vs, rfl, e1, p1⟩ := see_dct hs r e
    cases (show v = Value.ref a from rv)
    exact d_truth I e1 fun s' I' => by rw [← pd_isEmpty p1]; exact q s' I'
  · cases h
theorem tx_tru {a : Expr} {m : M D} (ha : VX X E W a m) (he : ∀ whole, isTrue a X.env whole = (do let v ← whole; standAt a.pos; holding [v] (truthy v)) := by intro _; rfl) : TX X E W a (mTru m) := by
  refine ⟨fun pins s σ H Q I q => ?_⟩
  obtain ⟨f, ρ, g, sr, hs, p⟩ := q
  refine isTrue_plain (thn ((show PE X a _ from ha).run pins s σ H (fun v H1 => ∃ f1 g1 d b, Hs (wd X) H1 f1 g1 ∧ Rv (wd X) H1 f1 d v ∧ truB d g1 = some b ∧ Q b H1) I ⟨f, ρ, g, sr, hs, ?_⟩) fun v s1 ⟨x, H1, I1, r1, f1, g1, d, b, hs1, rd, hb, q1⟩ => ?_) (he _)
  · refine post.bind p fun d g1 v H1 f1 _ e1 hs1 r1 p1 => ?_
    split at p1
    · rename_i b hb
      exact ⟨f1, g1, d, b, hs1, r1, hb, p1 b H1 f1 (Ex.refl _ _) hs1 rfl⟩
    · exact p1.elim
  · exact truB_run rfl I1 hs1 rd r1 hb fun s' I' => ⟨H1, I', q1⟩

/-! ### len -/
def kLen (ds : List D) (g : List D) : R D := match ds with
  | [d] => (match vw g d with
    | .str x => if x.length ≤ 16777216 then .ok (.int x.length) g else .no
    | .lst xs => .ok (.int xs.length) g
    | .tup xs => .ok (.int xs.length) g
    | .dct kvs => .ok (.int kvs.length) g
    | _ => .no)
  | _ => .no
def rLenA (K : PySem.W.Frag) : List V → Hp → VK → Prop := fun xs H Q => (∃ x n, xs = [x] ∧ LenV K x H n ∧ Q (.int n) H) ∨ ∃ a kvs, xs = [.ref a] ∧ Rd H a (.dK kvs) ∧ Q (.int kvs.length) H
theorem call_lenA : CallR X (.builtin "len") (rLenA X.K) := by
  intro pins s σ H xs us Q I r h
  rcases h with h | ⟨a, kvs, rfl, hd, q⟩
  · exact call_len pins s σ H xs us Q I r h
  · obtain ⟨u, rfl, rx⟩ := vals1 r
    cases (show u = Value.ref a from rx)
    exact d_len I hd fun t s' I' => ⟨.int kvs.length, H, I', ⟨t, rfl⟩, q⟩
theorem kLen_ok {Z : Wd} : OpL Z (rLenA Z.K) kLen := fun E vs ds H f g Q r hs p => by
  unfold kLen at p
  split at p
  · rename_i d
    cases r with
    | cons r1 rr =>
      cases rr
      split at p
      · rename_i x e
        split at p
        · rename_i hl
          exact .inl ⟨_, x.length, rfl, by rw [see_str hs r1 e]; exact ⟨by rw [sl_eq]; exact hl, rfl⟩, post_now p hs (by simp only [Rp])⟩
        · exact p.elim
      · rename_i xs e
        obtain ⟨a, ws, rfl, e1, p1⟩ := see_lst hs r1 e
        exact .inl ⟨_, ws.length, rfl, .inl ⟨ws, .of e1, rfl⟩, by rw [← PySem.Paired.length p1]; exact post_now p hs (by simp only [Rp])⟩
      · rename_i xs e
        obtain ⟨a, ws, rfl, e1, p1⟩ := see_tup hs r1 e
        exact .inl ⟨_, ws.length, rfl, .inr ⟨ws, e1, rfl⟩, by rw [← PySem.Paired.length p1]; exact post_now p hs (by simp only [Rp])⟩
      · rename_i xs e
        obtain ⟨a, ws, rfl, e1, p1⟩ := see_dct hs r1 e
        exact .inr ⟨a, ws, rfl, e1, by rw [← PySem.Paired.length p1]; exact post_now p hs (by simp only [Rp])⟩
      · exact p.elim
  · exact p.elim
theorem px_len (G : Gd X E sc N k df) (hm : X.mg "len" = none) {p : Pos} {e : Expr} {ma : M (List D)} (ha : AV X E W [e] ma) (hg : glB sc "len" = true := by rfl) (he : starEach [e] X.env = (false, eval e X.env) :: starEach [] X.env := by rfl) :
    PX X E W (.Call (.Name "len" p) [e] [] pos) (mL ma kLen) := px_b call_lenA kLen_ok (G.gl hg).1 hm PySem.boot_len ha (G.gl hg).2.2 (G.gl hg).2.1 he rfl

/-! ### items -/
/-- x[i]: an item of a list or tuple, a sign, what a dict holds -/
def kIdx (d e : D) (g : List D) : R D := match vw g d with
  | .lst xs => (match vw g e with | .int i => (match atI xs i with | some c => .ok c g | none => .no) | _ => .no)
  | .tup xs => (match vw g e with | .int i => (match atI xs i with | some c => .ok c g | none => .no) | _ => .no)
  | .str x => (match vw g e with | .int i => if x.length ≤ 16777216 then (match atI x.cps.toList i with | some c => .ok (.str ⟨#[c]⟩) g | none => .no) else .no | _ => .no)
  | .dct kvs => (match keyD (vw g e) with | some q => (match lookK kvs q with | some c => .ok c g | none => .no) | none => .no)
  | _ => .no
def rIxD : R2 := fun x y H Q => ∃ a kvs q v, x = .ref a ∧ Rd H a (.dK kvs) ∧ y = kV q ∧ valV kvs q = some v ∧ Q v H
theorem ix_dict (hu : X.A.units + 1 < cLine) : IxR X rIxD := by
  intro value slice pins s σ H x y v u Q I rx ry h hs
  obtain ⟨a, kvs, q, w, rfl, hd, rfl, hv, qq⟩ := h
  cases (show v = Value.ref a from rx)
  have ty : s.TypeIs (.ref a) "dict" := by
    obtain ⟨_, _, vs, _, o, es, ep, e, c, _⟩ := (show ObjOk X.prog X.w H s.heap a (.dK kvs) from hd.ok I.hok)
    exact ⟨o, e, c.1⟩
  have lk : typeLookup (.type "dict") "__getitem__" = pure (some (.builtin "dict.__getitem__")) := PySem.F.slot_dict_getitem.lookup
  have core : wpAny (model X.prog X.w) X.A (subscripted slice false (.ref a) u) (fun r s₃ => wpAny (model X.prog X.w) X.A (letTemporaryGo value (.ref a) r >>= fun _ => pure r) (EP X pins σ Q) X.xe s₃) X.xe s := by
    rw [hs]
    refine wpAny_operating (d_getItem hu I (v := w) (.inl ⟨kvs, q, hd, rfl, hv.symm⟩) ry fun w' s' I' rw' => ?_)
    exact wpAny_bind (wpAny_letTemporaryGo (wpAny_pure ⟨w, H, I', rw', qq⟩))
  show wpAny _ _ (subscriptTail value slice (.ref a) u) _ _ _
  unfold subscriptTail
  refine wpAny_bind ?_
  rw [getitemInPython_of_ne ty.not_modules]
  refine wpAny_bind (wpAny_specialOf ty lk ?_)
  first | exact wpAny_pure (wpAny_bind core) | exact wpAny_bind (wpAny_pure (wpAny_bind core)) | exact wpAny_bind core
def rIxA (K : PySem.W.Frag) : R2 := fun x y H Q => rIx K x y H Q ∨ rIxD x y H Q
theorem rv_keyD {Z : Wd} {H : Hp} {f : Fz} {g : List D} {d : D} {v : V} {q : Key} (hs : Hs Z H f g) (r : Rv Z H f d v) (e : keyD (vw g d) = some q) : v = kV q := by
  cases hv : vw g d <;> rw [hv] at e <;> simp only [keyD] at e <;> cases e
  · exact see_int hs r hv
  · exact see_str hs r hv
theorem atI_pd {α β : Type} {R : α → β → Prop} {a : List α} {b : List β} (h : Paired R a b) {i : Int} {x : α} (e : atI a i = some x) : ∃ y, atI b i = some y ∧ R x y := by
  unfold atI at e ⊢
  rw [← PySem.Paired.length h]
  obtain ⟨j, e1, e2⟩ := Option.bind_eq_some_iff.mp e
  obtain ⟨y, h1, h2⟩ := pd_get h e2
  exact ⟨y, by rw [e1]; exact h1, h2⟩
theorem kIdx_ok {Z : Wd} : Op2 Z (rIxA Z.K) kIdx := fun E x y d e H f g Q r1 r2 hs p => by
  unfold kIdx at p
  split at p
  · rename_i xs hd
    split at p
    · rename_i i hi
      split at p
      · rename_i c hc
        obtain ⟨a, vs, rfl, e1, p1⟩ := see_lst hs r1 hd
        obtain ⟨z, hz, rz⟩ := atI_pd p1 hc
        exact .inl (.inl ⟨a, vs, i, z, rfl, see_int hs r2 hi, .of e1, hz, post_now p hs rz⟩)
      · exact p.elim
    · exact p.elim
  · rename_i xs hd
    split at p
    · rename_i i hi
      split at p
      · rename_i c hc
        obtain ⟨a, vs, rfl, e1, p1⟩ := see_tup hs r1 hd
        obtain ⟨z, hz, rz⟩ := atI_pd p1 hc
        exact .inl (.inr (.inl ⟨a, vs, i, z, rfl, see_int hs r2 hi, e1, hz, post_now p hs rz⟩))
      · exact p.elim
    · exact p.elim
  · rename_i z hd
    split at p
    · rename_i i hi
      split at p
      · rename_i hl
        split at p
        · rename_i c hc
          exact .inl (.inr (.inr ⟨z, i, c, see_str hs r1 hd, see_int hs r2 hi, by rw [sl_eq]; exact hl, hc, post_now p hs (by simp only [Rp])⟩))
        · exact p.elim
      · exact p.elim
    · exact p.elim
  · rename_i kvs hd
    split at p
    · rename_i q hq
      split at p
      · rename_i c hc
        obtain ⟨a, ws, rfl, e1, p1⟩ := see_dct hs r1 hd
        obtain ⟨v, hv, rv⟩ := (lookK_some (k := q) p1).1 c hc
        exact .inr ⟨a, ws, q, v, rfl, e1, rv_keyD hs r2 hq, hv, post_now p hs rv⟩
      · exact p.elim
    · exact p.elim
  · exact p.elim
theorem px_idx (G : Gd X E sc N k df) {a b : Expr} {ma mb : M D} (ha : VX X E W a ma) (hb : VX X E W b mb) (hp : PlainIx b := by intro _ _; rfl) : PX X E W (.Subscript a b pos) (m2 ma mb kIdx) :=
  PE.imp (pe_ix (r := rIxA X.K) (ix_seq.or (ix_dict (by have := G.u64; omega))) ha hb hp) fun σ H Q q => tE2 kIdx_ok q

/-! ### fields -/
/-- an own class: what the text says of it -/
structure Kl (K : PySem.W.Frag) (mg : Str → Option Value) (c : Str) (fs : List Str) : Prop where
  ex : ∃ C, mg c = some (.ref C) ∧ Cls K C ∧ ∀ f ∈ fs, NoAttr K C f
def lookF (fs : List (Str × D)) (x : Str) : Option D := fs.lookup x
/-- d.x, d an instance of one of the classes cs -/
def kFld (cs : List Str) (x : Str) (d : D) (g : List D) : R D := match vw g d with
  | .ins c fs => if c ∈ cs then (match fs.lookup x with | some e => .ok e g | none => .no) else .no
  | _ => .no
theorem lookF_pd {Z : Wd} {f : Fz} {x : Str} : ∀ {a : List (Str × D)} {b : List (Str × V)}, Paired (PF Z f) a b → ∀ {e : D}, a.lookup x = some e → ∃ v, b.lookup x = some v ∧ Rp Z f e v
  | _, _, .nil, e, h => (nomatch h)
  | (n, d) :: as, (n', v) :: bs, .cons r t, e, h => by
    obtain ⟨r1, r2⟩ := r
    have r1 : n = n' := r1
    subst r1
    simp only [List.lookup] at h ⊢
    split at h
    · rename_i q; cases h; exact ⟨v, rfl, r2⟩
    · exact lookF_pd t h
theorem px_fld {cs : List Str} {x : Str} {e : Expr} {m : M D} (hk : ∀ c ∈ cs, Kl X.K X.mg c [x]) (he : VX X E W e m) (hb : attributeBase e x X.env (eval e X.env) = eval e X.env := by rfl) : PX X E W (.Attribute e x pos) (m1 m (kFld cs x)) := PE.imp (pe_fld he hb) fun σ H Q q => by
  refine tG.bind (rel := relV (wd X)) (k := fun d _ g1 => kFld cs x d g1) q fun d v H1 f1 ρ g1 s1 hs1 (r1 : Rv _ _ _ _ _) p1 => ?_
  unfold kFld at p1
  split at p1
  · rename_i c fs h
    split at p1
    · rename_i hc
      split at p1
      · rename_i d' hd
        obtain ⟨a, C, dx, vs, rfl, e1, e2, e3⟩ := see_ins hs1 r1 h
        obtain ⟨C', hC, hcl, hno⟩ := (hk c hc).ex
        have : C = C' := by
          have e2' : X.mg c = some (.ref C) := e2
          rw [hC] at e2'; cases e2'; rfl
        subst this
        obtain ⟨w, hw, rw'⟩ := lookF_pd e3 hd
        exact ⟨a, C, dx, vs, w, rfl, e1, hcl, hno x (by simp), hw, post_now p1 hs1 rw'⟩
      · exact p1.elim
    · exact p1.elim
  · exact p1.elim

/-! ### slices -/
def mNone : M (Option Int) := fun _ g => .ok none g
def mSome (m : M D) : M (Option Int) := fun ρ g => (m ρ g).bind fun d g' => match vw g' d with | .int i => .ok (some i) g' | _ => .no
abbrev relO : Hp → Fz → Option Int → Option Int → Prop := fun _ _ a b => b = a
def OX (X : Cx) (E : XK) (W : List Kd) (e : Option Expr) (m : M (Option Int)) : Prop := PO X e (tG relO (wd X) E W m)
theorem PO.imp {X : Cx} {e : Option Expr} {t t' : TO} (h : PO X e t) (i : ∀ σ H Q, t' σ H Q → t σ H Q) : PO X e t' := ⟨fun pins s σ H Q I q => h.run pins s σ H Q I (i σ H Q q)⟩
theorem ox_none : OX X E W none mNone := PO.imp po_none fun σ H Q q => by
  obtain ⟨f, ρ, g, s, hs, p⟩ := q
  exact p none H f (Ex.refl H f) hs rfl
theorem ox_some {e : Expr} {m : M D} (h : VX X E W e m) : OX X E W (some e) (mSome m) := PO.imp (po_some h) fun σ H Q q => by
  refine tG.bind (rel := relV (wd X)) (k := fun d _ g' => match vw g' d with | .int i => .ok (some i) g' | _ => .no) q fun d v H1 f1 ρ g1 s1 hs1 (r1 : Rv _ _ _ _ _) p1 => ?_
  split at p1
  · rename_i i h
    exact ⟨i, see_int hs1 r1 h, p1 (some i) H1 f1 (Ex.refl _ _) hs1 rfl⟩
  · exact p1.elim
def cutL {α : Type} (xs : List α) (lo hi : Option Int) : List α := (xs.drop (HT.sIx xs.length 0 lo)).take (HT.sIx xs.length xs.length hi - HT.sIx xs.length 0 lo)
theorem cutL_pd {α β : Type} {R : α → β → Prop} {a : List α} {b : List β} (h : Paired R a b) (lo hi : Option Int) : Paired R (cutL a lo hi) (cutL b lo hi) := by
  unfold cutL
  rw [← PySem.Paired.length h]
  exact pd_take _ (pd_drop _ h)
/-- a list's slice: a new list -/
def mSl (m : M D) (lo hi : M (Option Int)) (k : D → Option Int → Option Int → List D → R D) : M D := fun ρ g => (m ρ g).bind fun d g1 => (lo ρ g1).bind fun l g2 => (hi ρ g2).bind fun h g3 => k d l h g3
def kSl (d : D) (lo hi : Option Int) (g : List D) : R D := match vw g d with
  | .lst xs => .ok (.lst (cutL xs lo hi)) g
  | _ => .no
theorem fx_sl {e : Expr} {lo hi : Option Expr} {p2 : Pos} {m : M D} {ml mh : M (Option Int)} (he : VX X E W e m) (hl : OX X E W lo ml) (hh : OX X E W hi mh) : FX X E W (.Subscript e (.Slice lo hi none p2) pos) (mSl m ml mh kSl) := PE.imp (pe_slice sl_list he hl hh) fun σ H Q q => by
  obtain ⟨f, ρ, g, s, hs, p⟩ := q
  refine ⟨f, ρ, g, s, hs, postF.bind p fun d g1 x H1 f1 _ e1 hs1 r1 p1 => ?_⟩
  refine ⟨f1, ρ, g1, s.ext e1, hs1, postF.bind p1 fun l g2 l' H2 f2 _ e2 hs2 r2 p2 => ?_⟩
  cases r2
  refine ⟨f2, ρ, g2, (s.ext e1).ext e2, hs2, postF.bind p2 fun h g3 h' H3 f3 _ e3 hs3 r3 p3 => ?_⟩
  cases r3
  have rr : Rv (wd X) H3 f3 d x := (Rv.ext r1 e2).ext e3
  unfold kSl at p3
  split at p3
  · rename_i xs hx
    obtain ⟨a, vs, rfl, h1, h2⟩ := see_lst hs3 rr hx
    exact ⟨a, vs, rfl, .of h1, fun q hq => p3 q (.lst (cutV vs l h)) _ f3 (Ex.laid hs3 hq) (hs3.laid hq) (Nw.laid hs3 hq (cutL_pd h2 l h))⟩
  · exact p3.elim
end
end TL
end

section
set_option Elab.async false
set_option linter.all false
set_option autoImplicit false
set_option maxRecDepth 100000
/-! TL, part j: isinstance -/
namespace TL
open PySem PySem.Spec PyProof.Rows L2
variable [TabL]

/-- a class: a built-in one, an own one -/
inductive Cl where
  | bt (T : String) | own (c : Str)
  deriving DecidableEq
def bB (a b : String) : Bool := a == b || (a == "bool" && b == "int")
theorem bB_ok : ∀ a ∈ bts7, ∀ b ∈ bts, kitB a b = some (bB a b) := by decide +kernel
/-- is d one of c -/
def isB (tb : Str → Str → Bool) : D → Cl → Bool
  | .non, .bt T => bB "NoneType" T
  | .bl _, .bt T => bB "bool" T
  | .int _, .bt T => bB "int" T
  | .str _, .bt T => bB "str" T
  | .lst _, .bt T => bB "list" T
  | .tup _, .bt T => bB "tuple" T
  | .dct _, .bt T => bB "dict" T
  | .ins c _, .own c' => tb c c'
  | _, _ => false
/-- what the text's classes are to isinstance -/
structure KI (K : PySem.W.Frag) (mg : Str → Option Value) (ks : List Str) (tb : Str → Str → Bool) : Prop where
  cls : ∀ c ∈ ks, ∃ C, mg c = some (.ref C) ∧ Cls K C ∧ PySem.W.findIn K (.ref C) "__class__" = some (some (.builtin "object.__class__")) ∧ PySem.W.mroIn K C (.type "object") = some true ∧
    (∀ T ∈ bts, PySem.W.kitOne K (.ref C) (.type T) = some false) ∧ (∀ T ∈ bts7, PySem.W.kitOne K (.type T) (.ref C) = some false)
  two : ∀ c ∈ ks, ∀ c' ∈ ks, ∀ C C', mg c = some (.ref C) → mg c' = some (.ref C') → PySem.W.kitOne K (.ref C) (.ref C') = some (tb c c')
  hn : PySem.W.specialIn K (.builtin "object.__class__") "__get__" = some (some (.builtin "getset_descriptor.__get__"))
  htk : PySem.W.takesIn K (.builtin "object.__class__") = some true
def clOk (ks : List Str) : Cl → Bool
  | .bt T => decide (T ∈ bts)
  | .own c => decide (c ∈ ks)
/-- the value of a class, and what V it is -/
inductive ClV (mg : Str → Option Value) : Cl → V → Value → Prop where
  | bt (T : String) : ClV mg (.bt T) (.ty T) (.type T)
  | own (c : Str) (C : Addr) (h : mg c = some (.ref C)) : ClV mg (.own c) (.ref C) (.ref C)
theorem ClV.c {mg : Str → Option Value} {c : Cl} {v : V} {u : Value} (h : ClV mg c v u) : ClsV v u := by
  cases h with
  | bt T => exact .ty T
  | own c C _ => exact .own C
/-- is isinstance told of d -/
def knownB (ks : List Str) : D → Bool
  | .ins c _ => decide (c ∈ ks)
  | .fn _ => false
  | .hot _ => false
  | .gv _ => false
  | .exc _ _ => false
  | .lam _ _ => false
  | _ => true
section
variable {Z : Wd} {ks : List Str} {tb : Str → Str → Bool} {H : Hp} {f : Fz} {g : List D} {d : D} {v : V}
/-- the type of what d is -/
theorem kit_d (ki : KI Z.K Z.mg ks tb) (hs : Hs Z H f g) (r : Rv Z H f d v) (h : knownB ks (vw g d) = true) :
    ∃ t, TyX Z.K H v t ∧ ∀ c w u, clOk ks c = true → ClV Z.mg c w u → PySem.W.kitOne Z.K t u = some (isB tb (vw g d) c) := by
  have bt : ∀ T ∈ bts7, ∀ c w u, clOk ks c = true → ClV Z.mg c w u → (∀ T', c = .bt T' → isB tb (vw g d) c = bB T T') → (∀ k, c = .own k → isB tb (vw g d) c = false) → PySem.W.kitOne Z.K (.type T) u = some (isB tb (vw g d) c) := by
    intro T hT c w u ok cv h1 h2
    cases cv with
    | bt T' =>
      rw [h1 T' rfl]
      exact kit_ty (bB_ok T hT T' (of_decide_eq_true ok))
    | own k C hm =>
      rw [h2 k rfl]
      obtain ⟨C', e1, _, _, _, _, e2⟩ := ki.cls k (of_decide_eq_true ok)
      rw [hm] at e1; cases e1
      exact e2 T hT
  cases hv : vw g d with
  | non => rw [hv] at bt; cases rv_non' hs r hv; exact ⟨_, .base .non, fun c w u ok cv => bt "NoneType" (by decide) c w u ok cv (fun T e => by rw [e]; rfl) (fun k e => by rw [e]; rfl)⟩
  | bl b => rw [hv] at bt; cases see_bl hs r hv; exact ⟨_, .base (.bl b), fun c w u ok cv => bt "bool" (by decide) c w u ok cv (fun T e => by rw [e]; rfl) (fun k e => by rw [e]; rfl)⟩
  | int b => rw [hv] at bt; cases see_int hs r hv; exact ⟨_, .base (.int b), fun c w u ok cv => bt "int" (by decide) c w u ok cv (fun T e => by rw [e]; rfl) (fun k e => by rw [e]; rfl)⟩
  | str b => rw [hv] at bt; cases see_str hs r hv; exact ⟨_, .base (.str b), fun c w u ok cv => bt "str" (by decide) c w u ok cv (fun T e => by rw [e]; rfl) (fun k e => by rw [e]; rfl)⟩
  | lst xs =>
    rw [hv] at bt
    obtain ⟨a, vs, rfl, e, _⟩ := see_lst hs r hv
    exact ⟨_, .base (.lst e), fun c w u ok cv => bt "list" (by decide) c w u ok cv (fun T e => by rw [e]; rfl) (fun k e => by rw [e]; rfl)⟩
  | tup xs =>
    rw [hv] at bt
    obtain ⟨a, vs, rfl, e, _⟩ := see_tup hs r hv
    have ty : TyX Z.K H (.ref a) (.type "tuple") := by
      rcases e with e | ⟨o, its, n, e, ec, ed, _⟩
      · rcases e with e | ⟨o, e⟩
        · exact .base (.tup e)
        · exact .fTuple e
      · exact .kTuple e ec
    exact ⟨_, ty, fun c w u ok cv => bt "tuple" (by decide) c w u ok cv (fun T e => by rw [e]; rfl) (fun k e => by rw [e]; rfl)⟩
  | dct xs =>
    rw [hv] at bt
    obtain ⟨a, vs, rfl, e, _⟩ := see_dct hs r hv
    have ty : TyX Z.K H (.ref a) (.type "dict") := by
      rcases e with e | ⟨o, e⟩
      · exact .base (.dK e)
      · exact .fDict e
    exact ⟨_, ty, fun c w u ok cv => bt "dict" (by decide) c w u ok cv (fun T e => by rw [e]; rfl) (fun k e => by rw [e]; rfl)⟩
  | ins k fs =>
    rw [hv] at h
    have hk : k ∈ ks := of_decide_eq_true h
    obtain ⟨a, C, dx, vs, rfl, e1, e2, _⟩ := see_ins hs r hv
    obtain ⟨C', q1, q2, q3, q4, q5, q6⟩ := ki.cls k hk
    have e2' : Z.mg k = some (.ref C) := e2
    rw [q1] at e2'; cases e2'
    refine ⟨_, .base (.ins e1 q2 q3 ki.hn ki.htk q4), fun c w u ok cv => ?_⟩
    cases cv with
    | bt T => exact q5 T (of_decide_eq_true ok)
    | own k' C2 hm => exact ki.two k hk k' (of_decide_eq_true ok) _ _ q1 hm
  | fn x => rw [hv] at h; cases h
  | hot i => rw [hv] at h; cases h
  | gv i => rw [hv] at h; cases h
  | exc c fs => rw [hv] at h; cases h
  | lam q fs => rw [hv] at h; cases h
end
def kIsi (ks : List Str) (tb : Str → Str → Bool) (cs : List Cl) (d : D) (g : List D) : R D :=
  if knownB ks (vw g d) = true then .ok (.bl (cs.any (isB tb (vw g d)))) g else .no
section
variable {X : Cx} {E : XK} {sc : Scope} {N : List Str} {k : Nat} {df : Bool} {W : List Kd} {pos : Pos} {ks : List Str} {tb : Str → Str → Bool}
/-- a class's name -/
def NX (X : Cx) (e : Expr) (c : Cl) : Prop := ∃ v u, ClV X.mg c v u ∧ PE X e (tC v)
theorem nx_bt (G : Gd X E sc N k df) {x : Str} {T : String} (hm : X.mg x = none) (hv : bootBuiltins x = some (.type T)) (hg : glB sc x = true := by rfl) : NX X (.Name x pos) (.bt T) :=
  ⟨.ty T, .type T, .bt T, pe_bltn (G.gl hg).1 hm hv rfl (G.gl hg).2.2 (G.gl hg).2.1⟩
theorem nx_own (G : Gd X E sc N k df) {x : Str} (ki : KI X.K X.mg ks tb) (hk : x ∈ ks) (hg : glB sc x = true := by rfl) : NX X (.Name x pos) (.own x) := by
  obtain ⟨C, e, _⟩ := ki.cls x hk
  exact ⟨.ref C, .ref C, .own x C e, pe_glob (G.gl hg).1 e rfl (G.gl hg).2.1⟩
def NXs (X : Cx) : List Expr → List Cl → Prop
  | [], [] => True
  | e :: es, c :: cs => NX X e c ∧ starEach (e :: es) X.env = (false, eval e X.env) :: starEach es X.env ∧ NXs X es cs
  | _, _ => False
theorem nxs_nil : NXs X [] [] := trivial
theorem nxs_cons {e : Expr} {es : List Expr} {c : Cl} {cs : List Cl} (h : NX X e c) (t : NXs X es cs) (hs : starEach (e :: es) X.env = (false, eval e X.env) :: starEach es X.env := by rfl) : NXs X (e :: es) (c :: cs) := ⟨h, hs, t⟩
theorem nxs_pa : ∀ {es : List Expr} {cs : List Cl}, NXs X es cs → ∃ vs us, vs.length = cs.length ∧ Paired ClsV vs us ∧ PA X es (fun _ H Q => Q vs H) ∧ ∀ (K : PySem.W.Frag) (t : Value) (p : Cl → Bool), (∀ c ∈ cs, ∀ w u, ClV X.mg c w u → PySem.W.kitOne K t u = some (p c)) → PySem.W.kitAny K t us = some (cs.any p)
  | [], [], _ => ⟨[], [], rfl, .nil, pa_nil, fun _ _ _ _ => rfl⟩
  | e :: es, c :: cs, ⟨⟨v, u, h1, h2⟩, hs, t⟩ => by
    obtain ⟨vs, us, l, p, q, kk⟩ := nxs_pa t
    refine ⟨v :: vs, u :: us, by simp [l], .cons h1.c p, PA.imp (pa_cons h2 q hs) fun σ H Q z => z, fun K tt pp hh => ?_⟩
    have a1 := hh c (by simp) v u h1
    have a2 := kk K tt pp fun c' hc => hh c' (by simp [hc])
    refine kitAny_cons a1 (fun e => ?_) (fun e => ?_)
    · rw [a2]; simp [e]
    · simp [e]
  | [], _ :: _, h => h.elim
  | _ :: _, [], h => h.elim
theorem boot_isi : bootBuiltins ("isinstance" : Str) = some (.builtin "isinstance") := by kernel_rfl
theorem px_isi (G : Gd X E sc N k df) (ki : KI X.K X.mg ks tb) (hm : X.mg "isinstance" = none) {p : Pos} {e t : Expr} {m : M D} {c : Cl} (he : VX X E W e m) (ht : NX X t c) (hc : clOk ks c = true := by rfl) (hg : glB sc "isinstance" = true := by rfl)
    (he1 : starEach [e, t] X.env = (false, eval e X.env) :: starEach [t] X.env := by rfl) (he2 : starEach [t] X.env = (false, eval t X.env) :: starEach [] X.env := by rfl) :
    PX X E W (.Call (.Name "isinstance" p) [e, t] [] pos) (m1 m (kIsi ks tb [c])) := by
  obtain ⟨v, u, h1, h2⟩ := ht
  refine PE.imp (pe_callB call_isi (G.gl hg).1 hm boot_isi (pa_cons he (pa_cons h2 pa_nil he2) he1) (G.gl hg).2.2 (G.gl hg).2.1 he1 (by rw [he2]; rfl)) fun σ H Q q => ?_
  refine tG.bind (rel := relV (wd X)) (k := fun d _ g1 => kIsi ks tb [c] d g1) q fun d x H1 f1 ρ g1 s1 hs1 (r1 : Rv _ _ _ _ _) p1 => ?_
  unfold kIsi at p1
  split at p1
  · rename_i hk
    obtain ⟨ty, t1, t2⟩ := kit_d (Z := wd X) ki hs1 r1 hk
    refine ⟨x, v, ty, u, isB tb (vw g1 d) c, rfl, h1.c, t1, t2 c v u hc h1, ?_⟩
    refine p1 _ H1 f1 (Ex.refl _ _) hs1 ?_
    simp only [Rp, List.any_cons, List.any_nil, Bool.or_false]
  · exact p1.elim
theorem px_isiT (G : Gd X E sc N k df) (ki : KI X.K X.mg ks tb) (hm : X.mg "isinstance" = none) {p p2 : Pos} {x1 : Nat} {e : Expr} {ts : List Expr} {m : M D} {cs : List Cl} (he : VX X E W e m) (ht : NXs X ts cs) (hc : (cs.all (clOk ks) && decide (cs.length ≤ 16777216)) = true := by rfl) (hg : glB sc "isinstance" = true := by rfl)
    (he1 : starEach [e, .Tuple ts x1 p2] X.env = (false, eval e X.env) :: starEach [.Tuple ts x1 p2] X.env := by rfl) (he2 : starEach [.Tuple ts x1 p2] X.env = (false, eval (.Tuple ts x1 p2) X.env) :: starEach [] X.env := by rfl) :
    PX X E W (.Call (.Name "isinstance" p) [e, .Tuple ts x1 p2] [] pos) (m1 m (kIsi ks tb cs)) := by
  obtain ⟨vs, us, hl, h1, h2, h3⟩ := nxs_pa ht
  rw [Bool.and_eq_true, List.all_eq_true] at hc
  refine PE.imp (pe_callB call_isiT (G.gl hg).1 hm boot_isi (pa_cons he (pa_cons (pe_tup h2) pa_nil he2) he1) (G.gl hg).2.2 (G.gl hg).2.1 he1 (by rw [he2]; rfl)) fun σ H Q q => ?_
  refine tG.bind (rel := relV (wd X)) (k := fun d _ g1 => kIsi ks tb cs d g1) q fun d x H1 f1 ρ g1 s1 hs1 (r1 : Rv _ _ _ _ _) p1 => ?_
  unfold kIsi at p1
  split at p1
  · rename_i hk
    refine ⟨by rw [hl, sl_eq]; exact of_decide_eq_true hc.2, fun a ha => ?_⟩
    have hs2 := hs1.laid (o := .tup vs) ha
    have ex2 := Ex.laid (o := .tup vs) hs1 ha
    obtain ⟨ty, t1, t2⟩ := kit_d (Z := wd X) ki hs2 (r1.ext ex2) hk
    refine ⟨x, a, vs, ty, us, cs.any (isB tb (vw g1 d)), rfl, upd_same, h1, t1, h3 _ _ _ fun c hcm w u cv => t2 c w u (hc.1 c hcm) cv, ?_⟩
    refine p1 _ _ f1 ex2 hs2 ?_
    simp only [Rp]
  · exact p1.elim
end
end TL
end

section
set_option Elab.async false
set_option linter.all false
set_option autoImplicit false
set_option maxRecDepth 100000
/-! TL, part k: built-ins that make containers, sorted, all, any, min, int, str -/
namespace TL
open PySem PySem.Spec PyProof.Rows L2
variable [TabL]

section
variable {X : Cx} {E : XK} {sc : Scope} {N : List Str} {k : Nat} {df : Bool} {W : List Kd} {pos : Pos}

/-! ### list(x), tuple(x) -/
def kListOf (ds : List D) (g : List D) : R D := match ds with
  | [d] => (match vw g d with
    | .lst xs => .ok (.lst xs) g
    | .tup xs => .ok (.lst xs) g
    | .dct kvs => .ok (.lst (kvs.map fun p => kD p.1)) g
    | .gv ns => .ok (.lst (ns.map D.int)) g
    | _ => .no)
  | _ => .no
theorem see_gv {Z : Wd} {H : Hp} {f : Fz} {g : List D} {d : D} {v : V} {ns : List Int} (hs : Hs Z H f g) (r : Rv Z H f d v) (e : vw g d = .gv ns) : ∃ a, v = .ref a ∧ SqL Z.K H a (ns.map V.int) := by
  have no : ∀ o, RpO Z f o (.gv ns) → False := fun o ro => by
    cases o with
    | frz _ u => cases u <;> exact ro
    | _ => exact ro
  rcases r with r | ⟨a, o, rfl, _, _, h, r⟩
  · rcases vw_cases d g with ⟨i, z, e1, e2, e3⟩ | ⟨i, e1, e2, e3⟩ | ⟨e1, e2⟩
    · rw [e3] at e; subst e e1
      obtain ⟨a, o, _, _, _, _, ro, _⟩ := hot_at hs r e2
      exact (no o ro).elim
    · rw [e3] at e; cases e
    · rw [e2] at e
      subst e
      simp only [Rp] at r
      obtain ⟨a, rfl, q⟩ := r
      refine ⟨a, rfl, ?_⟩
      rcases q with ⟨o, q⟩ | q
      · exact .inl (.inr ⟨o, hs.fr _ _ q⟩)
      · exact .inr q
  · rw [vw_own r] at e
    subst e
    exact (no o r).elim
theorem ints_pd {Z : Wd} {f : Fz} : ∀ (ns : List Int), Paired (Rp Z f) (ns.map D.int) (ns.map V.int)
  | [] => .nil
  | n :: ns => .cons (by simp only [Rp]) (ints_pd ns)
def rListOf (K : PySem.W.Frag) : List V → Hp → VK → Prop := fun xs H Q => (∃ p ys, xs = [.ref p] ∧ (SqL K H p ys ∨ SqT K H p ys) ∧ ∀ l, H l = none → Q (.ref l) (upd H l (.lst ys))) ∨
  ∃ (a : Addr) (kvs : List (Key × V)), xs = [.ref a] ∧ Rd H a (.dK kvs) ∧ ∀ p, H p = none → Q (.ref p) (upd H p (.lst (kvs.map fun kv => kV kv.1)))
theorem call_listA (hc : X.calm = true) : CallR X (.type "list") (rListOf X.K) := fun pins s σ H xs us Q I r h => by
  rcases h with h | h
  · exact call_list_of pins s σ H xs us Q I r h
  · exact call_listD hc pins s σ H xs us Q I r h
theorem keys_pd {Z : Wd} {f : Fz} : ∀ {kvs : List (Key × D)} {ws : List (Key × V)}, Paired (PK Z f) kvs ws → Paired (Rp Z f) (kvs.map fun p => kD p.1) (ws.map fun p => kV p.1)
  | _, _, .nil => .nil
  | _, _, .cons r t => .cons (by dsimp only; rw [r.1]; exact rp_kD _ _ _) (keys_pd t)
theorem kListOf_ok {Z : Wd} : OpLF Z (rListOf Z.K) kListOf := fun E vs ds H f g Q r hs p => by
  unfold kListOf at p
  split at p
  · rename_i d
    cases r with
    | cons r1 rr =>
      cases rr
      split at p
      · rename_i xs e
        obtain ⟨a, ws, rfl, e1, p1⟩ := see_lst hs r1 e
        exact .inl ⟨a, ws, rfl, .inl (.of e1), fun l hl => p l (.lst ws) _ f (Ex.laid hs hl) (hs.laid hl) (Nw.laid hs hl p1)⟩
      · rename_i xs e
        obtain ⟨a, ws, rfl, e1, p1⟩ := see_tup hs r1 e
        exact .inl ⟨a, ws, rfl, .inr e1, fun l hl => p l (.lst ws) _ f (Ex.laid hs hl) (hs.laid hl) (Nw.laid hs hl p1)⟩
      · rename_i xs e
        obtain ⟨a, ws, rfl, e1, p1⟩ := see_dct hs r1 e
        exact .inr ⟨a, ws, rfl, e1, fun l hl => p l (.lst _) _ f (Ex.laid hs hl) (hs.laid hl) (Nw.laid hs hl (keys_pd p1))⟩
      · rename_i ns e
        obtain ⟨a, rfl, e1⟩ := see_gv hs r1 e
        exact .inl ⟨a, _, rfl, .inl e1, fun l hl => p l (.lst _) _ f (Ex.laid hs hl) (hs.laid hl) (Nw.laid hs hl (ints_pd ns))⟩
      · exact p.elim
  · exact p.elim
theorem fx_listOf (G : Gd X E sc N k df) (hm : X.mg "list" = none) {p : Pos} {e : Expr} {ma : M (List D)} (ha : AV X E W [e] ma) (hg : glB sc "list" = true := by rfl) (he : starEach [e] X.env = (false, eval e X.env) :: starEach [] X.env := by rfl) :
    FX X E W (.Call (.Name "list" p) [e] [] pos) (mL ma kListOf) := fx_t (call_listA G.calm) kListOf_ok (G.gl hg).1 hm PyProof.Rows.boot_list ha (G.gl hg).2.2 (G.gl hg).2.1 he rfl
/-- a list's own items as a tuple -/
def kTupOf (ds : List D) (g : List D) : R D := match ds with
  | [d] => (match vw g d with
    | .lst xs => .ok (.tup xs) g
    | .tup xs => .ok (.tup xs) g
    | _ => .no)
  | _ => .no
def rTupOf (K : PySem.W.Frag) : List V → Hp → VK → Prop := fun xs H Q => ∃ p ys, xs = [.ref p] ∧ ((SqL K H p ys ∧ ∀ l, H l = none → Q (.ref l) (upd H l (.tup ys))) ∨ (SqT K H p ys ∧ Q (.ref p) H))
/-- a new tuple is frozen -/
theorem post_tup {Z : Wd} {E : XK} {H : Hp} {f : Fz} {g : List D} {xs : List D} {vs : List V} {Q : VK} (p : post (relD Z) Z E H f (.ok (.tup xs) g) Q) (hs : Hs Z H f g) (r : Paired (Rp Z f) xs vs) {a : Addr} (ha : H a = none) : Q (.ref a) (upd H a (.tup vs)) := by
  have fr := hs.free ha
  have ez : frzH default (upd H a (.tup vs)) a = upd H a (.tup vs) := by unfold frzH; rw [upd_same]
  have k1 : Ex H f (frzH default (upd H a (.tup vs)) a) (frz f a (fzO default (.tup vs))) := (Ex.laid hs ha).frz (New.of ha) fr.1
  have k2 : Hs Z (frzH default (upd H a (.tup vs)) a) (frz f a (fzO default (.tup vs))) g := (hs.laid ha).frz upd_same fr.1 fr.2 rfl
  rw [ez] at k1 k2
  refine p (.ref a) _ (frz f a (.tup vs)) k1 k2 ?_
  simp only [Rp]
  exact ⟨a, vs, rfl, .inl upd_same, rpL_iff.mpr (L2.Paired.mapP r fun _ _ z => z.mono (frz_le fr.1))⟩
theorem rv_tup {Z : Wd} {H : Hp} {f : Fz} {g : List D} {d : D} {v : V} {xs : List D} (hs : Hs Z H f g) (r : Rv Z H f d v) (e : vw g d = .tup xs) : Rp Z f (.tup xs) v := by
  rcases r with r | ⟨a, o, rfl, _, _, h, r⟩
  · rcases vw_cases d g with ⟨i, x, rfl, hx, q⟩ | ⟨i, rfl, hx, q⟩ | ⟨n, q⟩
    · rw [q] at e; subst e
      obtain ⟨a, o, rfl, _, _, h, ro, _⟩ := hot_at hs r hx
      cases o <;> simp only [RpO] at ro
    · rw [q] at e; cases e
    · rw [q] at e; subst e; exact r
  · rw [vw_own r] at e; subst e
    cases o <;> simp only [RpO] at r
theorem kTupOf_ok {Z : Wd} : OpL Z (rTupOf Z.K) kTupOf := fun E vs ds H f g Q r hs p => by
  unfold kTupOf at p
  split at p
  · rename_i d
    cases r with
    | cons r1 rr =>
      cases rr
      split at p
      · rename_i xs e
        obtain ⟨a, ws, rfl, e1, p1⟩ := see_lst hs r1 e
        exact ⟨a, ws, rfl, .inl ⟨.of e1, fun l hl => post_tup p hs p1 hl⟩⟩
      · rename_i xs e
        have r2 := rv_tup hs r1 e
        obtain ⟨a, ws, rfl, e1, p1⟩ := see_tup hs r1 e
        exact ⟨a, ws, rfl, .inr ⟨e1, post_now p hs r2⟩⟩
      · exact p.elim
  · exact p.elim
theorem px_tupOf (G : Gd X E sc N k df) (hm : X.mg "tuple" = none) {p : Pos} {e : Expr} {ma : M (List D)} (ha : AV X E W [e] ma) (hg : glB sc "tuple" = true := by rfl) (he : starEach [e] X.env = (false, eval e X.env) :: starEach [] X.env := by rfl) :
    PX X E W (.Call (.Name "tuple" p) [e] [] pos) (mL ma kTupOf) := px_t call_tuple_of kTupOf_ok (G.gl hg).1 hm PyProof.Rows.boot_tuple ha (G.gl hg).2.2 (G.gl hg).2.1 he rfl

/-! ### dict(x) -/
def putD (kvs : List (Key × D)) (q : Key) (d : D) : List (Key × D) :=
  if (kvs.any fun p => decide (p.1 = q)) = true then kvs.map (fun p => if p.1 = q then (p.1, d) else p) else kvs ++ [(q, d)]
def mergeD (kvs more : List (Key × D)) : List (Key × D) := more.foldl (fun acc p => putD acc p.1 p.2) kvs
section
variable {Z : Wd} {f : Fz}
theorem any_pd (q : Key) : ∀ {kvs : List (Key × D)} {ws : List (Key × V)}, Paired (PK Z f) kvs ws → (kvs.any fun p => decide (p.1 = q)) = (ws.any fun p => decide (p.1 = q))
  | _, _, .nil => rfl
  | _, _, .cons r t => by simp only [List.any_cons, any_pd q t, r.1]
theorem repl_pd {q : Key} {d : D} {v : V} (r : Rp Z f d v) : ∀ {kvs : List (Key × D)} {ws : List (Key × V)}, Paired (PK Z f) kvs ws → Paired (PK Z f) (kvs.map fun p => if p.1 = q then (p.1, d) else p) (ws.map fun p => if p.1 = q then (p.1, v) else p)
  | _, _, .nil => .nil
  | _, _, .cons ra t => by
    simp only [List.map_cons]
    refine .cons ?_ (repl_pd r t)
    rw [ra.1]
    split
    · exact ⟨rfl, r⟩
    · exact ⟨ra.1, ra.2⟩
theorem put_pd {q : Key} {d : D} {v : V} (r : Rp Z f d v) {kvs : List (Key × D)} {ws : List (Key × V)} (p : Paired (PK Z f) kvs ws) : Paired (PK Z f) (putD kvs q d) (putK ws q v) := by
  unfold putD putK
  rw [any_pd q p]
  split
  · exact repl_pd r p
  · exact pd_app p (.cons ⟨rfl, r⟩ .nil)
theorem merge_pd : ∀ {more : List (Key × D)} {ms : List (Key × V)} {kvs : List (Key × D)} {ws : List (Key × V)}, Paired (PK Z f) more ms → Paired (PK Z f) kvs ws → Paired (PK Z f) (mergeD kvs more) (mergeK ws ms)
  | _, _, _, _, .nil, p => p
  | (q, d) :: more, (q', v) :: ms, kvs, ws, .cons r t, p => by
    obtain ⟨r1, r2⟩ := r
    have r1 : q = q' := r1
    subst r1
    show Paired (PK Z f) (mergeD (putD kvs q d) more) (mergeK (putK ws q v) ms)
    exact merge_pd t (put_pd r2 p)
end
/-- a pair with a key -/
def pairD : D → Option (Key × D)
  | .tup [k, d] => (keyD k).map fun q => (q, d)
  | _ => none
def pairsD : List D → Option (List (Key × D))
  | [] => some []
  | d :: ds => (pairD d).bind fun p => (pairsD ds).map fun r => p :: r
def kDictOf (ds : List D) (g : List D) : R D := match ds with
  | [d] => (match vw g d with
    | .lst xs => (match pairsD xs with | some ps => .ok (.dct (mergeD [] ps)) g | none => .no)
    | .dct kvs => .ok (.dct kvs) g
    | _ => .no)
  | _ => .no
def rDictOf (K : PySem.W.Frag) : List V → Hp → VK → Prop := fun xs H Q => (∃ (a : Addr) (ps : List Addr) (kvs : List (Key × V)), xs = [.ref a] ∧ SqL K H a (ps.map V.ref) ∧ Paired (fun p kv => SqT K H p [kV kv.1, kv.2]) ps kvs ∧
    ∀ p, H p = none → Q (.ref p) (upd H p (.dK (mergeK [] kvs)))) ∨ ∃ (a : Addr) (kvs : List (Key × V)), xs = [.ref a] ∧ Rd H a (.dK kvs) ∧ ∀ p, H p = none → Q (.ref p) (upd H p (.dK kvs))
theorem call_dictA (hc : X.calm = true) : CallR X (.type "dict") (rDictOf X.K) := fun pins s σ H xs us Q I r h => by
  rcases h with h | h
  · exact call_dictP hc pins s σ H xs us Q I r h
  · exact call_dictD pins s σ H xs us Q I r h
theorem pairs_see {Z : Wd} {H : Hp} {f : Fz} {g : List D} (hs : Hs Z H f g) : ∀ {xs : List D} {vs : List V} {ps : List (Key × D)}, Paired (Rp Z f) xs vs → pairsD xs = some ps → ∃ as kvs, vs = as.map V.ref ∧ Paired (fun p (kv : Key × V) => SqT Z.K H p [kV kv.1, kv.2]) as kvs ∧ Paired (PK Z f) ps kvs
  | _, _, ps, .nil, e => by simp only [pairsD] at e; cases e; exact ⟨[], [], rfl, .nil, .nil⟩
  | d :: ds, v :: vs, ps, .cons r t, e => by
    simp only [pairsD, Option.bind_eq_some_iff, Option.map_eq_some_iff] at e
    obtain ⟨p, e1, rest, e2, rfl⟩ := e
    obtain ⟨as, kvs, rfl, h2, h3⟩ := pairs_see hs t e2
    cases d <;> simp only [pairD] at e1 <;> try (cases e1)
    rename_i ys
    match ys, e1, r with
    | [kk, dd], e1, r =>
      simp only [pairD, Option.map_eq_some_iff] at e1
      obtain ⟨q, e3, rfl⟩ := e1
      simp only [Rp] at r
      obtain ⟨a, ws, rfl, h, rl⟩ := r
      simp only [RpL] at rl
      obtain ⟨v1, _, rfl, r1, v2, _, rfl, r2, rfl⟩ := rl
      have hk : v1 = kV q := by
        cases kk <;> simp only [keyD] at e3 <;> cases e3 <;> simpa only [Rp, kV] using r1
      subst hk
      refine ⟨a :: as, (q, v2) :: kvs, rfl, .cons ?_ h2, .cons ⟨rfl, r2⟩ h3⟩
      rcases h with h | h
      · exact .inl (.inl (hs.fr _ _ h))
      · exact .inr h
theorem kDictOf_ok {Z : Wd} : OpLF Z (rDictOf Z.K) kDictOf := fun E vs ds H f g Q r hs p => by
  unfold kDictOf at p
  split at p
  · rename_i d
    cases r with
    | cons r1 rr =>
      cases rr
      split at p
      · rename_i xs e
        split at p
        · rename_i ps hps
          obtain ⟨a, ws, rfl, e1, p1⟩ := see_lst hs r1 e
          obtain ⟨as, kvs, rfl, h2, h3⟩ := pairs_see hs p1 hps
          exact .inl ⟨a, as, kvs, rfl, .of e1, h2, fun l hl => p l (.dK _) _ f (Ex.laid hs hl) (hs.laid hl) (Nw.laid hs hl (merge_pd h3 .nil))⟩
        · exact p.elim
      · rename_i xs e
        obtain ⟨a, ws, rfl, e1, p1⟩ := see_dct hs r1 e
        exact .inr ⟨a, ws, rfl, e1, fun l hl => p l (.dK _) _ f (Ex.laid hs hl) (hs.laid hl) (Nw.laid hs hl p1)⟩
      · exact p.elim
  · exact p.elim
theorem fx_dictOf (G : Gd X E sc N k df) (hm : X.mg "dict" = none) {p : Pos} {e : Expr} {ma : M (List D)} (ha : AV X E W [e] ma) (hg : glB sc "dict" = true := by rfl) (he : starEach [e] X.env = (false, eval e X.env) :: starEach [] X.env := by rfl) :
    FX X E W (.Call (.Name "dict" p) [e] [] pos) (mL ma kDictOf) := fx_t (call_dictA G.calm) kDictOf_ok (G.gl hg).1 hm PyProof.Rows.boot_dict ha (G.gl hg).2.2 (G.gl hg).2.1 he rfl
/-- {} -/
def mEmpty : M D := fun _ g => .ok (.dct []) g
theorem fx_empty : FX X E W (.Dict [] [] pos) mEmpty := PE.imp pe_dnewK fun σ H Q q => by
  obtain ⟨f, ρ, g, s, hs, p⟩ := q
  exact fun a ha => p a (.dK []) _ f (Ex.laid hs ha) (hs.laid ha) (Nw.laid hs ha (.nil : Paired (PK (wd X) f) [] []))

/-! ### all, any -/
def boolsD : List D → Option (List Bool)
  | [] => some []
  | .bl b :: r => (boolsD r).map fun q => b :: q
  | _ => none
theorem bools_see {Z : Wd} {f : Fz} : ∀ {xs : List D} {vs : List V} {bs : List Bool}, Paired (Rp Z f) xs vs → boolsD xs = some bs → vs = bs.map V.bl
  | _, _, bs, .nil, e => by simp only [boolsD] at e; cases e; rfl
  | d :: ds, v :: vs, bs, .cons r t, e => by
    cases d <;> simp only [boolsD] at e <;> try (cases e)
    simp only [Option.map_eq_some_iff] at e
    obtain ⟨q, e1, rfl⟩ := e
    simp only [Rp] at r
    rw [r, bools_see t e1]; rfl
def kAll (ds : List D) (g : List D) : R D := match ds with
  | [d] => (match vw g d with | .lst xs => (match boolsD xs with | some bs => .ok (.bl (bs.all id)) g | none => .no) | _ => .no)
  | _ => .no
def kAny (ds : List D) (g : List D) : R D := match ds with
  | [d] => (match vw g d with | .lst xs => (match boolsD xs with | some bs => .ok (.bl (bs.any id)) g | none => .no) | _ => .no)
  | _ => .no
theorem kAll_ok {Z : Wd} : OpL Z (rAll Z.K) kAll := fun E vs ds H f g Q r hs p => by
  unfold kAll at p
  split at p
  · rename_i d
    cases r with
    | cons r1 rr =>
      cases rr
      split at p
      · rename_i xs e
        split at p
        · rename_i bs hb
          obtain ⟨a, ws, rfl, e1, p1⟩ := see_lst hs r1 e
          have := bools_see p1 hb
          subst this
          exact ⟨a, bs, rfl, .of e1, post_now p hs (by simp only [Rp])⟩
        · exact p.elim
      · exact p.elim
  · exact p.elim
theorem kAny_ok {Z : Wd} : OpL Z (rAny Z.K) kAny := fun E vs ds H f g Q r hs p => by
  unfold kAny at p
  split at p
  · rename_i d
    cases r with
    | cons r1 rr =>
      cases rr
      split at p
      · rename_i xs e
        split at p
        · rename_i bs hb
          obtain ⟨a, ws, rfl, e1, p1⟩ := see_lst hs r1 e
          have := bools_see p1 hb
          subst this
          exact ⟨a, bs, rfl, .of e1, post_now p hs (by simp only [Rp])⟩
        · exact p.elim
      · exact p.elim
  · exact p.elim
theorem px_all (G : Gd X E sc N k df) (hm : X.mg "all" = none) {p : Pos} {e : Expr} {ma : M (List D)} (ha : AV X E W [e] ma) (hg : glB sc "all" = true := by rfl) (he : starEach [e] X.env = (false, eval e X.env) :: starEach [] X.env := by rfl) :
    PX X E W (.Call (.Name "all" p) [e] [] pos) (mL ma kAll) := px_b (cr_all G.calm) kAll_ok (G.gl hg).1 hm PyProof.Rows.boot_all ha (G.gl hg).2.2 (G.gl hg).2.1 he rfl
theorem px_any (G : Gd X E sc N k df) (hm : X.mg "any" = none) {p : Pos} {e : Expr} {ma : M (List D)} (ha : AV X E W [e] ma) (hg : glB sc "any" = true := by rfl) (he : starEach [e] X.env = (false, eval e X.env) :: starEach [] X.env := by rfl) :
    PX X E W (.Call (.Name "any" p) [e] [] pos) (mL ma kAny) := px_b (cr_any G.calm) kAny_ok (G.gl hg).1 hm PyProof.Rows.boot_any ha (G.gl hg).2.2 (G.gl hg).2.1 he rfl

/-! ### int, str -/
def kInt (ds : List D) (g : List D) : R D := match ds with
  | [d] => (match vw g d with | .int i => .ok (.int i) g | .bl b => .ok (.int (if b then 1 else 0)) g | _ => .no)
  | _ => .no
theorem kInt_ok {Z : Wd} : OpL Z (fun xs H Q => (∃ i, xs = [.int i] ∧ Q (.int i) H) ∨ ∃ k, xs = [.bl k] ∧ Q (.int (if k then 1 else 0)) H) kInt := fun E vs ds H f g Q r hs p => by
  unfold kInt at p
  split at p
  · rename_i d
    cases r with
    | cons r1 rr =>
      cases rr
      split at p
      · rename_i i e; exact .inl ⟨i, by rw [see_int hs r1 e], post_now p hs (by simp only [Rp])⟩
      · rename_i i e; exact .inr ⟨i, by rw [see_bl hs r1 e], post_now p hs (by simp only [Rp])⟩
      · exact p.elim
  · exact p.elim
theorem px_intOf (G : Gd X E sc N k df) (hm : X.mg "int" = none) {p : Pos} {e : Expr} {ma : M (List D)} (ha : AV X E W [e] ma) (hg : glB sc "int" = true := by rfl) (he : starEach [e] X.env = (false, eval e X.env) :: starEach [] X.env := by rfl) :
    PX X E W (.Call (.Name "int" p) [e] [] pos) (mL ma kInt) := px_t call_int1 kInt_ok (G.gl hg).1 hm PyProof.Rows.boot_int ha (G.gl hg).2.2 (G.gl hg).2.1 he rfl
def kStr (ds : List D) (g : List D) : R D := match ds with
  | [d] => (match vw g d with | .int i => if i.natAbs.log2 < 1920 then .ok (.str (Str.ofString (toString i))) g else .no | _ => .no)
  | _ => .no
theorem kStr_ok {Z : Wd} : OpL Z (fun xs H Q => ∃ i, xs = [.int i] ∧ i.natAbs.log2 < 1920 ∧ Q (.str (toString i)) H) kStr := fun E vs ds H f g Q r hs p => by
  unfold kStr at p
  split at p
  · rename_i d
    cases r with
    | cons r1 rr =>
      cases rr
      split at p
      · rename_i i e
        split at p
        · rename_i hl
          exact ⟨i, by rw [see_int hs r1 e], hl, post_now p hs (by simp only [Rp])⟩
        · exact p.elim
      · exact p.elim
  · exact p.elim
theorem px_strOf (G : Gd X E sc N k df) (hm : X.mg "str" = none) {p : Pos} {e : Expr} {ma : M (List D)} (ha : AV X E W [e] ma) (hg : glB sc "str" = true := by rfl) (he : starEach [e] X.env = (false, eval e X.env) :: starEach [] X.env := by rfl) :
    PX X E W (.Call (.Name "str" p) [e] [] pos) (mL ma kStr) := px_t call_str_int kStr_ok (G.gl hg).1 hm PyProof.Rows.boot_str ha (G.gl hg).2.2 (G.gl hg).2.1 he rfl
end
end TL
end

section
set_option Elab.async false
set_option linter.all false
set_option autoImplicit false
set_option maxRecDepth 100000
/-! TL, part l: sorted, min -/
namespace TL
open PySem PySem.Spec PyProof.Rows L2
variable [TabL]

def encD (d : D) : PyData := (toP d).getD .none
/-- the order that sorted goes by -/
def leD (a b : D) : Bool := PySem.W.dataLe false encD a b
def sortOk (ps : List PyData) : Bool :=
  ps.all (fun p => ps.all (fun q => PySem.W.alike p q)) && (ps.all (fun p => match p with | .tuple (_ :: _) => true | _ => false) || ps.all (fun p => match p with | .none => false | .tuple _ => false | _ => true)) && ps.all (fun p => decide (p.depth ≤ 40)) && decide (ps.length ≤ 16777216)
theorem sortOk_iff {ps : List PyData} (h : sortOk ps = true) : PySem.W.AllAlike ps ∧ PySem.W.Sortable ps ∧ (∀ p ∈ ps, p.depth ≤ 40) ∧ ps.length ≤ sizeLine := by
  unfold sortOk at h
  simp only [Bool.and_eq_true, Bool.or_eq_true, List.all_eq_true, decide_eq_true_eq] at h
  obtain ⟨⟨⟨h1, h2⟩, h3⟩, h4⟩ := h
  refine ⟨fun d hd d' hd' => h1 d hd d' hd', ?_, h3, by rw [sl_eq]; exact h4⟩
  rcases h2 with h2 | h2
  · refine .inl fun d hd => ?_
    have := h2 d hd
    split at this
    · exact ⟨_, _, rfl⟩
    · cases this
  · refine .inr fun d hd => ?_
    have := h2 d hd
    refine ⟨fun z => ?_, fun xs z => ?_⟩ <;> (subst z; simp at this)
/-- sorted(xs): a list of what reads as data -/
def rSortD (K : PySem.W.Frag) : List V → Hp → VK → Prop := fun vs H Q => ∃ (a : Addr) (bs : List (D × V)), vs = [.ref a] ∧ SqL K H a (bs.map (·.2)) ∧ (∀ b ∈ bs, Dp K H b.2 (encD b.1)) ∧ sortOk (bs.map fun b => encD b.1) = true ∧
  ∀ p, H p = none → Q (.ref p) (upd H p (.lst ((bs.mergeSort (PySem.W.dataLe false fun b => encD b.1)).map (·.2))))
section
variable {X : Cx}
theorem each_of {bs : List (D × V)} : ∀ {us : List Value}, Vals (bs.map (·.2)) us → PySem.W.EachIs (fun u (b : D × V) => RelV b.2 u) us bs := by
  induction bs with
  | nil => intro us h; cases h; exact .nil
  | cons b bs ih =>
    intro us h
    cases h with
    | cons r t => exact .cons r (ih t)
theorem each_reads {pins : List (Addr × Obj)} {σ : L2.St} {H : Hp} {s : Shared} (I : Inv X pins σ H s) : ∀ {bs : List (D × V)} {us : List Value}, Vals (bs.map (·.2)) us → (∀ b ∈ bs, Dp X.K H b.2 (encD b.1)) → PySem.W.EachIs (fun v (b : D × V) => ∃ as, Reads s.heap v (encD b.1) as) us bs
  | [], us, h, _ => by cases h; exact .nil
  | b :: bs, us, h, k => by
    cases h with
    | cons r t => exact .cons (Dp.reads I _ _ _ (k b (by simp)) r) (each_reads I t fun c hc => k c (by simp [hc]))
theorem vals_of_each : ∀ {out : List Value} {bs : List (D × V)}, PySem.W.EachIs (fun u (b : D × V) => RelV b.2 u) out bs → Vals (bs.map (·.2)) out
  | _, _, .nil => .nil
  | _, _, .cons r t => .cons r (vals_of_each t)
theorem call_sortD (hu : X.A.units + 65 < cLine) : CallR X (.builtin "sorted") (rSortD X.K) := by
  intro pins s σ H xs us Q I r h
  obtain ⟨a, bs, rfl, hq, hd, ok, q⟩ := h
  obtain ⟨its, rv, hl, hz⟩ := I.list hq
  rw [Vals.ref1 r]
  obtain ⟨o1, o2, o3, o4⟩ := sortOk_iff ok
  refine PySem.W.sorted_data (enc := fun b : D × V => encD b.1) hl.isList (each_of rv) (each_reads I rv hd) o1 o2 (by simpa using o4) (fun b hb => ?_) fun out ho eo => ?_
  · have := o3 (encD b.1) (List.mem_map.mpr ⟨b, hb, rfl⟩)
    omega
  · obtain ⟨ep, he⟩ := PyProof.Rows.sortedAll_at s.heap its out.toArray
    refine ⟨.ref _, upd H (s.heap.objs.size + 1) (.lst _), I.laid (t' := s.toks) (fun _ _ => PyProof.Rows.sortedAll_old) (Nat.le_succ _) ⟨?_, out, ep, vals_of_each eo, ?_⟩, rfl, q _ (I.hok.fresh (Nat.le_succ _))⟩
    · rw [List.length_map, List.length_mergeSort]
      simpa using o4
    · rw [he]
end
/-- all keys are texts -/
def strKeys : List (Key × D) → Option (List Str)
  | [] => some []
  | (.inr x, _) :: r => (strKeys r).map fun q => x :: q
  | _ => none
def kSort (ds : List D) (g : List D) : R D := match ds with
  | [d] => (match vw g d with
    | .lst xs => (match toPs xs with | some ps => if sortOk ps = true then .ok (.lst (xs.mergeSort leD)) g else .no | none => .no)
    | .dct kvs => (match strKeys kvs with | some ks => if ks.length < 64 then .ok (.lst ((ks.map D.str).mergeSort leD)) g else .no | none => .no)
    | _ => .no)
  | _ => .no
theorem leD_str (x y : Str) : leD (.str x) (.str y) = decide (x.cps.toList ≤ y.cps.toList) := by
  show (!PySem.W.dataLt (.str y) (.str x)) = _
  rw [PySem.W.dataLt_str, PySem.W.not_lt_str]
theorem leD_tot : PySem.W.TotalLe leD := PySem.W.sortLe_total _ false _
theorem rising_pw : ∀ (l : List Str) (p : Str), risingS p l = true → (p :: l).Pairwise fun a b => a.cps.toList ≤ b.cps.toList
  | [], p, _ => by simp
  | x :: r, p, h => by
    have h : (!ltCps x.cps.toList p.cps.toList && risingS x r) = true := h
    rw [Bool.and_eq_true, ltCps_eq, PySem.W.not_lt_str] at h
    have t := rising_pw r x h.2
    have h1 : p.cps.toList ≤ x.cps.toList := of_decide_eq_true h.1
    rw [List.pairwise_cons]
    refine ⟨fun y hy => ?_, t⟩
    rcases List.mem_cons.mp hy with rfl | hy
    · exact h1
    · exact List.le_trans h1 ((List.pairwise_cons.mp t).1 y hy)
theorem sorted_pw {l : List Str} (h : sortedS l = true) : l.Pairwise fun a b => a.cps.toList ≤ b.cps.toList := by
  cases l with
  | nil => exact .nil
  | cons p l => exact rising_pw l p h
theorem sort_strs {ys ks : List Str} (hp : ys.Perm ks) (hs : sortedS ys = true) : (ks.map D.str).mergeSort leD = ys.map D.str := by
  refine List.Perm.eq_of_pairwise (le := fun a b => leD a b = true) ?_ ?_ ?_ ?_
  · intro a b ha hb h1 h2
    rw [List.mem_mergeSort, List.mem_map] at ha
    obtain ⟨x, _, rfl⟩ := ha
    obtain ⟨y, _, rfl⟩ := List.mem_map.mp hb
    rw [leD_str, decide_eq_true_eq] at h1 h2
    have : x.cps.toList = y.cps.toList := List.le_antisymm h1 h2
    have : x = y := by
      cases x; cases y
      simp at this
      rw [this]
    rw [this]
  · exact List.pairwise_mergeSort (fun a b c => leD_tot.trans a b c) (fun a b => by rw [Bool.or_eq_true]; exact leD_tot.total a b) _
  · exact List.pairwise_map.mpr ((sorted_pw hs).imp fun h => by rw [leD_str]; exact decide_eq_true h)
  · exact (List.mergeSort_perm _ _).trans (hp.symm.map _)
theorem strKeys_see {Z : Wd} {f : Fz} : ∀ {kvs : List (Key × D)} {ws : List (Key × V)} {ks : List Str}, Paired (PK Z f) kvs ws → strKeys kvs = some ks → ws.map (·.1) = ks.map Sum.inr
  | _, _, ks, .nil, e => by simp only [strKeys] at e; cases e; rfl
  | (q, d) :: as, w :: bs, ks, .cons r t, e => by
    cases q with
    | inl i => simp [strKeys] at e
    | inr x =>
      simp only [strKeys, Option.map_eq_some_iff] at e
      obtain ⟨r', e1, rfl⟩ := e
      simp only [List.map_cons]
      rw [strKeys_see t e1, ← r.1]
theorem toPs_at {Z : Wd} {H : Hp} {f : Fz} {g : List D} (hs : Hs Z H f g) : ∀ {xs : List D} {vs : List V} {ps : List PyData}, Paired (Rp Z f) xs vs → toPs xs = some ps → (∀ b ∈ xs.zip vs, Dp Z.K H b.2 (encD b.1)) ∧ xs.map encD = ps
  | _, _, ps, .nil, e => by simp only [toPs] at e; cases e; exact ⟨fun _ h => by simp at h, rfl⟩
  | x :: xs, v :: vs, ps, .cons r t, e => by
    simp only [toPs, Option.bind_eq_some_iff] at e
    obtain ⟨p, e1, qs, e2, e3⟩ := e
    cases e3
    obtain ⟨h1, h2⟩ := toPs_at hs t e2
    have he : encD x = p := by unfold encD; rw [e1]; rfl
    refine ⟨fun b hb => ?_, by rw [List.map_cons, he, h2]⟩
    rw [List.zip_cons_cons] at hb
    rcases List.mem_cons.mp hb with rfl | hb
    · rw [he]; exact dp_of hs r e1
    · exact h1 b hb
theorem zip_pd {α β : Type} {R : α → β → Prop} : ∀ {xs : List α} {vs : List β}, Paired R xs vs → (xs.zip vs).map (·.1) = xs ∧ (xs.zip vs).map (·.2) = vs ∧ ∀ b ∈ xs.zip vs, R b.1 b.2
  | _, _, .nil => ⟨rfl, rfl, fun _ h => by simp at h⟩
  | x :: xs, v :: vs, .cons r t => by
    obtain ⟨h1, h2, h3⟩ := zip_pd t
    refine ⟨by simp [h1], by simp [h2], fun b hb => ?_⟩
    rw [List.zip_cons_cons] at hb
    rcases List.mem_cons.mp hb with rfl | hb
    · exact r
    · exact h3 b hb
theorem pd_of_all {α β : Type} {R : α → β → Prop} : ∀ {bs : List (α × β)}, (∀ b ∈ bs, R b.1 b.2) → Paired R (bs.map (·.1)) (bs.map (·.2))
  | [], _ => .nil
  | b :: bs, h => .cons (h b (by simp)) (pd_of_all fun c hc => h c (by simp [hc]))
def rSortA (K : PySem.W.Frag) : List V → Hp → VK → Prop := fun xs H Q => rSortD K xs H Q ∨ ∃ (a : Addr) (kvs : List (Key × V)) (ks : List Str), xs = [.ref a] ∧ Rd H a (.dK kvs) ∧ kvs.map (·.1) = ks.map Sum.inr ∧ ks.length < 64 ∧
    ∀ ys p, ys.Perm ks → sortedS ys = true → H p = none → Q (.ref p) (upd H p (.lst (ys.map V.str)))
theorem strs_pd {Z : Wd} {f : Fz} : ∀ (ys : List Str), Paired (Rp Z f) (ys.map D.str) (ys.map V.str)
  | [] => .nil
  | y :: ys => .cons (by simp only [Rp]) (strs_pd ys)
theorem kSort_ok {Z : Wd} : OpLF Z (rSortA Z.K) kSort := fun E vs ds H f g Q r hs p => by
  unfold kSort at p
  split at p
  · rename_i d
    cases r with
    | cons r1 rr =>
      cases rr
      split at p
      · rename_i xs e
        split at p
        · rename_i ps hps
          split at p
          · rename_i ok
            obtain ⟨a, ws, rfl, e1, p1⟩ := see_lst hs r1 e
            obtain ⟨z1, z2, z3⟩ := zip_pd p1
            obtain ⟨t1, t2⟩ := toPs_at hs p1 hps
            have em : (xs.zip ws).map (fun b => encD b.1) = ps := by
              rw [← t2]
              conv => rhs; rw [← z1]
              rw [List.map_map]; rfl
            refine .inl ⟨a, xs.zip ws, rfl, by rw [z2]; exact .of e1, t1, by rw [em]; exact ok, fun l hl => ?_⟩
            have hsort : ((xs.zip ws).mergeSort (PySem.W.dataLe false fun b => encD b.1)).map (·.1) = xs.mergeSort leD := by
              have := List.map_mergeSort (r := PySem.W.dataLe false fun b : D × V => encD b.1) (s := leD) (f := fun b : D × V => b.1) (l := xs.zip ws) (fun a _ b _ => rfl)
              rw [this, z1]
            have pd : Paired (Rp Z f) (xs.mergeSort leD) (((xs.zip ws).mergeSort (PySem.W.dataLe false fun b => encD b.1)).map (·.2)) := by
              rw [← hsort]
              exact pd_of_all fun b hb => z3 b (List.mem_mergeSort.mp hb)
            exact p l (.lst _) _ f (Ex.laid hs hl) (hs.laid hl) (Nw.laid hs hl pd)
          · exact p.elim
        · exact p.elim
      · rename_i kvs e
        split at p
        · rename_i ks hks
          split at p
          · rename_i hl64
            obtain ⟨a, ws, rfl, e1, p1⟩ := see_dct hs r1 e
            refine .inr ⟨a, ws, ks, rfl, e1, strKeys_see p1 hks, hl64, fun ys l hp hys hl => ?_⟩
            rw [sort_strs hp hys] at p
            exact p l (.lst _) _ f (Ex.laid hs hl) (hs.laid hl) (Nw.laid hs hl (strs_pd ys))
          · exact p.elim
        · exact p.elim
      · exact p.elim
  · exact p.elim
section
variable {X : Cx} {E : XK} {sc : Scope} {N : List Str} {k : Nat} {df : Bool} {W : List Kd} {pos : Pos}
theorem call_sortA (hc : X.calm = true) (hu : X.A.units + 65 < cLine) : CallR X (.builtin "sorted") (rSortA X.K) := fun pins s σ H xs us Q I r h => by
  rcases h with h | h
  · exact call_sortD hu pins s σ H xs us Q I r h
  · exact call_sortedD hc pins s σ H xs us Q I r h
theorem fx_sort (G : Gd X E sc N k df) (hm : X.mg "sorted" = none) {p : Pos} {e : Expr} {ma : M (List D)} (ha : AV X E W [e] ma) (hg : glB sc "sorted" = true := by rfl) (he : starEach [e] X.env = (false, eval e X.env) :: starEach [] X.env := by rfl) :
    FX X E W (.Call (.Name "sorted" p) [e] [] pos) (mL ma kSort) := fx_b (call_sortA G.calm G.u64) kSort_ok (G.gl hg).1 hm PyProof.Rows.boot_sorted ha (G.gl hg).2.2 (G.gl hg).2.1 he rfl

/-! ### min -/
def ofScalar : PyData → Option D
  | .int i => some (.int i)
  | .str x => some (.str x)
  | _ => none
def minOk (p : PyData) (ps : List PyData) : Bool := (p :: ps).all (fun a => (p :: ps).all (fun b => PySem.W.alike a b)) && (p :: ps).all (fun a => match a with | .none => false | _ => true) && decide (PyData.depthAll (p :: ps) ≤ 40)
def kMin (ds : List D) (g : List D) : R D := match ds with
  | [d] => (match vw g d with
    | .lst xs => (match toPs xs with | some (p :: ps) => if minOk p ps = true then (match ofScalar (PySem.W.minD p ps) with | some r => .ok r g | none => .no) else .no | _ => .no)
    | _ => .no)
  | [d, e] => (match vw g d, vw g e with | .int i, .int j => .ok (.int (if j < i then j else i)) g | _, _ => .no)
  | _ => .no
def rMinD (K : PySem.W.Frag) : List V → Hp → VK → Prop := fun vs H Q => (∃ (a : Addr) (xs : List V) (p : PyData) (ps : List PyData) (v : V), vs = [.ref a] ∧ SqL K H a xs ∧ DpAll K H xs (p :: ps) ∧ minOk p ps = true ∧ ((∃ i, PySem.W.minD p ps = .int i ∧ v = .int i) ∨ ∃ i, PySem.W.minD p ps = .str i ∧ v = .str i) ∧ Q v H) ∨
  ∃ i j, vs = [.int i, .int j] ∧ Q (.int (if j < i then j else i)) H
theorem call_minD (hc : X.calm = true) (hu : X.A.units + 65 < cLine) : CallR X (.builtin "min") (rMinD X.K) := by
  intro pins s σ H xs us Q I r h
  rcases h with ⟨a, ys, p, ps, v, rfl, hq, hd, ok, hv, q⟩ | h
  · obtain ⟨its, rv, hl, hz⟩ := I.list hq
    rw [Vals.ref1 r]
    unfold minOk at ok
    simp only [Bool.and_eq_true, List.all_eq_true, decide_eq_true_eq] at ok
    obtain ⟨⟨h1, h2⟩, h3⟩ := ok
    obtain ⟨as, hr⟩ := Dp.readsAll I _ _ _ hd rv
    refine PySem.W.min_list_data (I.ok.hd hc) hl.isList (x := p) (xs := ps) (as := as) (by simpa using hr) ⟨fun x hx y hy => h1 x hx y hy, fun x hx z => ?_⟩ (by omega) fun i u h' tk bs hi hrd hk => ?_
    · have := h2 x hx
      subst z; cases this
    · rcases hv with ⟨n, e, rfl⟩ | ⟨n, e, rfl⟩
      · rw [e] at hrd; cases hrd; exact ⟨.int n, H, I.kept hk, ⟨_, rfl⟩, q⟩
      · rw [e] at hrd; cases hrd; exact ⟨.str n, H, I.kept hk, ⟨_, rfl⟩, q⟩
  · exact call_min2 hc pins s σ H xs us Q I r h
theorem kMin_ok {Z : Wd} : OpL Z (rMinD Z.K) kMin := fun E vs ds H f g Q r hs p => by
  unfold kMin at p
  split at p
  · rename_i d
    cases r with
    | cons r1 rr =>
      cases rr
      split at p
      · rename_i xs e
        split at p
        · rename_i q ps hps
          split at p
          · rename_i ok
            split at p
            · rename_i rr hrr
              obtain ⟨a, ws, rfl, e1, p1⟩ := see_lst hs r1 e
              have hd := dps_of hs (rpL_iff.mpr p1) hps
              cases hm : PySem.W.minD q ps <;> rw [hm] at hrr <;> simp only [ofScalar] at hrr <;> cases hrr
              · exact .inl ⟨a, ws, q, ps, _, rfl, .of e1, hd, ok, .inl ⟨_, hm, rfl⟩, post_now p hs (by simp only [Rp])⟩
              · exact .inl ⟨a, ws, q, ps, _, rfl, .of e1, hd, ok, .inr ⟨_, hm, rfl⟩, post_now p hs (by simp only [Rp])⟩
            · exact p.elim
          · exact p.elim
        · exact p.elim
      · exact p.elim
  · rename_i d e
    cases r with
    | cons r1 rr =>
      cases rr with
      | cons r2 rr =>
        cases rr
        split at p
        · rename_i i j e1 e2
          exact .inr ⟨i, j, by rw [see_int hs r1 e1, see_int hs r2 e2], post_now p hs (by simp only [Rp])⟩
        · exact p.elim
  · exact p.elim
theorem px_min (G : Gd X E sc N k df) (hm : X.mg "min" = none) {p : Pos} {e : Expr} {es : List Expr} {ma : M (List D)} (ha : AV X E W (e :: es) ma) (hg : glB sc "min" = true := by rfl) (he : starEach (e :: es) X.env = (false, eval e X.env) :: starEach es X.env := by rfl) (hpl : (backTo pos (starEach es X.env)).any (·.1) = false := by rfl) :
    PX X E W (.Call (.Name "min" p) (e :: es) [] pos) (mL ma kMin) := px_b (call_minD G.calm G.u64) kMin_ok (G.gl hg).1 hm PyProof.Rows.boot_min ha (G.gl hg).2.2 (G.gl hg).2.1 he hpl
end
end TL
end

section
set_option Elab.async false
set_option linter.all false
set_option autoImplicit false
set_option maxRecDepth 100000
/-! TL, part m: range, enumerate, zip, items -/
namespace TL
open PySem PySem.Spec PyProof.Rows L2
variable [TabL]

theorem postI.bind {α β : Type} {rel : Hp → Fz → α → β → Prop} {Z : Wd} {E : XK} {H : Hp} {f : Fz} {r : R α} {k : α → List D → R (List D)} {Q : It → Hp → Prop} {Q' : β → Hp → Prop} (p : postI Z E H f (r.bind k) Q)
    (h : ∀ a g v H' f', r = .ok a g → Ex H f H' f' → Hs Z H' f' g → rel H' f' a v → postI Z E H' f' (k a g) Q → Q' v H') : post rel Z E H f r Q' := by
  cases r with
  | ok a g =>
    intro v H' f' e hs r
    refine h a g v H' f' rfl e hs r ?_
    have p' : postI Z E H f (k a g) Q := p
    cases q : k a g with
    | ok ds g2 => rw [q] at p'; exact fun J H2 f2 ex2 hs2 it => p' J H2 f2 (e.trans ex2) hs2 it
    | ex x g2 => rw [q] at p'; exact pEx.ext p' e
    | no => rw [q] at p'; exact p'
  | ex x g => exact p
  | no => exact p
/-- a new pair, frozen -/
theorem frz_pair {Z : Wd} {H : Hp} {f : Fz} {g : List D} (hs : Hs Z H f g) {T : Addr} (hT : H T = none) {xs : List D} {vs : List V} (r : Paired (Rp Z f) xs vs) :
    ∃ f', Ex H f (upd H T (.tup vs)) f' ∧ Hs Z (upd H T (.tup vs)) f' g ∧ Rp Z f' (.tup xs) (.ref T) := by
  have fr := hs.free hT
  have ez : frzH default (upd H T (.tup vs)) T = upd H T (.tup vs) := by unfold frzH; rw [upd_same]
  have k1 : Ex H f (frzH default (upd H T (.tup vs)) T) (frz f T (fzO default (.tup vs))) := (Ex.laid hs hT).frz (New.of hT) fr.1
  have k2 : Hs Z (frzH default (upd H T (.tup vs)) T) (frz f T (fzO default (.tup vs))) g := (hs.laid hT).frz upd_same fr.1 fr.2 rfl
  rw [ez] at k1 k2
  refine ⟨frz f T (.tup vs), k1, k2, ?_⟩
  simp only [Rp]
  exact ⟨T, vs, rfl, .inl upd_same, rpL_iff.mpr (L2.Paired.mapP r fun _ _ z => z.mono (frz_le fr.1))⟩
section
variable {X : Cx} {E : XK} {sc : Scope} {N : List Str} {k : Nat} {df : Bool} {W : List Kd} {pos : Pos} {tg : Expr}

/-! ### range -/
def upto (n : Nat) : List D := (List.range n).map fun (j : Nat) => .int (j : Int)
def kRng (ds : List D) (g : List D) : R (List D) := match ds with
  | [d] => (match vw g d with | .int i => if -4611686018427387904 ≤ i ∧ i < 4611686018427387904 then .ok (upto i.toNat) g else .no | _ => .no)
  | _ => .no
def kRng2 (ds : List D) (g : List D) : R (List D) := match ds with
  | [d, e] => (match vw g d, vw g e with | .int i, .int j => if (-4611686018427387904 ≤ i ∧ i < 4611686018427387904) ∧ -4611686018427387904 ≤ j ∧ j < 4611686018427387904 then .ok ((List.range (j - i).toNat).map fun (q : Nat) => .int (i + q)) g else .no | _, _ => .no)
  | _ => .no
def mRng2 (a : M (List D)) : M (List D) := fun ρ g => (a ρ g).bind kRng2
def mRng (a : M (List D)) : M (List D) := fun ρ g => (a ρ g).bind kRng
theorem it_rng {Z : Wd} {f : Fz} (lo : Int) (n : Nat) : ItR Z (Itr lo n) ((List.range n).map fun (q : Nat) => D.int (lo + q)) f := fun H' f' g' l hs i => by
  simp only [List.length_map, List.length_range]
  refine ⟨fun hi => ⟨hi, fun x H'' q => ?_⟩, fun hi => hi⟩
  obtain ⟨rfl, rfl⟩ := q
  refine ⟨f', Ex.refl _ _, hs, ?_⟩
  have e : ((List.range n).map fun (q : Nat) => D.int (lo + q)).getD i .non = .int (lo + i) := by
    simp [List.getD_eq_getElem?_getD, List.getElem?_map, List.getElem?_range hi]
  rw [e]; simp only [Rp]
theorem ix_rng1 (G : Gd X E sc N k df) (hm : X.mg "range" = none) {p : Pos} {e : Expr} {ma : M (List D)} (ha : AV X E W [e] ma) (hg : glB sc "range" = true := by rfl) (hs : starEach [e] X.env = [(false, eval e X.env)] := by rfl) :
    IX X E W tg (.Call (.Name "range" p) [e] [] pos) (mRng ma) := PI.imp (pi_range1 (G.gl hg).1 hm ha hs) fun σ H Q q => by
  obtain ⟨f, ρ, g, s, hs, p⟩ := q
  refine ⟨f, ρ, g, s, hs, postI.bind p fun ds g1 vs H1 f1 _ e1 hs1 r1 p1 => ?_⟩
  unfold kRng at p1
  split at p1
  · cases r1 with
    | cons r1 rr =>
      cases rr
      split at p1
      · rename_i i e
        split at p1
        · rename_i hb
          refine ⟨i, by rw [see_int hs1 r1 e], by omega, by omega, p1 _ H1 f1 (Ex.refl _ _) hs1 ?_⟩
          have := it_rng (Z := wd X) (f := f1) 0 i.toNat
          simpa [upto] using this
        · exact p1.elim
      · exact p1.elim
  · exact p1.elim

/-! ### enumerate -/
def enumD (xs : List D) : List D := xs.zipIdx.map fun p => .tup [.int (p.2 : Nat), p.1]
def kEnum : D → List D → R (List D)
  | .lst xs, g => .ok (enumD xs) g
  | .tup xs, g => .ok (enumD xs) g
  | _, _ => .no
def mEnum (m : M D) : M (List D) := fun ρ g => (m ρ g).bind kEnum
theorem enumD_len (xs : List D) : (enumD xs).length = xs.length := by simp [enumD]
theorem enumD_at {xs : List D} {i : Nat} (h : i < xs.length) : (enumD xs).getD i .non = .tup [.int (i : Nat), xs.getD i .non] := by
  have e : (enumD xs)[i]? = some (.tup [.int (i : Nat), xs.getD i .non]) := by
    unfold enumD
    rw [List.getElem?_map, List.getElem?_zipIdx, List.getElem?_eq_getElem h]
    simp [List.getD_eq_getElem?_getD, List.getElem?_eq_getElem h]
  rw [List.getD_eq_getElem?_getD, e]; rfl
theorem it_enum {Z : Wd} {f : Fz} {a : Addr} {vs : List V} {ds : List D} (h : f.F a = some (.lst vs)) (p : Paired (Rp Z f) ds vs) : ItR Z (Ite Z.K a) (enumD ds) f := fun H' f' g' l hs i => by
  have hl := PySem.Paired.length p
  have hH : H' a = some (.lst vs) := hs.fr _ _ (l.F _ _ h)
  rw [enumD_len]
  refine ⟨fun hi => ?_, fun hi => ⟨vs, .of hH, by omega⟩⟩
  obtain ⟨y, h1, h2⟩ := getD_pd p hi .non
  refine ⟨⟨vs, y, .of hH, h1⟩, fun x H'' q => ?_⟩
  obtain ⟨T, x', rfl, hT, rfl, q⟩ := q
  have := q vs (.of hH)
  rw [h1] at this; cases this
  obtain ⟨f2, e1, e2, e3⟩ := frz_pair hs hT (xs := [.int (i : Nat), ds.getD i .non]) (vs := [.int (i : Nat), y]) (.cons (by simp only [Rp]) (.cons (h2.mono l) .nil))
  exact ⟨f2, e1, e2, by rw [enumD_at hi]; exact e3⟩
/-- the tuple at a -/
def IteT (K : PySem.W.Frag) (a : Addr) (n : Nat) : It :=
  ⟨fun i H => ∃ (xs : List V) (x : V), SqT K H a xs ∧ xs.length = n ∧ xs[i]? = some x, fun i H v H' => ∃ T x, v = .ref T ∧ H T = none ∧ H' = upd H T (.tup [.int (i : Nat), x]) ∧ ∀ xs, SqT K H a xs → xs[i]? = some x, fun i H => ∃ xs : List V, SqT K H a xs ∧ xs.length = n ∧ n ≤ i⟩
theorem it_enumT {Z : Wd} {f : Fz} {a : Addr} {vs : List V} {ds : List D} (h : f.F a = some (.tup vs) ∨ CT Z.K a vs) (p : Paired (Rp Z f) ds vs) : ItR Z (IteT Z.K a vs.length) (enumD ds) f := fun H' f' g' l hs i => by
  have hl := PySem.Paired.length p
  have hH : SqT Z.K H' a vs := by
    rcases h with h | h
    · exact .inl (.inl (hs.fr _ _ (l.F _ _ h)))
    · exact .inr h
  rw [enumD_len]
  refine ⟨fun hi => ?_, fun hi => ⟨vs, hH, rfl, by omega⟩⟩
  obtain ⟨y, h1, h2⟩ := getD_pd p hi .non
  refine ⟨⟨vs, y, hH, rfl, h1⟩, fun x H'' q => ?_⟩
  obtain ⟨T, x', rfl, hT, rfl, q⟩ := q
  have := q vs hH
  rw [h1] at this; cases this
  obtain ⟨f2, e1, e2, e3⟩ := frz_pair hs hT (xs := [.int (i : Nat), ds.getD i .non]) (vs := [.int (i : Nat), y]) (.cons (by simp only [Rp]) (.cons (h2.mono l) .nil))
  exact ⟨f2, e1, e2, by rw [enumD_at hi]; exact e3⟩
end
section
variable {prog : Program} {w : World} {A : Around} {E : Value → Shared → Prop} {s : Shared}
theorem enum_newT (l : Addr) (items : Array Value) (n : Nat) (dct : Option Addr) (sl : Array (Option Value)) :
    Meets (Builtin.«enumerate.__new__» ⟨[.type "enumerate", .ref l], []⟩) (fun _ R s => s.heap.get? l = some { cls := .type "tuple", dict := dct, data := .seq items n, slots := sl } ∧
      R (.ok (.ret (.ref (s.heap.push { cls := .type "tuple_iterator", data := .fields #[.ref l, .int 0 0] }).objs.size)))
        { s with heap := (s.heap.push { cls := .type "tuple_iterator", data := .fields #[.ref l, .int 0 0] }).push { cls := .type "enumerate", data := .fields #[.none, .bool false, .ref s.heap.objs.size, rawInt 0, .none, .none] } }) :=
  .of_wp fun prog w A R s h => by
    obtain ⟨hp, g, d, tk, os⟩ := s; obtain ⟨hl, h⟩ := h
    have hsub := sub_enumerate
    have hL : (Shared.heap ⟨hp, g, d, tk, os⟩).IsTuple l items := ⟨_, hl, rfl, n, rfl⟩
    wp_walk using AutoSeq1.wpAny_loadPart' hl
    refine wpAny_stack_any fun st => wpAny_pure ?_
    split
    · rename_i c _ _ _ _ _
      cases (c == Value.type "enumerate") <;> (wp_walk using AutoSeq1.wpAny_loadPart' hl, wpAny_pyIter_tuple hL) <;> exact ⟨_, rfl, h⟩
    · (wp_walk using AutoSeq1.wpAny_loadPart' hl, wpAny_pyIter_tuple hL) <;> exact ⟨_, rfl, h⟩
theorem call_enumT {l : Addr} {items : Array Value} {Q : Value → Shared → Prop} (hL : s.heap.IsTuple l items)
    (h : ∀ h', IsEnum h' (s.heap.objs.size + 1) s.heap.objs.size 0 .none → h'.IsTupleIter s.heap.objs.size l 0 → (∀ b o, s.heap.get? b = some o → h'.get? b = some o) → Q (.ref (s.heap.objs.size + 1)) { s with heap := h' }) :
    wpAny (model prog w) A (call (.type "enumerate") [.ref l]) Q E s := by
  obtain ⟨⟨c, dct, dt, sl⟩, hl, hc, n, hd⟩ := hL
  replace hc : c = .type "tuple" := hc
  replace hd : dt = .seq items n := hd
  subst hc hd
  refine callType_new F.called_enumerate (by decide) (F.typeCall_enumerate_1 _) (F.newCall_enumerate_1 _) (fun obj => F.args_object_init_2 obj _) F.entry_enumerate_new (enum_newT l items n dct sl) ⟨hl, ?_⟩
  have hz : (s.heap.push { cls := .type "tuple_iterator", data := .fields #[.ref l, .int 0 0] }).objs.size = s.heap.objs.size + 1 := Heap.size_push ..
  show _ ∧ _
  rw [hz]
  have he : IsEnum ((s.heap.push { cls := .type "tuple_iterator", data := .fields #[.ref l, .int 0 0] }).push { cls := .type "enumerate", data := .fields #[.none, .bool false, .ref s.heap.objs.size, rawInt 0, .none, .none] }) (s.heap.objs.size + 1) s.heap.objs.size 0 .none := by
    have q := Heap.get?_push_size (s.heap.push { cls := .type "tuple_iterator", data := .fields #[.ref l, .int 0 0] }) (o := { cls := .type "enumerate", data := .fields #[.none, .bool false, .ref s.heap.objs.size, rawInt 0, .none, .none] }) rfl
    rw [hz] at q; exact q
  exact ⟨⟨_, he, rfl⟩, h _ he ⟨_, Heap.get?_push_of_some _ (Heap.get?_push_size _ rfl), rfl, rfl⟩ fun b o x => Heap.get?_push_of_some _ (Heap.get?_push_of_some _ x)⟩
end
theorem turn_enumT {P : Program} {w : World} {K : PySem.W.Frag} {elts : List Expr} {kk : Nat} {tpos : Pos} (a e it : Addr) (n : Nat) :
    Turn P w K (.Tuple elts kk tpos) (IteT K a n) [e, it] e (fun i h => (∃ old, IsEnum h e it ((i : Nat) : Int) old) ∧ h.IsTupleIter it a i ∧ e ≠ it ∧ a ≠ it ∧ a ≠ e ∧ i ≤ n) where
  mem := by simp
  obj := fun i h st b hb => by
    obtain ⟨⟨old, he⟩, ⟨o, ho, hc, hd⟩, _⟩ := st
    rcases (by simpa using hb : b = e ∨ b = it) with z | z
    · subst z; exact ⟨_, he, fun v q => nomatch q⟩
    · subst z; exact ⟨o, ho, fun v q => by rw [hd] at q; cases q⟩
  keep := fun i h h' st k => let ⟨⟨old, he⟩, hi, hne⟩ := st; ⟨⟨old, k e (by simp) _ he⟩, hi.at fun o q => k it (by simp) o q, hne⟩
  item := by
    intro X hP hw hK hc i pins s σ H E I hf st hg
    subst hP hw hK
    obtain ⟨⟨old, he⟩, hit, n1, n2, n3, n4⟩ := st
    obtain ⟨xs, x, hq, hn, hx⟩ := hg
    obtain ⟨its, rv, p, hz⟩ := I.tuple hq
    obtain ⟨u, hu, ru⟩ := rv.get hx
    have pt : s.heap.IsTuple a its.toArray := p
    have hel : e < s.heap.objs.size := Heap.lt_size he
    have hil : it < s.heap.objs.size := by obtain ⟨_, q, _⟩ := hit; exact Heap.lt_size q
    have hlt : i < its.toArray.size := by
      have := (List.getElem?_eq_some_iff.mp hu).1
      simpa using this
    refine wpAny_pyNext_enum_itemD (Draws.tuple (A := X.A.in1) (I.ok.hd hc) it a n2 its.toArray) he ⟨hit, pt⟩ hlt n1 (by simp [n1, Ne.symm n3]) fun x1 h1 tk hx1 ho st1 hT hsz hk => ?_
    have hxu : x1 = u := by
      have hx1 : its.toArray[i]? = some x1 := hx1
      simp at hx1
      rw [hu] at hx1; exact (Option.some.inj hx1).symm
    subst hxu
    refine ⟨_, rfl, wpAny_letOwnedTupleGo_enum (s := { s with heap := h1, toks := tk + 1 }) ho fun h2 he2 sb => ?_⟩
    have hT2 : h2.get? s.heap.objs.size = some { cls := .type "tuple", data := .seq #[.int i tk, x1] } := (sb.2 _ (Nat.ne_of_gt hel)).trans hT
    have new : ObjOk X.prog X.w (upd H s.heap.objs.size (.tup [.int (i : Nat), x])) h2 s.heap.objs.size (.tup [.int (i : Nat), x]) :=
      ⟨by show 2 ≤ sizeLine; decide, [.int i tk, x1], .cons ⟨_, rfl⟩ (.cons ru .nil), ⟨_, hT2, rfl, _, rfl⟩⟩
    have I1 : Inv X pins σ (upd H s.heap.objs.size (.tup [.int (i : Nat), x])) { s with heap := h2, toks := tk + 1 } :=
      I.turnedNew (ch := [e, it]) (fun b ob hb q => (sb.2 b (fun z => hb (by simp [z]))).trans (hk b ob (fun z => hb (by simp [z])) (fun z => hb (by simp [z])) q)) hf (Nat.le_refl _) new
    refine ⟨.ref s.heap.objs.size, _, I1, rfl, ⟨_, x, rfl, I.hok.fresh (Nat.le_refl _), rfl, fun ys hy => by rw [I.tuple_inj hy hq]; exact hx⟩, ⟨⟨x1, ?_⟩, st1.1.at fun o q => (sb.2 it (Ne.symm n1)).trans q, n1, n2, n3, by have := (List.getElem?_eq_some_iff.mp hx).1; omega⟩, fun b hb => ?_⟩
    · have e1 : ((i + 1 : Nat) : Int) = (i : Int) + 1 := by omega
      rw [e1]; exact he2
    · have hb' : b < s.heap.objs.size := by
        rcases (by simpa using hb : b = e ∨ b = it) with z | z
        · rw [z]; exact hel
        · rw [z]; exact hil
      rw [upd_ne (Nat.ne_of_lt hb')]
      exact (hf b hb).1
  done := by
    intro X hP hw hK hc i pins s σ H E I hf st hg
    subst hP hw hK
    obtain ⟨⟨old, he⟩, hit, n1, n2, n3, n4⟩ := st
    obtain ⟨xs, hq, hn, hx⟩ := hg
    obtain ⟨its, rv, p, hz⟩ := I.tuple hq
    have pt : s.heap.IsTuple a its.toArray := p
    obtain ⟨f0, f1, f2, f3, f4, f5⟩ := hf it (by simp)
    have hl := rv.length
    have hsz : its.toArray.size = i := by simp; omega
    exact wpAny_pyNext_enum_endD (Draws.tuple (A := X.A.in1) (I.ok.hd hc) it a n2 its.toArray) he ⟨by rw [hsz]; exact hit, pt⟩ fun h' eb => ⟨rfl, I.turned (t' := s.toks) (fun b o hb q => eb b o hb q) f0 f1 f3 f4 f5⟩
  self := fun A i s Q E st h => let ⟨⟨_, he⟩, _⟩ := st; wpAny_pyIter_enum he h

section
variable {X : Cx} {E : XK} {sc : Scope} {N : List Str} {k : Nat} {df : Bool} {W : List Kd} {pos : Pos} {tg : Expr} {elts : List Expr} {kk : Nat} {tpos : Pos}
theorem ix_rng2 (G : Gd X E sc N k df) (hm : X.mg "range" = none) {p : Pos} {e e2 : Expr} {ma : M (List D)} (ha : AV X E W [e, e2] ma) (hg : glB sc "range" = true := by rfl) (hs : starEach [e, e2] X.env = [(false, eval e X.env), (false, eval e2 X.env)] := by rfl) (hs2 : starEach [e2] X.env = [(false, eval e2 X.env)] := by rfl) :
    IX X E W tg (.Call (.Name "range" p) [e, e2] [] pos) (mRng2 ma) := PI.imp (pi_range2 (G.gl hg).1 hm ha hs hs2) fun σ H Q q => by
  obtain ⟨f, ρ, g, s, hs, p⟩ := q
  refine ⟨f, ρ, g, s, hs, postI.bind p fun ds g1 vs H1 f1 _ e1 hs1 r1 p1 => ?_⟩
  unfold kRng2 at p1
  split at p1
  · cases r1 with
    | cons r1 rr =>
      cases rr with
      | cons r2 rr =>
        cases rr
        split at p1
        · rename_i i j e e'
          split at p1
          · rename_i hb
            exact ⟨i, j, by rw [see_int hs1 r1 e, see_int hs1 r2 e'], by omega, p1 _ H1 f1 (Ex.refl _ _) hs1 (it_rng i _)⟩
          · exact p1.elim
        · exact p1.elim
  · exact p1.elim
/-- a list's or tuple's items, counted -/
theorem ix_enum (G : Gd X E sc N k df) (hm : X.mg "enumerate" = none) {p : Pos} {e : Expr} {m : M D} (ha : PX X E W e m) (hg : glB sc "enumerate" = true := by rfl) (hs : starEach [e] X.env = [(false, eval e X.env)] := by rfl) (hs2 : starEach [e] X.env = (false, eval e X.env) :: starEach [] X.env := by rfl) :
    IX X E W (.Tuple elts kk tpos) (.Call (.Name "enumerate" p) [e] [] pos) (mEnum m) := by
  refine ⟨fun pins s σ H R I q => ?_⟩
  obtain ⟨f, ρ, g, sr, hs0, p⟩ := q
  have p0 : postI (wd X) E H f ((m ρ g).bind kEnum) R := p
  let Q : VK := fun v H1 => (∃ a xs, v = .ref a ∧ SqL X.K H1 a xs ∧ R (Ite X.K a) H1) ∨ ∃ a xs, v = .ref a ∧ SqT X.K H1 a xs ∧ R (IteT X.K a xs.length) H1
  have hq : tE (wd X) E W m σ H Q := by
    refine ⟨f, ρ, g, sr, hs0, ?_⟩
    cases hr : m ρ g with
    | ok d g' =>
      rw [hr] at p0
      have p1 : postI (wd X) E H f (kEnum d g') R := p0
      intro v H' f' ex hs' r
      cases d <;> simp only [kEnum, postI] at p1
      · simp only [Rp] at r
        obtain ⟨a, vs, rfl, h1, h2⟩ := r
        exact .inl ⟨a, vs, rfl, .of (hs'.fr _ _ h1), p1 _ H' f' ex hs' (it_enum h1 (rpL_iff.mp h2))⟩
      · simp only [Rp] at r
        obtain ⟨a, vs, rfl, h1, h2⟩ := r
        refine .inr ⟨a, vs, rfl, ?_, p1 _ H' f' ex hs' (it_enumT h1 (rpL_iff.mp h2))⟩
        rcases h1 with h1 | h1
        · exact .inl (.inl (hs'.fr _ _ h1))
        · exact .inr h1
    | ex x g' => rw [hr] at p0; exact p0
    | no => rw [hr] at p0; exact p0
  refine Call_ (ld_blt I (G.gl hg).1 hm PyProof.Rows.boot_enumerate ?_ (G.gl hg).2.2 (G.gl hg).2.1)
  refine PyProof.Rows.callWith_type1 (thn ((pa_cons (show PX X E W e m from ha) pa_nil hs2).run pos pins s σ H (fun vs H1 => ∃ v, vs = [v] ∧ Q v H1) I ?_) fun us s1 ⟨vs, H1, I1, r1, v, ev, q1⟩ => ?_) hs rfl
  · obtain ⟨f, ρ, g, sr, hs0, p⟩ := hq
    exact ⟨f, ρ, g, sr, hs0, post.imp p fun v H' h => ⟨v, rfl, h⟩⟩
  subst ev
  cases r1 with
  | cons r rr =>
    cases rr
    rcases q1 with ⟨a, xs, rfl, hx, q⟩ | ⟨a, xs, rfl, hx, q⟩
    · cases r
      obtain ⟨its, rv, p', hz⟩ := I1.list hx
      refine call_enumerate_list p'.isList fun h' he hit hsz hk => wpAny_pyIter_enum he ?_
      have I2 : Inv X pins σ H1 { s1 with heap := h' } := I1.kept (t' := s1.toks) hk
      refine ⟨s1.heap.objs.size + 1, [s1.heap.objs.size + 1, s1.heap.objs.size], _, _, H1, rfl, I2, turn_enum a (s1.heap.objs.size + 1) s1.heap.objs.size, ⟨⟨.none, he⟩, hit, Nat.succ_ne_self _⟩, fun b hb => ?_, q⟩
      have hle : s1.heap.objs.size ≤ b := by
        rcases (by simpa using hb : b = s1.heap.objs.size + 1 ∨ b = s1.heap.objs.size) with z | z
        · rw [z]; exact Nat.le_add_right _ _
        · rw [z]; exact Nat.le_refl _
      exact I1.fpOk hle (I1.hok.fresh hle)
    · cases r
      obtain ⟨its, rv, p', hz⟩ := I1.tuple hx
      have pt : s1.heap.IsTuple a its.toArray := p'
      have la : a < s1.heap.objs.size := p'.lt
      refine call_enumT pt fun h' he hit hk => wpAny_pyIter_enum he ?_
      have I2 : Inv X pins σ H1 { s1 with heap := h' } := I1.kept (t' := s1.toks) hk
      refine ⟨s1.heap.objs.size + 1, [s1.heap.objs.size + 1, s1.heap.objs.size], _, _, H1, rfl, I2, turn_enumT a (s1.heap.objs.size + 1) s1.heap.objs.size xs.length, ⟨⟨.none, he⟩, hit, Nat.succ_ne_self _, Nat.ne_of_lt la, Nat.ne_of_lt (Nat.lt_succ_of_lt la), Nat.zero_le _⟩, fun b hb => ?_, q⟩
      have hle : s1.heap.objs.size ≤ b := by
        rcases (by simpa using hb : b = s1.heap.objs.size + 1 ∨ b = s1.heap.objs.size) with z | z
        · rw [z]; exact Nat.le_add_right _ _
        · rw [z]; exact Nat.le_refl _
      exact I1.fpOk hle (I1.hok.fresh hle)

/-! ### zip -/
def zipD (xs ys : List D) : List D := (xs.zip ys).map fun p => .tup [p.1, p.2]
def kZip (d e : D) (g : List D) : R (List D) := match d, e with
  | .lst xs, .lst ys => .ok (zipD xs ys) g
  | .tup xs, .tup ys => .ok (zipD xs ys) g
  | _, _ => .no
def mZip (a : M (List D)) : M (List D) := fun ρ g => (a ρ g).bind fun ds g' => match ds with | [d, e] => kZip d e g' | _ => .no
theorem zipD_len (xs ys : List D) : (zipD xs ys).length = min xs.length ys.length := by simp [zipD]
theorem zipD_at {xs ys : List D} {i : Nat} (h1 : i < xs.length) (h2 : i < ys.length) : (zipD xs ys).getD i .non = .tup [xs.getD i .non, ys.getD i .non] := by
  have e : (zipD xs ys)[i]? = some (.tup [xs.getD i .non, ys.getD i .non]) := by
    unfold zipD
    rw [List.getElem?_map]
    have : (xs.zip ys)[i]? = some (xs[i], ys[i]) := by rw [List.getElem?_zip_eq_some]; exact ⟨List.getElem?_eq_getElem h1, List.getElem?_eq_getElem h2⟩
    rw [this]
    simp [List.getD_eq_getElem?_getD, List.getElem?_eq_getElem h1, List.getElem?_eq_getElem h2]
  rw [List.getD_eq_getElem?_getD, e]; rfl
theorem it_zip {Z : Wd} {f : Fz} {a b : Addr} {vs ws : List V} {ds es : List D} (h : f.F a = some (.lst vs)) (h' : f.F b = some (.lst ws)) (p : Paired (Rp Z f) ds vs) (p' : Paired (Rp Z f) es ws) : ItR Z (Itz Z.K a b) (zipD ds es) f := fun H' f' g' l hs i => by
  have hl := PySem.Paired.length p
  have hl' := PySem.Paired.length p'
  have hH : H' a = some (.lst vs) := hs.fr _ _ (l.F _ _ h)
  have hH' : H' b = some (.lst ws) := hs.fr _ _ (l.F _ _ h')
  rw [zipD_len]
  refine ⟨fun hi => ?_, fun hi => ⟨vs, ws, .of hH, .of hH', by omega⟩⟩
  obtain ⟨y, h1, h2⟩ := getD_pd p (i := i) (by omega) .non
  obtain ⟨y', h1', h2'⟩ := getD_pd p' (i := i) (by omega) .non
  refine ⟨⟨vs, ws, y, y', .of hH, .of hH', h1, h1'⟩, fun x H'' q => ?_⟩
  obtain ⟨T, u, u', rfl, hT, rfl, q, q'⟩ := q
  have := q vs (.of hH)
  rw [h1] at this; cases this
  have := q' ws (.of hH')
  rw [h1'] at this; cases this
  obtain ⟨f2, e1, e2, e3⟩ := frz_pair hs hT (xs := [ds.getD i .non, es.getD i .non]) (vs := [y, y']) (.cons (h2.mono l) (.cons (h2'.mono l) .nil))
  exact ⟨f2, e1, e2, by rw [zipD_at (by omega) (by omega)]; exact e3⟩
theorem it_zipT {Z : Wd} {f : Fz} {a b : Addr} {vs ws : List V} {ds es : List D} (h : f.F a = some (.tup vs) ∨ CT Z.K a vs) (h' : f.F b = some (.tup ws) ∨ CT Z.K b ws) (p : Paired (Rp Z f) ds vs) (p' : Paired (Rp Z f) es ws) : ItR Z (RZ.ItzT Z.K a b) (zipD ds es) f := fun H' f' g' l hs i => by
  have hl := PySem.Paired.length p
  have hl' := PySem.Paired.length p'
  have hH : SqT Z.K H' a vs := by
    rcases h with h | h
    · exact .inl (.inl (hs.fr _ _ (l.F _ _ h)))
    · exact .inr h
  have hH' : SqT Z.K H' b ws := by
    rcases h' with h | h
    · exact .inl (.inl (hs.fr _ _ (l.F _ _ h)))
    · exact .inr h
  rw [zipD_len]
  refine ⟨fun hi => ?_, fun hi => ⟨vs, ws, hH, hH', by omega⟩⟩
  obtain ⟨y, h1, h2⟩ := getD_pd p (i := i) (by omega) .non
  obtain ⟨y', h1', h2'⟩ := getD_pd p' (i := i) (by omega) .non
  refine ⟨⟨vs, ws, y, y', hH, hH', h1, h1'⟩, fun x H'' q => ?_⟩
  obtain ⟨T, u, u', rfl, hT, rfl, q, q'⟩ := q
  have := q vs hH
  rw [h1] at this; cases this
  have := q' ws hH'
  rw [h1'] at this; cases this
  obtain ⟨f2, e1, e2, e3⟩ := frz_pair hs hT (xs := [ds.getD i .non, es.getD i .non]) (vs := [y, y']) (.cons (h2.mono l) (.cons (h2'.mono l) .nil))
  exact ⟨f2, e1, e2, by rw [zipD_at (by omega) (by omega)]; exact e3⟩
theorem ix_zip (G : Gd X E sc N k df) (hm : X.mg "zip" = none) {p : Pos} {e e2 : Expr} {ma : M (List D)} (ha : AX X E W [e, e2] ma) (hg : glB sc "zip" = true := by rfl) (hs : starEach [e, e2] X.env = (false, eval e X.env) :: starEach [e2] X.env := by rfl) (hpl : (backTo pos (starEach [e2] X.env)).any (·.1) = false := by rfl) :
    IX X E W (.Tuple elts kk tpos) (.Call (.Name "zip" p) [e, e2] [] pos) (mZip ma) := PI.imp (RZ.pi_zipA (G.gl hg).1 hm ha hs hpl) fun σ H Q q => by
  obtain ⟨f, ρ, g, s, hs, p⟩ := q
  refine ⟨f, ρ, g, s, hs, postI.bind p fun ds g1 vs H1 f1 _ e1 hs1 r1 p1 => ?_⟩
  split at p1
  · cases r1 with
    | cons r1 rr =>
      cases rr with
      | cons r2 rr =>
        cases rr
        unfold kZip at p1
        split at p1
        · simp only [Rp] at r1 r2
          obtain ⟨a, vs, rfl, h1, h2⟩ := r1
          obtain ⟨b, ws, rfl, h1', h2'⟩ := r2
          exact ⟨a, b, vs, ws, rfl, .inl ⟨.of (hs1.fr _ _ h1), .of (hs1.fr _ _ h1'), p1 _ H1 f1 (Ex.refl _ _) hs1 (it_zip h1 h1' (rpL_iff.mp h2) (rpL_iff.mp h2'))⟩⟩
        · simp only [Rp] at r1 r2
          obtain ⟨a, vs, rfl, h1, h2⟩ := r1
          obtain ⟨b, ws, rfl, h1', h2'⟩ := r2
          refine ⟨a, b, vs, ws, rfl, .inr ⟨?_, ?_, p1 _ H1 f1 (Ex.refl _ _) hs1 (it_zipT h1 h1' (rpL_iff.mp h2) (rpL_iff.mp h2'))⟩⟩
          · rcases h1 with h | h
            · exact .inl (.inl (hs1.fr _ _ h))
            · exact .inr h
          · rcases h1' with h | h
            · exact .inl (.inl (hs1.fr _ _ h))
            · exact .inr h
        · exact p1.elim
  · exact p1.elim

/-! ### items, values -/
def itemsD (kvs : List (Key × D)) : List D := kvs.map fun p => .tup [kD p.1, p.2]
def kItems : D → List D → R (List D)
  | .dct kvs, g => .ok (itemsD kvs) g
  | _, _ => .no
def kVals : D → List D → R (List D)
  | .dct kvs, g => .ok (kvs.map (·.2)) g
  | _, _ => .no
def mItems (m : M D) : M (List D) := fun ρ g => (m ρ g).bind kItems
def mVals (m : M D) : M (List D) := fun ρ g => (m ρ g).bind kVals
theorem itemsD_at {kvs : List (Key × D)} {i : Nat} {q : Key × D} (h : kvs[i]? = some q) : (itemsD kvs).getD i .non = .tup [kD q.1, q.2] := by
  unfold itemsD
  rw [List.getD_eq_getElem?_getD, List.getElem?_map, h]; rfl
theorem it_items {Z : Wd} {f : Fz} {a : Addr} {od : Obj} {ws : List (Key × V)} {kvs : List (Key × D)} (h : f.F a = some (.frz od (.dK ws))) (p : Paired (PK Z f) kvs ws) : ItR Z (Iti a od ws) (itemsD kvs) f := fun H' f' g' l hs i => by
  have hl := PySem.Paired.length p
  have hH : H' a = some (.frz od (.dK ws)) := hs.fr _ _ (l.F _ _ h)
  rw [show (itemsD kvs).length = kvs.length by simp [itemsD]]
  refine ⟨fun hi => ?_, fun hi => ⟨hH, by omega⟩⟩
  refine ⟨⟨hH, by omega⟩, fun x H'' q => ?_⟩
  obtain ⟨T, k, v, h1, rfl, hT, rfl⟩ := q
  obtain ⟨y, h2, h3, h4⟩ := pd_getr p h1
  have h3 : y.1 = k := h3
  obtain ⟨f2, e1, e2, e3⟩ := frz_pair hs hT (xs := [kD y.1, y.2]) (vs := [kV k, v]) (.cons (by rw [h3]; exact rp_kD _ _ _) (.cons (Rp.mono l h4) .nil))
  exact ⟨f2, e1, e2, by rw [itemsD_at h2]; exact e3⟩
theorem it_vals {Z : Wd} {f : Fz} {a : Addr} {od : Obj} {ws : List (Key × V)} {kvs : List (Key × D)} (h : f.F a = some (.frz od (.dK ws))) (p : Paired (PK Z f) kvs ws) : ItR Z (Itd a od ws) (kvs.map (·.2)) f := fun H' f' g' l hs i => by
  have hl := PySem.Paired.length p
  have hH : H' a = some (.frz od (.dK ws)) := hs.fr _ _ (l.F _ _ h)
  simp only [List.length_map]
  refine ⟨fun hi => ?_, fun hi => ⟨hH, by omega⟩⟩
  refine ⟨⟨hH, by omega⟩, fun x H'' q => ?_⟩
  obtain ⟨rfl, k, h1⟩ := q
  obtain ⟨y, h2, h3, h4⟩ := pd_getr p h1
  refine ⟨f', Ex.refl _ _, hs, ?_⟩
  have e : (kvs.map (·.2)).getD i .non = y.2 := by simp [List.getD_eq_getElem?_getD, h2]
  rw [e]; exact Rp.mono l h4
theorem rp_dctF {Z : Wd} {f : Fz} {v : V} {kvs : List (Key × D)} (r : Rp Z f (.dct kvs) v) : ∃ a od ws, v = .ref a ∧ f.F a = some (.frz od (.dK ws)) ∧ Paired (PK Z f) kvs ws := by
  simp only [Rp] at r
  obtain ⟨a, od, ws, rfl, h1, h2⟩ := r
  exact ⟨a, od, ws, rfl, h1, rpK_iff.mp h2⟩
theorem ix_items {apos cpos : Pos} {e : Expr} {m : M D} (he : PX X E W e m) (hbase : attributeBase e "items" X.env (eval e X.env) = eval e X.env := by rfl) (hline : (apos.endLine == cpos.line) = true := by rfl) :
    IX X E W (.Tuple elts kk tpos) (.Call (.Attribute e "items" apos) [] [] cpos) (mItems m) := PI.imp (pi_items he hbase hline) fun σ H Q q => by
  obtain ⟨f, ρ, g, s, hs, p⟩ := q
  refine ⟨f, ρ, g, s, hs, postI.bind p fun d g1 v H1 f1 _ e1 hs1 r1 p1 => ?_⟩
  cases d <;> simp only [kItems] at p1 <;> try exact p1.elim
  obtain ⟨a, od, ws, rfl, h1, h2⟩ := rp_dctF r1
  exact ⟨a, od, ws, rfl, hs1.fr _ _ h1, p1 _ H1 f1 (Ex.refl _ _) hs1 (it_items h1 h2)⟩
theorem ix_vals {apos cpos : Pos} {e : Expr} {m : M D} (he : PX X E W e m) (hbase : attributeBase e "values" X.env (eval e X.env) = eval e X.env := by rfl) (hline : (apos.endLine == cpos.line) = true := by rfl) :
    IX X E W tg (.Call (.Attribute e "values" apos) [] [] cpos) (mVals m) := PI.imp (pi_values he hbase hline) fun σ H Q q => by
  obtain ⟨f, ρ, g, s, hs, p⟩ := q
  refine ⟨f, ρ, g, s, hs, postI.bind p fun d g1 v H1 f1 _ e1 hs1 r1 p1 => ?_⟩
  cases d <;> simp only [kVals] at p1 <;> try exact p1.elim
  obtain ⟨a, od, ws, rfl, h1, h2⟩ := rp_dctF r1
  exact ⟨a, od, ws, rfl, hs1.fr _ _ h1, p1 _ H1 f1 (Ex.refl _ _) hs1 (it_vals h1 h2)⟩
end
end TL
end

section
set_option Elab.async false
set_option linter.all false
set_option autoImplicit false
set_option maxRecDepth 100000
/-! TL, part n: d.items() walked by one name -/
namespace TL
open PySem PySem.Spec PyProof.Rows L2
variable [TabL]

section
variable {prog : Program} {w : World} {κ : Type} [DecidableEq κ] {knd : KeyKind prog w κ} {A : Around} {E : Value → Shared → Prop} {s : Shared}
open PySem.W in
/-- the next pair, whatever has become of the one before -/
theorem items_next {it d a : Addr} {f : Bool} {j ep : Nat} {kvs : List (κ × Value)} {q : κ} {v ok ov : Value} {Q : Option Value → Shared → Prop} (hI : KdxIt s.heap it d j kvs.length ep ok ov a f) (hm : s.heap.DictAt knd d kvs ep) (hx : kvs[j]? = some (q, v))
    (hQ : ∀ key h' ok' ov' a' f', knd.is q key = true → KdxIt h' it d (j + 1) kvs.length ep ok' ov' a' f' → h'.get? s.heap.objs.size = some { cls := .type "tuple", data := .seq #[key, v] } → h'.objs.size = s.heap.objs.size + 1 →
      (∀ b o, b ≠ it → s.heap.get? b = some o → h'.get? b = some o) → Q (some (.ref s.heap.objs.size)) { s with heap := h' }) : wpAny (model prog w) A (pyNext (.ref it)) Q E s := by
  obtain ⟨hp, gn, dw, tk, os⟩ := s
  obtain ⟨od, es, d1, d2, d3, d4, d5, d6⟩ := id hm
  have ty : Shared.TypeIs ⟨hp, gn, dw, tk, os⟩ (.ref it) "dict_itemiterator" := ⟨_, hI, rfl⟩
  unfold pyNext; refine wpAny_bind (wpAny_attempt (wpAny_callSpecial?_slot (name := Str.ofString "__next__") ty PySem.F.slot_dict_itemiterator_next (wpAny_call_entry PySem.F.slot_dict_itemiterator_next ty PySem.F.entry_dict_itemiterator_next ?_ (PySem.F.args_dict_itemiterator_next_1 _))))
  refine wpAny_bind (wpAny_pure ?_); refine wpAny_bind ?_; refine wpAny_bind ?_
  first | refine wpAny_bind (wpAny_typeNameOfWhole_itemiter ty (wpAny_pure ?_)) | refine wpAny_bind (wpAny_typeNameOf_itemiter ty (wpAny_pure ?_))
  refine wpAny_bind (wpAny_fieldsOf hI rfl ?_)
  have own : Builtin.Dict_items.ownsTuple "dict_itemiterator" = true := by decide
  simp only [own, if_true]; show wpAny _ _ (if (Value.ref d == Value.none) = true then _ else _) _ _ _
  rw [if_neg (show ¬ ((Value.ref d == Value.none) = true) from Bool.false_ne_true)]; refine wpAny_bind (wpAny_pure ?_)
  refine wpAny_bind (wpAny_dictEntries d1 d3 ?_)
  have esz : es.size = kvs.length := by rw [← d5.length]; simp
  rw [if_neg (by rw [esz]; simp)]; refine wpAny_bind (wpAny_pure ?_); refine wpAny_bind (wpAny_dictEpoch d1 d3 ?_)
  rw [if_neg (by simp)]; refine wpAny_pure ?_
  have jl : j < kvs.length := (List.getElem?_eq_some_iff.mp hx).1
  have jl' : j < es.size := by rw [esz]; exact jl
  obtain ⟨hkey, hval⟩ := d5.get? (e := es[j]) (by simp [jl']) hx
  simp only [show ¬ ((j : Int) < 0) from by omega, if_false, Int.toNat_natCast, Array.getElem?_eq_getElem jl']; refine wpAny_bind ?_
  first | refine wpAny_bind (wpAny_typeNameOfWhole_itemiter ty (wpAny_pure ?_)) | refine wpAny_bind (wpAny_typeNameOf_itemiter ty (wpAny_pure ?_))
  refine wpAny_bind (wpAny_isOneOf_itemiter ty ?_); show wpAny _ _ (setField (.ref it) 3 (rawInt ((j : Int) + 1)) >>= _) _ _ ⟨hp, gn, dw, tk, os⟩
  refine wpAny_bind (wpAny_setField_rec hI (by simp) fun k1 i1 sb1 => ?_)
  replace sb1 : Heap.SameBut it hp k1 := sb1
  replace i1 : KdxIt k1 it d (j + 1) kvs.length ep ok ov a f := by
    have e : ((j + 1 : Nat) : Int) = (j : Int) + 1 := by omega
    unfold KdxIt; rw [e]; simpa [rawInt] using i1
  have ty1 : Shared.TypeIs ⟨k1, gn, dw, tk, os⟩ (.ref it) "dict_itemiterator" := ⟨_, i1, rfl⟩
  refine wpAny_bind (wpAny_holding ?_); refine wpAny_bind (wpAny_isOneOf_itemiter ty1 ?_); refine wpAny_bind (wpAny_isOneOf_itemiter ty1 ?_)
  show wpAny _ _ (Builtin.Dict_items.pairFromOwner (.ref it) 6 es[j].key es[j].val) _ _ ⟨k1, gn, dw, tk, os⟩
  unfold Builtin.Dict_items.pairFromOwner; refine wpAny_bind (wpAny_newTuple ?_)
  have i2 : KdxIt (k1.push { cls := .type "tuple", data := .seq #[es[j].key, es[j].val] }) it d (j + 1) kvs.length ep ok ov a f := Heap.get?_push_of_some _ i1
  generalize g2 : k1.push { cls := .type "tuple", data := .seq #[es[j].key, es[j].val] } = k2 at i2
  have z1 : k1.objs.size = hp.objs.size := sb1.1
  have itl : it < hp.objs.size := Heap.lt_size hI
  have t2 : k2.get? hp.objs.size = some { cls := .type "tuple", data := .seq #[es[j].key, es[j].val] } := by rw [← g2, ← z1]; exact Heap.get?_push_size _ rfl
  have z2 : k2.objs.size = hp.objs.size + 1 := by rw [← g2, Heap.size_push, z1]
  have kp2 : ∀ b o, b ≠ it → hp.get? b = some o → k2.get? b = some o := fun b o hb e => by rw [← g2]; exact Heap.get?_push_of_some _ (sb1.extBut b o hb e)
  show wpAny _ _ (Builtin.Dict_items.ownedTupleIsFree (.ref it) >>= _) _ _ ⟨k2, gn, dw, tk, os⟩
  rw [z1]; clear g2 i1 sb1 ty1 z1 k1
  have fin : ∀ (k3 : Heap) (ok' ov' : Value) (a' : Addr) (f' : Bool), KdxIt k3 it d (j + 1) kvs.length ep ok' ov' a' f' → Heap.SameBut it k2 k3 → Q (some (.ref hp.objs.size)) ⟨k3, gn, dw, tk, os⟩ := fun k3 ok' ov' a' f' i3 sb =>
    hQ es[j].key k3 ok' ov' a' f' hkey i3 (by rw [← hval]; exact sb.extBut _ _ (Nat.ne_of_gt itl) t2) (by show k3.objs.size = hp.objs.size + 1; rw [sb.1, z2]) fun b o hb e => sb.extBut b o hb (kp2 b o hb e)
  refine wpAny_bind ?_; unfold Builtin.Dict_items.ownedTupleIsFree
  refine wpAny_bind (wpAny_field i2 rfl (x := rawInt a) rfl ?_); show wpAny _ _ (loadIfAlive ((a : Int).toNat) >>= _) _ _ _
  rw [Int.toNat_natCast]
  cases hal : k2.get? a with
  | some oa =>
    refine wpAny_bind (kdx_alive hal ?_); simp only [Option.isNone_some, Bool.false_eq_true, if_false]
    refine wpAny_bind (wpAny_field i2 rfl (x := .bool f) rfl ?_)
    cases f with
    | true =>
      rw [if_neg (show ¬ ((Value.bool true != Value.bool true) = true) from Bool.false_ne_true)]; refine wpAny_pure ?_
      simp only [Bool.false_eq_true, if_false]; exact wpAny_pure (wpAny_pure ⟨_, rfl, wpAny_pure (fin k2 _ _ _ _ i2 (Heap.SameBut.refl _ _))⟩)
    | false =>
      rw [if_pos (show (Value.bool false != Value.bool true) = true from rfl)]; refine wpAny_bind (wpAny_setField_rec i2 (by simp) fun k3 i3 sb3 => ?_)
      replace i3 : KdxIt k3 it d (j + 1) kvs.length ep ok ov a true := i3
      refine wpAny_pure ?_; simp only [Bool.false_eq_true, if_false]; exact wpAny_pure (wpAny_pure ⟨_, rfl, wpAny_pure (fin k3 _ _ _ _ i3 sb3)⟩)
  | none =>
    refine wpAny_bind (show wpAny (model prog w) _ (loadIfAlive a) _ _ _ from ?_)
    have h0 : ∀ (M : Model) (B : Around) (Q' : Option Obj → Shared → Prop) (E' : Value → Shared → Prop), Q' none ⟨k2, gn, dw, tk, os⟩ → wpAny M B (loadIfAlive a) Q' E' ⟨k2, gn, dw, tk, os⟩ := fun M B Q' E' h => by
      have h' : Q' (k2.get? a) ⟨k2, gn, dw, tk, os⟩ := by rw [hal]; exact h
      exact fun _ _ _ => h'
    refine h0 _ _ _ _ ?_
    simp only [Option.isNone_none, if_true]
    refine wpAny_pure ?_
    simp only [if_true]
    refine wpAny_bind (wpAny_field i2 rfl (x := ok) rfl ?_); refine wpAny_bind (wpAny_field i2 rfl (x := ov) rfl ?_)
    refine wpAny_bind (wpAny_setField_rec i2 (by simp) fun k3 i3 sb3 => ?_)
    replace i3 : KdxIt k3 it d (j + 1) kvs.length ep es[j].key ov a f := i3
    refine wpAny_bind (wpAny_setField_rec i3 (by simp) fun k4 i4 sb4 => ?_)
    replace i4 : KdxIt k4 it d (j + 1) kvs.length ep es[j].key es[j].val a f := i4
    refine wpAny_bind (wpAny_setField_rec i4 (by simp) fun k5 i5 sb5 => ?_)
    replace i5 : KdxIt k5 it d (j + 1) kvs.length ep es[j].key es[j].val hp.objs.size f := i5
    refine wpAny_bind (wpAny_setField_rec i5 (by simp) fun k6 i6 sb6 => ?_)
    replace i6 : KdxIt k6 it d (j + 1) kvs.length ep es[j].key es[j].val hp.objs.size false := i6
    have sb : Heap.SameBut it k2 k6 := by
      have q3 : Heap.SameBut it k2 k3 := sb3
      have q4 : Heap.SameBut it k3 k4 := sb4
      have q5 : Heap.SameBut it k4 k5 := sb5
      have q6 : Heap.SameBut it k5 k6 := sb6
      exact ⟨q6.1.trans (q5.1.trans (q4.1.trans q3.1)), fun b hb => (q6.2 b hb).trans ((q5.2 b hb).trans ((q4.2 b hb).trans (q3.2 b hb)))⟩
    exact wpAny_bind (wpAny_letGo (wpAny_pure (wpAny_pure ⟨_, rfl, wpAny_pure (fin k6 _ _ _ _ i6 sb)⟩)))
end
section
variable {P : Program} {w : World} {K : PySem.W.Frag} {d : Addr} {o : Obj} {es : Array DictEntry} {ep : Nat}
/-- where such a walk stands -/
def ItmSt (it d ep n : Nat) (i : Nat) (h : Heap) : Prop := (i = 0 ∧ ∃ ok ov, IsItemIter h it d 0 n ep ok ov) ∨ ∃ ok ov a f, PySem.W.KdxIt h it d i n ep ok ov a f
theorem turn_itemsN {kvs : List (Key × V)} {x : Str} {npos : Pos} (it : Addr) (hod : o.data = .dict es ep) :
    Turn P w K (.Name x npos) (Iti d o kvs) [it] it (ItmSt it d ep kvs.length) where
  mem := by simp
  obj := fun i h st b hb => by
    have z : b = it := by simpa using hb
    subst z
    rcases st with ⟨_, ok, ov, e⟩ | ⟨ok, ov, a, f, e⟩
    · exact ⟨_, e, fun v z => nomatch z⟩
    · exact ⟨_, e, fun v z => nomatch z⟩
  keep := fun i h h' st k => by
    rcases st with ⟨z, ok, ov, e⟩ | ⟨ok, ov, a, f, e⟩
    · exact .inl ⟨z, ok, ov, k it (by simp) _ e⟩
    · exact .inr ⟨ok, ov, a, f, k it (by simp) _ e⟩
  item := by
    intro X hP hw hK hc i pins s σ H E I hf st hg
    subst hP hw hK
    obtain ⟨hd, hi⟩ := hg
    obtain ⟨hs, hgd, hx, es', ep', vs, hdt, hsz, kv, hm⟩ := I.frzK hd
    obtain ⟨rfl, rfl⟩ := dict_ep hod hdt
    obtain ⟨⟨q, v⟩, hkv⟩ : ∃ p, kvs[i]? = some p := ⟨kvs[i], List.getElem?_eq_getElem hi⟩
    obtain ⟨u, hu, ru⟩ := kv_get kv hkv
    have hl : kvs.length = vs.length := PySem.Paired.length kv
    have itl : it < s.heap.objs.size := by
      rcases st with ⟨_, ok, ov, e⟩ | ⟨ok, ov, a, f, e⟩ <;> exact Heap.lt_size e
    have goal : ∀ key h' ok' ov' a' f', keyIs q key = true → PySem.W.KdxIt h' it d (i + 1) vs.length ep' ok' ov' a' f' → h'.get? s.heap.objs.size = some { cls := .type "tuple", data := .seq #[key, u] } →
        (∀ b ob, b ≠ it → s.heap.get? b = some ob → h'.get? b = some ob) → ∃ u1, some (Value.ref s.heap.objs.size) = some u1 ∧
        wpAny (model X.prog X.w) X.A (letOwnedTupleGo (.Name x npos) (.ref it) u1) (fun _ s2 => ∃ x H', Inv X pins σ H' s2 ∧ RelV x u1 ∧ (Iti d o kvs).yld i H x H' ∧ ItmSt it d ep' kvs.length (i + 1) s2.heap ∧ ∀ b ∈ [it], H' b = none) E { s with heap := h' } := by
      intro key h' ok' ov' a' f' hkey he hT hk
      refine ⟨_, rfl, wpAny_pure ?_⟩
      have new : ObjOk X.prog X.w (upd H s.heap.objs.size (.tup [kV q, v])) h' s.heap.objs.size (.tup [kV q, v]) :=
        ⟨by show 2 ≤ sizeLine; decide, [key, u], .cons (relV_key hkey) (.cons ru .nil), ⟨_, hT, rfl, _, rfl⟩⟩
      have J1 : Inv X pins σ (upd H s.heap.objs.size (.tup [kV q, v])) { s with heap := h' } := I.turnedNew (t' := s.toks) (ch := [it]) (fun b ob hb e => hk b ob (by simpa using hb) e) hf (Nat.le_refl _) new
      refine ⟨.ref s.heap.objs.size, _, J1, rfl, ⟨_, q, v, hkv, rfl, I.hok.fresh (Nat.le_refl _), rfl⟩, .inr ⟨ok', ov', a', f', by rw [hl]; exact he⟩, fun b hb => ?_⟩
      have z : b = it := by simpa using hb
      subst z
      rw [upd_ne (Nat.ne_of_lt itl)]
      exact (hf b (by simp)).1
    rcases st with ⟨z, ok, ov, he⟩ | ⟨ok, ov, a, f, he⟩
    · subst z
      rw [hl] at he
      exact wpAny_pyNext_items_item he hm hu fun key h' hkey ho hT hz hk => goal key h' _ _ _ _ (show keyIs q key = true from hkey) ho hT hk
    · rw [hl] at he
      exact items_next he hm hu fun key h' ok' ov' a' f' hkey ho hT hz hk => goal key h' ok' ov' a' f' (show keyIs q key = true from hkey) ho hT hk
  done := by
    intro X hP hw hK hc i pins s σ H E I hf st hg
    subst hP hw hK
    obtain ⟨hd, hi⟩ := hg
    obtain ⟨f0, f1, f2, f3, f4, f5⟩ := hf it (by simp)
    obtain ⟨hs, hgd, hx, es', ep', vs, hdt, hsz, kv, hm⟩ := I.frzK hd
    obtain ⟨rfl, rfl⟩ := dict_ep hod hdt
    have hl : kvs.length = vs.length := PySem.Paired.length kv
    have fin : ∀ h', Heap.ExtBut it s.heap h' → none = (none : Option Value) ∧ Inv X pins σ H { s with heap := h' } := fun h' eb => ⟨rfl, I.turned (t' := s.toks) (fun b ob hb e => eb b ob hb e) f0 f1 f3 f4 f5⟩
    rcases st with ⟨z, ok, ov, he⟩ | ⟨ok, ov, a, f, he⟩
    · subst z
      rw [hl] at he
      exact wpAny_pyNext_items_end (I.ok.hd hc) he hm (List.getElem?_eq_none (by omega)) fin
    · rw [hl] at he
      exact PySem.W.kdx_end_out (I.ok.hd hc) he hm (List.getElem?_eq_none (by omega)) fin
  self := fun A i s Q E st h => by
    have ty : s.TypeIs (.ref it) "dict_itemiterator" := by rcases st with ⟨_, ok, ov, e⟩ | ⟨ok, ov, a, f, e⟩ <;> exact ⟨_, e, rfl⟩
    exact wpAny_pyIter_slot ty PySem.F.slot_dict_itemiterator_iter (wpAny_call_entry PySem.F.slot_dict_itemiterator_iter ty PySem.W.kcp_entry (show wpAny _ _ (ret (.ref it)) _ _ s from wpAny_pure ⟨_, rfl, "dict_itemiterator", _, ty, PySem.F.slot_dict_itemiterator_next.lookup, h⟩) (PySem.F.args_dict_itemiterator_iter_1 _))
end
section
variable {X : Cx} {E : XK} {W : List Kd} {apos cpos npos : Pos} {x : Str}
theorem pi_itemsN {e : Expr} {td : TE} (he : PE X e td) (hbase : attributeBase e "items" X.env (eval e X.env) = eval e X.env := by rfl) (hline : (apos.endLine == cpos.line) = true := by rfl) :
    PI X (.Name x npos) (.Call (.Attribute e "items" apos) [] [] cpos) (iItems td) := by
  refine ⟨fun pins s σ H R I h => ?_⟩
  refine wpAny_Call_method (T := "dict") (id := "dict.items") hbase rfl hline F.plainAttrs_dict F.slot_dict_items F.type_dict_items (thn (he.run pins s σ H _ I h) fun u s1 ⟨x', H1, I1, rx, d, o, kvs, ex, hd, q⟩ => ?_)
  subst ex
  obtain rfl : u = Value.ref d := rx
  obtain ⟨hs, hgd, hx, es, ep, vs, hdt, hsz, kv, hm⟩ := I1.frzK hd
  have hl : kvs.length = vs.length := PySem.Paired.length kv
  refine ⟨hm.dictOf.typeIs, hm.dictOf.mapOf.noDict, ?_⟩
  have I2 : Inv X pins σ H1 { s1 with heap := s1.heap.push { cls := .type "dict_items", data := .fields #[.ref d] } } := I1.kept (t' := s1.toks) fun b ob q => Heap.get?_push_of_some _ q
  have fin : wpAny (model X.prog X.w) X.A (pyIter (.ref s1.heap.objs.size)) (PIE X pins σ (.Name x npos) R) X.xe { s1 with heap := s1.heap.push { cls := .type "dict_items", data := .fields #[.ref d] } } := by
    refine wpAny_pyIter_items (d := d) (knd := mixKind X.prog X.w) ⟨_, Heap.get?_push_size _ rfl, rfl, rfl⟩ (hm.push _) (pi_one (tk := s1.toks) I2 _ (turn_itemsN _ hdt) (.inl ⟨rfl, .none, .none, ?_⟩) q)
    rw [hl]; exact Heap.get?_push_size _ rfl
  exact method_meetsIn F.slot_dict_items F.entry_dict_items rfl (PySem.evalArgs_none ⟨rfl, hm.dictOf.typeIs, F.args_dict_items_1 _, _, meets_dict_items (mixKind X.prog X.w) d hs, ⟨vs, hm.dictOf⟩, fin⟩)
theorem ix_itemsN {e : Expr} {m : M D} (he : PX X E W e m) (hbase : attributeBase e "items" X.env (eval e X.env) = eval e X.env := by rfl) (hline : (apos.endLine == cpos.line) = true := by rfl) :
    IX X E W (.Name x npos) (.Call (.Attribute e "items" apos) [] [] cpos) (mItems m) := PI.imp (pi_itemsN he hbase hline) fun σ H Q q => by
  obtain ⟨f, ρ, g, s, hs, p⟩ := q
  refine ⟨f, ρ, g, s, hs, postI.bind p fun d g1 v H1 f1 _ e1 hs1 r1 p1 => ?_⟩
  cases d <;> simp only [kItems] at p1 <;> try exact p1.elim
  obtain ⟨a, od, ws, rfl, h1, h2⟩ := rp_dctF r1
  exact ⟨a, od, ws, rfl, hs1.fr _ _ h1, p1 _ H1 f1 (Ex.refl _ _) hs1 (it_items h1 h2)⟩
end
end TL
end

section
set_option Elab.async false
set_option linter.all false
set_option autoImplicit false
set_option maxRecDepth 100000
/-! TL, part o: methods, what changes containers -/
namespace TL
open PySem PySem.Spec PyProof.Rows L2
variable [TabL]

def tyB (T : String) : D → Bool
  | .lst _ => T == "list"
  | .dct _ => T == "dict"
  | _ => false
/-- a method that may change its container -/
structure OpM (Z : Wd) (T : String) (rel : Hp → Fz → D → V → Prop) (r : V → List V → Hp → VK → Prop) (kM : D → List D → List D → Option (D × D)) : Prop where
  ty : ∀ d ds g z, kM d ds g = some z → tyB T d = true
  run : ∀ a o d vs ds H f g Q d' res, H a = some o → RpO Z f o d → isFz o = false → f.F a = none → Paired (rel H f) ds vs → Hs Z H f g → kM d ds g = some (d', res) →
    (∀ o' v, RpO Z f o' d' → isFz o' = false → Rp Z f res v → Q v (upd H a o')) → r (.ref a) vs H Q
/-! ### the methods -/
section
variable {Z : Wd}
def kAppend : D → List D → List D → Option (D × D)
  | .lst xs, [d], _ => if xs.length < 16777216 then some (.lst (xs ++ [d]), .non) else none
  | _, _, _ => none
theorem om_append : OpM Z "list" (relD Z) rAppend kAppend where
  ty := fun d ds g z h => by cases d <;> first | rfl | simp [kAppend] at h
  run := fun a o d vs ds H f g Q d' res hH ro nz hF r hs e k => by
    unfold kAppend at e
    split at e
    · split at e
      · rename_i hl
        cases e
        cases o <;> simp only [RpO] at ro
        cases r with
        | cons r1 rr =>
          cases rr
          exact ⟨a, _, _, rfl, rfl, hH, by rw [sl_eq, ← PySem.Paired.length ro]; exact hl, k (.lst _) .non (pd_app ro (.cons r1 .nil)) rfl (by simp only [Rp])⟩
      · cases e
    · cases e
def kExtend : D → List D → List D → Option (D × D)
  | .lst xs, [d], g => (match vw g d with | .lst ys => if xs.length + ys.length ≤ 16777216 then some (.lst (xs ++ ys), .non) else none | _ => none)
  | _, _, _ => none
theorem om_extend : OpM Z "list" (relV Z) rExtend kExtend where
  ty := fun d ds g z h => by cases d <;> first | rfl | simp [kExtend] at h
  run := fun a o d vs ds H f g Q d' res hH ro nz hF r hs e k => by
    unfold kExtend at e
    split at e
    · split at e
      · rename_i ys hy
        split at e
        · rename_i hl
          cases e
          cases o <;> simp only [RpO] at ro
          cases r with
          | cons r1 rr =>
            cases rr
            obtain ⟨b, ws, rfl, h1, h2⟩ := see_lst hs r1 hy
            exact ⟨a, b, _, ws, rfl, rfl, hH, h1, by rw [sl_eq, ← PySem.Paired.length ro, ← PySem.Paired.length h2]; exact hl, k (.lst _) .non (pd_app ro h2) rfl (by simp only [Rp])⟩
        · cases e
      · cases e
    · cases e
def kPop : D → List D → List D → Option (D × D)
  | .lst xs, [], _ => (match xs[xs.length - 1]? with | some y => some (.lst xs.dropLast, y) | none => none)
  | _, _, _ => none
theorem om_pop : OpM Z "list" (relV Z) rPop kPop where
  ty := fun d ds g z h => by cases d <;> first | rfl | simp [kPop] at h
  run := fun a o d vs ds H f g Q d' res hH ro nz hF r hs e k => by
    unfold kPop at e
    split at e
    · split at e
      · rename_i y hy
        cases e
        cases o <;> simp only [RpO] at ro
        cases r
        obtain ⟨w, h1, h2⟩ := pd_get ro hy
        exact ⟨a, _, w, rfl, rfl, hH, by rw [← PySem.Paired.length ro]; exact h1, k (.lst _) w (pd_dropLast ro) rfl h2⟩
      · cases e
    · cases e
def kPopAt : D → List D → List D → Option (D × D)
  | .lst xs, [d], g => (match vw g d with
    | .int i => if -9223372036854775808 ≤ i ∧ i < 9223372036854775808 then (seqIndex? i xs.length).bind fun j => (xs[j]?).map fun y => (.lst (xs.eraseIdx j), y) else none
    | _ => none)
  | _, _, _ => none
theorem om_popAt : OpM Z "list" (relV Z) rPopAt kPopAt where
  ty := fun d ds g z h => by cases d <;> first | rfl | simp [kPopAt] at h
  run := fun a o d vs ds H f g Q d' res hH ro nz hF r hs e k => by
    unfold kPopAt at e
    split at e
    · split at e
      · rename_i i hi
        split at e
        · rename_i hl
          simp only [Option.bind_eq_some_iff, Option.map_eq_some_iff] at e
          obtain ⟨j, e1, y, e2, e3⟩ := e
          cases e3
          cases o <;> simp only [RpO] at ro
          cases r with
          | cons r1 rr =>
            cases rr
            obtain ⟨w, h1, h2⟩ := pd_get ro e2
            exact ⟨a, _, i, j, w, rfl, by rw [see_int hs r1 hi], hH, by omega, by omega, by rw [← PySem.Paired.length ro]; exact e1, h1, k (.lst _) w (pd_erase j ro) rfl h2⟩
        · cases e
      · cases e
    · cases e
/-- d.update(e), e a dict that is frozen -/
def kUpdate : D → List D → List D → Option (D × D)
  | .dct kvs, [.dct more], _ => if kvs.length + more.length ≤ 16777216 then some (.dct (mergeD kvs more), .non) else none
  | _, _, _ => none
def rUpdate : V → List V → Hp → VK → Prop := fun x vs H Q => ∃ a b kvs more, x = .ref a ∧ vs = [.ref b] ∧ a ≠ b ∧ H a = some (.dK kvs) ∧ Rd H b (.dK more) ∧ kvs.length + more.length ≤ sizeLine ∧ Q .non (upd H a (.dK (mergeK kvs more)))
theorem mt_update {X : Cx} : MtM X "dict.update" rUpdate := by
  intro pins s σ H x vs v us Q I rx rv h
  obtain ⟨a, b, kvs, more, rfl, rfl, hab, hH, hB, hz, q⟩ := h
  cases rx
  obtain ⟨u, rfl, ru⟩ := rv.one
  cases ru
  obtain ⟨z, hd, vs1, rel1, dd1⟩ := dk_of I.hok hH
  obtain ⟨z2, hd2, vs2, rel2, dd2⟩ := dk_rd I.hok hB
  refine call_meetsIn PySem.F.slot_dict_update dd1.typeIs PySem.F.entry_dict_update (PySem.F.args_dict_update_2 _ _) (meets_dict_update (mixKind X.prog X.w) a b hab hd2) ⟨vs1, vs2, dd1, dd2, by rw [← rel1.length, ← rel2.length]; exact hz, fun h' h1 h2 sb => ?_⟩
  have he : ∃ q, h'.get? a = some q := let ⟨q, _, _, hq, _⟩ := h1; ⟨q, hq⟩
  have hl : (mergeK kvs more).length ≤ sizeLine := Nat.le_trans (length_mergeK more kvs) hz
  exact ⟨.non, _, d_write (t' := s.toks) I (by rw [hH]; exact True.intro) sb he (dk_new hl hd (KV.merge rel2 rel1) h1), rfl, q⟩
theorem om_update : OpM Z "dict" (relD Z) rUpdate kUpdate where
  ty := fun d ds g z h => by cases d <;> first | rfl | simp [kUpdate] at h
  run := fun a o d vs ds H f g Q d' res hH ro nz hF r hs e k => by
    unfold kUpdate at e
    split at e
    · split at e
      · rename_i hl
        cases e
        cases o with
        | dK ws =>
          simp only [RpO] at ro
          cases r with
          | cons r1 rr =>
            cases rr
            obtain ⟨b, od, ms, rfl, h1, h2⟩ := rp_dctF r1
            refine ⟨a, b, ws, ms, rfl, rfl, fun z => ?_, hH, .inr ⟨od, hs.fr _ _ h1⟩, by rw [sl_eq, ← PySem.Paired.length ro, ← PySem.Paired.length h2]; exact hl, k (.dK _) .non (merge_pd h2 ro) rfl (by simp only [Rp])⟩
            subst z; rw [hF] at h1; cases h1
        | frz od u => cases nz
        | _ => simp only [RpO] at ro
      · cases e
    · cases e
end

/-! ### the rules -/
section
variable {X : Cx} {E : XK} {sc : Scope} {N : List Str} {k : Nat} {df : Bool} {WL W Wn : List Kd} {pos apos cpos npos spos : Pos} {T id : String} {name x : Str} {es : List Expr} {e : Expr}
variable {r : V → List V → Hp → VK → Prop} {kM : D → List D → List D → Option (D × D)}
theorem ty_ow {Z : Wd} {H : Hp} {f : Fz} {a : Addr} {o : HO} {d : D} (hH : H a = some o) (ro : RpO Z f o d) (nz : isFz o = false) (h : tyB T d = true) : tyV Z.K T (.ref a) H := by
  cases d <;> simp only [tyB, beq_iff_eq] at h <;> try (cases h)
  · cases o <;> simp only [RpO] at ro
    exact .inl ⟨rfl, _, .of hH⟩
  · cases o with
    | dK ws => exact .inr (.inr (.inl ⟨rfl, .inl ⟨_, hH⟩⟩))
    | frz od u => cases nz
    | _ => simp only [RpO] at ro
theorem postS.bindP {α β : Type} {rel : Hp → Fz → α → β → Prop} {Z : Wd} {E : XK} {B : Bs} {WL W Wn : List Kd} {σ : L2.St} {ρ : List D} {H : Hp} {f : Fz} {g : List D} {r : R α} {k : α → List D → RS} {N : Ends} {Q' : β → Hp → Prop} (s : Ss Z B W σ ρ H f g)
    (p : postS Z E B f WL Wn (r.st k) N) (h : ∀ a g v H' f', r = .ok a g → Le f f' → Ss Z B W σ ρ H' f' g → rel H' f' a v → postS Z E B f' WL Wn (k a g) N → Q' v H') : post rel Z E H f r Q' := by
  cases r with
  | ok a g' => exact fun v H' f' e hs r => h a g' v H' f' rfl e.le (s.ext e hs) r (postS.low (r := k a g') p e.le)
  | ex x g' => exact pEx.ext p s.ex
  | no => exact p
/-- the reading of a slot's method, a statement's end behind it -/
theorem mth_core {rel : Hp → Fz → D → V → Prop} {Z : Wd} {i : Nat} {a : M (List D)} {kk : D → D → MS} {B : Bs} {f : Fz} {ρ g : List D} {σ : L2.St} {H : Hp} {N : Ends} {Q : VK} (om : OpM Z T rel r kM) (hk : W[i]? = some .ow) (nl : W.all (fun q => decide (q ≠ .lk)) = true)
    (s : Ss Z B W σ ρ H f g)
    (p : postS Z E B f WL Wn (if tyB T (ρ.getD i .non) = true then (a ρ g).st fun ds g1 => match kM (ρ.getD i .non) ds g1 with | some (d', rs) => kk d' rs (ρ.set i d') g1 | none => .no else .no) N)
    (hq : ∀ d' rs v H' g1 f1, Le f f1 → Ss Z B W σ (ρ.set i d') H' f1 g1 → Rp Z f1 rs v → postS Z E B f1 WL Wn (kk d' rs (ρ.set i d') g1) N → Q v H') :
    ∃ v, σ[i]? = some (some v) ∧ (tyV Z.K T v H ∧ (tG (fun H f ds vs => Paired (rel H f) ds vs) Z E W a) σ H fun vs H2 => r v vs H2 Q) := by
  obtain ⟨ad, o, e1, hF, hn, hH, ro, nz⟩ := s.sr.slot i .ow hk
  split at p
  · rename_i ht
    refine ⟨_, e1, ty_ow hH ro nz ht, f, ρ, g, s.sr, s.hs, ?_⟩
    refine postS.bindP s p fun ds g1 vs H1 f1 he l s1 r1 p1 => ?_
    obtain ⟨ad', o1, e1', hF1, hn1, hH1, ro1, nz1⟩ := s1.sr.slot i .ow hk
    rw [e1] at e1'; cases e1'
    cases hm : kM (ρ.getD i .non) ds g1 with
    | none => rw [hm] at p1; exact p1.elim
    | some z =>
      obtain ⟨d', rs⟩ := z
      rw [hm] at p1
      refine om.run ad o1 _ vs ds H1 f1 g1 Q d' rs hH1 ro1 nz1 hF1 r1 s1.hs hm fun o' v ro' nz' rv => ?_
      exact hq d' rs v _ g1 f1 l (s1.mut hk e1 ro' nz' nl) rv p1
  · exact p.elim
/-- a slot's own container is changed by a method -/
def mMthG (T : String) (i : Nat) (a : M (List D)) (kM : D → List D → List D → Option (D × D)) (kk : D → D → MS) : MS := fun ρ g =>
  if tyB T (ρ.getD i .non) = true then (a ρ g).st fun ds g1 => match kM (ρ.getD i .non) ds g1 with | some (d', rs) => kk d' rs (ρ.set i d') g1 | none => .no else .no
def mMth (T : String) (i : Nat) (a : M (List D)) (kM : D → List D → List D → Option (D × D)) : MS := mMthG T i a kM fun _ _ ρ g => .nx ρ g
def mMthS (T : String) (i j : Nat) (a : M (List D)) (kM : D → List D → List D → Option (D × D)) : MS := mMthG T i a kM fun _ rs ρ g => .nx (ρ.set j rs) g
/-- the method's facts -/
structure Mt (X : Cx) (T : String) (name : Str) (id : String) (r : V → List V → Hp → VK → Prop) : Prop where
  pa : PlainAttrs T
  slot : Slot T name id
  hty : typeOf (.builtin id) = pure (.type "method_descriptor")
  hm : MtR X id r
theorem mt_ap : Mt X "list" "append" "list.append" rAppend := ⟨F.plainAttrs_list, F.slot_list_append, F.type_list_append, mt_append⟩
theorem mt_ex : Mt X "list" "extend" "list.extend" rExtend := ⟨F.plainAttrs_list, F.slot_list_extend, F.type_list_extend, mt_extend⟩
theorem mt_po : Mt X "list" "pop" "list.pop" rPop := ⟨F.plainAttrs_list, F.slot_list_pop, F.type_list_pop, mt_pop⟩
theorem mt_pa : Mt X "list" "pop" "list.pop" rPopAt := ⟨F.plainAttrs_list, F.slot_list_pop, F.type_list_pop, mt_popAt⟩
theorem mt_up : Mt X "dict" "update" "dict.update" rUpdate := ⟨F.plainAttrs_dict, F.slot_dict_update, F.type_dict_update, mt_update⟩
theorem ax_pa {a : M (List D)} (h : AX X E W es a) : PA X es (tG (fun H f ds vs => Paired (relD (wd X) H f) ds vs) (wd X) E W a) := h
theorem av_pa {a : M (List D)} (h : AV X E W es a) : PA X es (tG (fun H f ds vs => Paired (relV (wd X) H f) ds vs) (wd X) E W a) := h
/-- x.m(e, ..) as a statement, x a container of one's own -/
theorem sx_mth (G : Gd X E sc N k df) (i : Nat) {rel : Hp → Fz → D → V → Prop} {a : M (List D)} (mt : Mt X T name id r) (om : OpM (wd X) T rel r kM) (ha : PA X (e :: es) (tG (fun H f ds vs => Paired (rel H f) ds vs) (wd X) E W a)) (hN : N[i]? = some x := by rfl) (hv : visB sc x = true := by rfl) (hk : W[i]? = some .ow := by rfl)
    (hw : Wle Wn W = true := by rfl) (nl : W.all (fun q => decide (q ≠ .lk)) = true := by rfl)
    (hbase : attributeBase (.Name x npos) name X.env (eval (.Name x npos) X.env) = eval (.Name x npos) X.env := by rfl)
    (hfew : ((backTo cpos (starEach (e :: es) X.env)).all (fun x => !x.1) && (backToKw cpos (keywordEach [] X.env)).all (fun x => x.1.isSome) && decide ((e :: es).length + ([] : List Keyword).length + (if ([] : List Keyword).isEmpty then 0 else 1) < 30)) = true := by rfl)
    (hline : (apos.endLine == cpos.line) = true := by rfl) (hs : starEach (e :: es) X.env = (false, eval e X.env) :: starEach es X.env := by rfl) (hplain : (backTo cpos (starEach es X.env)).any (·.1) = false := by rfl)
    (hsw : swapsWith (.Call (.Attribute (.Name x npos) name apos) (e :: es) [] cpos) none pos.line X.env = pure false := by rfl) :
    SX X E WL W (.Expr (.Call (.Attribute (.Name x npos) name apos) (e :: es) [] cpos) pos) Wn (mMth T i a kM) :=
  PS.imp (ps_expr (pe_bm mt.pa mt.slot mt.hty mt.hm (G.name i hN hv) ha hbase hfew hline hs hplain) hsw) fun ND σ H q => by
    obtain ⟨B, f, ρ, g, s, p⟩ := q
    exact mth_core (kk := fun _ _ ρ g => .nx ρ g) om hk nl s p fun d' rs v H' g1 f1 l s1 rv p1 => p1 σ H' f1 (Le.refl _) (s1.weak hw)
theorem sx_mth0 (G : Gd X E sc N k df) (i : Nat) {rel : Hp → Fz → D → V → Prop} (mt : Mt X T name id r) (om : OpM (wd X) T rel r kM) (hN : N[i]? = some x := by rfl) (hv : visB sc x = true := by rfl) (hk : W[i]? = some .ow := by rfl)
    (hw : Wle Wn W = true := by rfl) (nl : W.all (fun q => decide (q ≠ .lk)) = true := by rfl)
    (hbase : attributeBase (.Name x npos) name X.env (eval (.Name x npos) X.env) = eval (.Name x npos) X.env := by rfl) (hline : (apos.endLine == cpos.line) = true := by rfl)
    (hsw : swapsWith (.Call (.Attribute (.Name x npos) name apos) [] [] cpos) none pos.line X.env = pure false := by rfl) :
    SX X E WL W (.Expr (.Call (.Attribute (.Name x npos) name apos) [] [] cpos) pos) Wn (mMth T i mNil kM) :=
  PS.imp (ps_expr (pe_bm0 mt.pa mt.slot mt.hty mt.hm (G.name i hN hv) hbase hline) hsw) fun ND σ H q => by
    obtain ⟨B, f, ρ, g, s, p⟩ := q
    obtain ⟨v, e1, t, f', ρ', g', s1, h1, p1⟩ := mth_core (kk := fun _ _ ρ g => .nx ρ g) om hk nl s p fun d' rs v H' g1 f1 l s1 rv p1 => p1 σ H' f1 (Le.refl _) (s1.weak hw)
    exact ⟨v, e1, t, p1 [] H f' (Ex.refl _ _) h1 .nil⟩
/-- y = x.m(e, ..) -/
theorem sx_mthS (G : Gd X E sc N k df) (i j : Nat) {y : Str} {ypos : Pos} {rel : Hp → Fz → D → V → Prop} {a : M (List D)} (mt : Mt X T name id r) (om : OpM (wd X) T rel r kM) (ha : PA X (e :: es) (tG (fun H f ds vs => Paired (rel H f) ds vs) (wd X) E W a)) (hN : N[i]? = some x := by rfl) (hv : visB sc x = true := by rfl) (hk : W[i]? = some .ow := by rfl)
    (hM : N[j]? = some y := by rfl) (hl : locB df sc y = true := by rfl) (hj : j < W.length := by decide) (hw : Wle Wn (W.set j .sh) = true := by rfl) (nl : W.all (fun q => decide (q ≠ .lk)) = true := by rfl)
    (hbase : attributeBase (.Name x npos) name X.env (eval (.Name x npos) X.env) = eval (.Name x npos) X.env := by rfl)
    (hfew : ((backTo cpos (starEach (e :: es) X.env)).all (fun x => !x.1) && (backToKw cpos (keywordEach [] X.env)).all (fun x => x.1.isSome) && decide ((e :: es).length + ([] : List Keyword).length + (if ([] : List Keyword).isEmpty then 0 else 1) < 30)) = true := by rfl)
    (hline : (apos.endLine == cpos.line) = true := by rfl) (hs : starEach (e :: es) X.env = (false, eval e X.env) :: starEach es X.env := by rfl) (hplain : (backTo cpos (starEach es X.env)).any (·.1) = false := by rfl)
    (hsw : swapsWith (.Call (.Attribute (.Name x npos) name apos) (e :: es) [] cpos) (some (.Name y ypos)) pos.line X.env = pure false := by rfl) :
    SX X E WL W (.Assign [.Name y ypos] (.Call (.Attribute (.Name x npos) name apos) (e :: es) [] cpos) pos) Wn (mMthS T i j a kM) :=
  PS.imp (ps_set G.nd (by rw [G.N_]; exact hM) (G.loc hl).1 (pe_bm mt.pa mt.slot mt.hty mt.hm (G.name i hN hv) ha hbase hfew hline hs hplain) hsw (G.loc hl).2) fun ND σ H q => by
    obtain ⟨B, f, ρ, g, s, p⟩ := q
    refine mth_core (kk := fun _ rs ρ g => .nx (ρ.set j rs) g) (WL := WL) (Wn := Wn) om hk nl s p fun d' rs v H' g1 f1 l s1 rv p1 => p1 _ H' f1 (Le.refl _) ((s1.set_sh ?_ rv).weak hw)
    have := s1.sr.lenW; omega
theorem sx_mthS0 (G : Gd X E sc N k df) (i j : Nat) {y : Str} {ypos : Pos} {rel : Hp → Fz → D → V → Prop} (mt : Mt X T name id r) (om : OpM (wd X) T rel r kM) (hN : N[i]? = some x := by rfl) (hv : visB sc x = true := by rfl) (hk : W[i]? = some .ow := by rfl)
    (hM : N[j]? = some y := by rfl) (hl : locB df sc y = true := by rfl) (hj : j < W.length := by decide) (hw : Wle Wn (W.set j .sh) = true := by rfl) (nl : W.all (fun q => decide (q ≠ .lk)) = true := by rfl)
    (hbase : attributeBase (.Name x npos) name X.env (eval (.Name x npos) X.env) = eval (.Name x npos) X.env := by rfl) (hline : (apos.endLine == cpos.line) = true := by rfl)
    (hsw : swapsWith (.Call (.Attribute (.Name x npos) name apos) [] [] cpos) (some (.Name y ypos)) pos.line X.env = pure false := by rfl) :
    SX X E WL W (.Assign [.Name y ypos] (.Call (.Attribute (.Name x npos) name apos) [] [] cpos) pos) Wn (mMthS T i j mNil kM) :=
  PS.imp (ps_set G.nd (by rw [G.N_]; exact hM) (G.loc hl).1 (pe_bm0 mt.pa mt.slot mt.hty mt.hm (G.name i hN hv) hbase hline) hsw (G.loc hl).2) fun ND σ H q => by
    obtain ⟨B, f, ρ, g, s, p⟩ := q
    obtain ⟨v, e1, t, f', ρ', g', s1, h1, p1⟩ := mth_core (N := ND) (kk := fun _ rs ρ g => .nx (ρ.set j rs) g) (WL := WL) (Wn := Wn) (a := mNil) (E := E) om hk nl s p fun d' rs v H' g1 f1 l s1 rv p1 => p1 _ H' f1 (Le.refl _) ((s1.set_sh (by have := s1.sr.lenW; omega) rv).weak hw)
    exact ⟨v, e1, t, p1 [] H f' (Ex.refl _ _) h1 .nil⟩
end
end TL
end

section
set_option Elab.async false
set_option linter.all false
set_option autoImplicit false
set_option maxRecDepth 100000
/-! TL, part p: hot receivers, items that are set, deleted; dict.get, list.index, list(d.items()) -/
namespace TL
open PySem PySem.Spec PyProof.Rows L2
variable [TabL]

section
variable {X : Cx} {E : XK} {sc : Scope} {N : List Str} {k : Nat} {df : Bool} {WL W Wn : List Kd} {pos apos cpos npos spos : Pos} {T id : String} {name x : Str} {es : List Expr} {e o : Expr}
variable {r : V → List V → Hp → VK → Prop} {kM : D → List D → List D → Option (D × D)}
/-- a hot container is changed by a method -/
def mHm (T : String) (m : M D) (a : M (List D)) (kM : D → List D → List D → Option (D × D)) : M D := fun ρ g => (m ρ g).bind fun d g1 => match d with
  | .hot i => if tyB T (g1.getD i .non) = true then (a ρ g1).bind fun ds g2 => (match kM (g2.getD i .non) ds g2 with | some (d', rs) => .ok rs (g2.set i d') | none => .no) else .no
  | _ => .no
theorem hot_there {g : List D} {i : Nat} {T : String} (h : tyB T (g.getD i .non) = true) : ∃ x, g[i]? = some x ∧ g.getD i .non = x ∧ x ≠ dead := by
  rw [List.getD_eq_getElem?_getD] at h ⊢
  cases q : g[i]? with
  | none => rw [q] at h; cases h
  | some x =>
    rw [q] at h
    refine ⟨x, rfl, rfl, fun z => ?_⟩
    subst z; cases h
theorem hm_core {rel : Hp → Fz → D → V → Prop} {m : M D} {a : M (List D)} {σ : L2.St} {H : Hp} {Q : VK} (om : OpM (wd X) T rel r kM) (q : tE (wd X) E W (mHm T m a kM) σ H Q) :
    (tE (wd X) E W m) σ H fun x H1 => tyV X.K T x H1 ∧ (tG (fun H f ds vs => Paired (rel H f) ds vs) (wd X) E W a) σ H1 fun vs H2 => r x vs H2 Q := by
  refine tG.bind (rel := relD (wd X)) (k := fun d ρ g1 => match d with
    | .hot i => if tyB T (g1.getD i .non) = true then (a ρ g1).bind fun ds g2 => (match kM (g2.getD i .non) ds g2 with | some (d', rs) => .ok rs (g2.set i d') | none => .no) else .no
    | _ => .no) q fun d v H1 f1 ρ g1 s1 hs1 (r1 : Rp _ _ _ _) p1 => ?_
  cases d <;> dsimp only at p1 <;> try exact p1.elim
  rename_i i
  split at p1
  · rename_i ht
    obtain ⟨x1, hx, hd, nd⟩ := hot_there ht
    obtain ⟨ad, o1, rfl, e1, hF, hH, ro, nz⟩ := hot_at hs1 r1 hx nd
    refine ⟨ty_ow (Z := wd X) hH ro nz (by rw [← hd]; exact ht), f1, ρ, g1, s1, hs1, post.bind p1 fun ds g2 vs H2 f2 _ e2 hs2 rv p2 => ?_⟩
    cases hm : kM (g2.getD i .non) ds g2 with
    | none => rw [hm] at p2; exact p2.elim
    | some z =>
      obtain ⟨d', rs⟩ := z
      rw [hm] at p2
      have r2 := Rp.mono e2.le r1
      -- what stands there now
      have hlt : i < g2.length := by
        rw [← hs2.len]
        exact (List.getElem?_eq_some_iff.mp (e2.le.e _ _ e1)).1
      cases h2 : g2[i]? with
      | none => rw [List.getElem?_eq_none_iff] at h2; omega
      | some x2 =>
        have hg2 : g2.getD i .non = x2 := by rw [List.getD_eq_getElem?_getD, h2]; rfl
        rw [hg2] at hm
        by_cases nd2 : x2 = dead
        · have := om.ty _ _ _ _ hm
          subst nd2; cases this
        · obtain ⟨ad', o2, ea, e3, hF2, hH2, ro2, nz2⟩ := hot_at hs2 r2 h2 nd2
          cases ea
          refine om.run ad o2 x2 vs ds H2 f2 g2 Q d' rs hH2 ro2 nz2 hF2 rv hs2 hm fun o' w ro' nz' rw' => ?_
          obtain ⟨k1, k2⟩ := hs2.mut e3 hF2 hlt (fun u e => by rw [hH2] at e; cases e; exact rpO_ct ro2) ro' nz'
          exact p2 w _ f2 k2 k1 rw'
  · exact p1.elim
theorem px_hm {rel : Hp → Fz → D → V → Prop} {m : M D} {a : M (List D)} (mt : Mt X T name id r) (om : OpM (wd X) T rel r kM) (ho : PX X E W o m) (ha : PA X (e :: es) (tG (fun H f ds vs => Paired (rel H f) ds vs) (wd X) E W a))
    (hbase : attributeBase o name X.env (eval o X.env) = eval o X.env := by rfl)
    (hfew : ((backTo cpos (starEach (e :: es) X.env)).all (fun x => !x.1) && (backToKw cpos (keywordEach [] X.env)).all (fun x => x.1.isSome) && decide ((e :: es).length + ([] : List Keyword).length + (if ([] : List Keyword).isEmpty then 0 else 1) < 30)) = true := by rfl)
    (hline : (apos.endLine == cpos.line) = true := by rfl) (hs : starEach (e :: es) X.env = (false, eval e X.env) :: starEach es X.env := by rfl) (hplain : (backTo cpos (starEach es X.env)).any (·.1) = false := by rfl) :
    PX X E W (.Call (.Attribute o name apos) (e :: es) [] cpos) (mHm T m a kM) :=
  PE.imp (pe_bm mt.pa mt.slot mt.hty mt.hm ho ha hbase hfew hline hs hplain) fun σ H Q q => hm_core om q
theorem px_hm0 {rel : Hp → Fz → D → V → Prop} {m : M D} (mt : Mt X T name id r) (om : OpM (wd X) T rel r kM) (ho : PX X E W o m)
    (hbase : attributeBase o name X.env (eval o X.env) = eval o X.env := by rfl) (hline : (apos.endLine == cpos.line) = true := by rfl) :
    PX X E W (.Call (.Attribute o name apos) [] [] cpos) (mHm T m mNil kM) :=
  PE.imp (pe_bm0 mt.pa mt.slot mt.hty mt.hm ho hbase hline) fun σ H Q q => by
    obtain ⟨f, ρ, g, s, hs, p⟩ := hm_core om q
    refine ⟨f, ρ, g, s, hs, post.imp p fun v H' h => ⟨h.1, ?_⟩⟩
    obtain ⟨f', ρ', g', s', hs', p'⟩ := h.2
    exact p' [] H' f' (Ex.refl _ _) hs' .nil

/-! ### items that are set -/
def putC : D → D → D → Option D
  | .lst xs, .int k, d => (ixN xs.length k).map fun j => .lst (xs.set j d)
  | .dct kvs, q, d => (keyD q).bind fun kk => if kvs.length < 16777216 then some (.dct (putD kvs kk d)) else none
  | _, _, _ => none
def rSetA : V → V → V → Hp → (Hp → Prop) → Prop := fun o i v H Q => rSetL o i v H Q ∨ ∃ a H', o = .ref a ∧ DPut H a i v H' ∧ Q H'
theorem set_A (hu : X.A.units + 1 < cLine) : PSet X rSetA := by
  intro pins s σ H o i v ov iv u Q I ro ri rv h
  rcases h with h | ⟨a, H', rfl, g, q⟩
  · exact set_list pins s σ H o i v ov iv u Q I ro ri rv h
  · obtain rfl : ov = Value.ref a := ro
    exact d_setItem hu I g ri rv fun s' I' => ⟨H', I', q⟩
theorem put_run {Z : Wd} {H : Hp} {f : Fz} {g : List D} {a : Addr} {u : HO} {c q d c' : D} {iv v : V} {Q : Hp → Prop} (hs : Hs Z H f g) (hH : H a = some u) (ro : RpO Z f u c) (nz : isFz u = false) (ri : Rv Z H f q iv) (rv : Rp Z f d v)
    (h : putC c (vw g q) d = some c') (hq : ∀ u', RpO Z f u' c' → isFz u' = false → Q (upd H a u')) : rSetA (.ref a) iv v H Q := by
  unfold putC at h
  split at h
  · rename_i xs _ kk hv
    simp only [Option.map_eq_some_iff] at h
    obtain ⟨j, e1, rfl⟩ := h
    cases u <;> simp only [RpO] at ro
    exact .inl ⟨a, _, kk, j, rfl, see_int hs ri hv, hH, by rw [← PySem.Paired.length ro]; exact e1, hq (.lst _) (pd_set rv j ro) rfl⟩
  · rename_i kvs q0 d0
    simp only [Option.bind_eq_some_iff] at h
    obtain ⟨kk, e1, e2⟩ := h
    split at e2
    · rename_i hl
      cases e2
      cases u with
      | dK ws =>
        simp only [RpO] at ro
        refine .inr ⟨a, _, rfl, .inl ⟨ws, kk, hH, rv_keyD hs ri e1, by rw [sl_eq, ← PySem.Paired.length ro]; exact hl, rfl⟩, hq (.dK _) (put_pd rv ro) rfl⟩
      | frz od u => cases nz
      | _ => simp only [RpO] at ro
    · cases e2
  · cases h
/-- x[k] = v, x a container of one's own -/
def mPut (i : Nat) (mk mv : M D) : MS := fun ρ g => (mv ρ g).st fun d g1 => (mk ρ g1).st fun q g2 => match putC (ρ.getD i .non) (vw g2 q) d with
  | some c => .nx (ρ.set i c) g2
  | none => .no
theorem sx_put (G : Gd X E sc N k df) (i : Nat) {ke ve : Expr} {mk mv : M D} {xpos : Pos} {tpos : Pos} (hv : PX X E W ve mv) (hkk : VX X E W ke mk) (hN : N[i]? = some x := by rfl) (hvi : visB sc x = true := by rfl) (hk : W[i]? = some .ow := by rfl)
    (hw : Wle Wn W = true := by rfl) (nl : W.all (fun q => decide (q ≠ .lk)) = true := by rfl)
    (ha : ∀ v, assign (.Subscript (.Name x xpos) ke tpos) X.env v = (do
      let ov ← holding [v] (eval (.Name x xpos) X.env)
      let iv ← holding [v, ov] (eval ke X.env)
      standAt tpos
      holding [v, ov, iv] (setItem ov iv v)
      release [v, ov, iv] []) := by intro _; rfl)
    (hs : swapsWithSole [.Subscript (.Name x xpos) ke tpos] ve pos.line X.env = pure false := by rfl) (hsw : swappedStores [.Subscript (.Name x xpos) ke tpos] ve X.env = pure none := by rfl)
    (h1 : (assignEach [.Subscript (.Name x xpos) ke tpos] X.env).map (·.2) = [assign (.Subscript (.Name x xpos) ke tpos) X.env] := by rfl) :
    SX X E WL W (.Assign [.Subscript (.Name x xpos) ke tpos] ve pos) Wn (mPut i mk mv) := PS.imp (ps_asg hv (pg_sub (G.name i hN hvi) hkk (set_A (by have := G.u64; omega)) ha) hs hsw h1) fun ND σ H q => by
  obtain ⟨B, f, ρ, g, s, p⟩ := q
  refine ⟨f, ρ, g, s.sr, s.hs, postS.bind s p fun d g1 v H1 f1 l1 s1 rv p1 => ?_⟩
  obtain ⟨ad, o0, e1, _⟩ := s1.sr.slot i .ow hk
  refine ⟨_, e1, f1, ρ, g1, s1.sr, s1.hs, postS.bind s1 p1 fun q g2 iv H2 f2 l2 s2 ri p2 => ?_⟩
  obtain ⟨ad', o2, e2, hF, hn, hH, ro, nz⟩ := s2.sr.slot i .ow hk
  rw [e1] at e2; cases e2
  cases hc : putC (ρ.getD i .non) (vw g2 q) d with
  | none => rw [hc] at p2; exact p2.elim
  | some c =>
    rw [hc] at p2
    refine put_run (Z := wd X) s2.hs hH ro nz ri (Rp.mono l2 rv) hc fun u' ro' nz' => ?_
    exact p2 σ _ f2 (Le.refl _) ((s2.mut hk e1 ro' nz' nl).weak hw)
/-- o[k] = v, o a hot container -/
def mPutH (mr mk mv : M D) : MS := fun ρ g => (mv ρ g).st fun d g1 => (mr ρ g1).st fun r g2 => (mk ρ g2).st fun q g3 => match r with
  | .hot i => (match putC (g3.getD i .non) (vw g3 q) d with
    | some c => .nx ρ (g3.set i c)
    | none => .no)
  | _ => .no
theorem sx_putH (G : Gd X E sc N k df) {oe ke ve : Expr} {mr mk mv : M D} {tpos : Pos} (hv : PX X E W ve mv) (ho : PX X E W oe mr) (hkk : VX X E W ke mk) (hw : Wle Wn W = true := by rfl)
    (ha : ∀ v, assign (.Subscript oe ke tpos) X.env v = (do
      let ov ← holding [v] (eval oe X.env)
      let iv ← holding [v, ov] (eval ke X.env)
      standAt tpos
      holding [v, ov, iv] (setItem ov iv v)
      release [v, ov, iv] []) := by intro _; rfl)
    (hs : swapsWithSole [.Subscript oe ke tpos] ve pos.line X.env = pure false := by rfl) (hsw : swappedStores [.Subscript oe ke tpos] ve X.env = pure none := by rfl)
    (h1 : (assignEach [.Subscript oe ke tpos] X.env).map (·.2) = [assign (.Subscript oe ke tpos) X.env] := by rfl) :
    SX X E WL W (.Assign [.Subscript oe ke tpos] ve pos) Wn (mPutH mr mk mv) := PS.imp (ps_asg hv (pg_sub ho hkk (set_A (by have := G.u64; omega)) ha) hs hsw h1) fun ND σ H q => by
  obtain ⟨B, f, ρ, g, s, p⟩ := q
  refine ⟨f, ρ, g, s.sr, s.hs, postS.bind s p fun d g1 v H1 f1 l1 s1 rv p1 => ?_⟩
  refine ⟨f1, ρ, g1, s1.sr, s1.hs, postS.bind s1 p1 fun r g2 rvv H2 f2 l2 s2 rr p2 => ?_⟩
  refine ⟨f2, ρ, g2, s2.sr, s2.hs, postS.bind s2 p2 fun q g3 iv H3 f3 l3 s3 ri p3 => ?_⟩
  cases r <;> dsimp only at p3 <;> try exact p3.elim
  rename_i i
  have r3 := Rp.mono l3 rr
  cases hc : putC (g3.getD i .non) (vw g3 q) d with
  | none => rw [hc] at p3; exact p3.elim
  | some c =>
    rw [hc] at p3
    cases hx : g3[i]? with
    | none =>
      have : g3.getD i .non = .non := by rw [List.getD_eq_getElem?_getD, hx]; rfl
      rw [this] at hc; simp [putC] at hc
    | some x =>
      have hg : g3.getD i .non = x := by rw [List.getD_eq_getElem?_getD, hx]; rfl
      rw [hg] at hc
      have nd : x ≠ dead := fun z => by subst z; simp [putC, dead] at hc
      obtain ⟨ad, u, rfl, e1, hF, hH, ro, nz⟩ := hot_at s3.hs r3 hx nd
      refine put_run (Z := wd X) s3.hs hH ro nz ri (Rp.mono (l2.trans l3) rv) hc fun u' ro' nz' => ?_
      obtain ⟨k1, k2⟩ := s3.hs.mut e1 hF (List.getElem?_eq_some_iff.mp hx).1 (fun w e => by rw [hH] at e; cases e; exact rpO_ct ro) ro' nz'
      exact p3 σ _ f3 (Le.refl _) ((s3.ext k2 k1).weak hw)

/-! ### del x[k] -/
def dropD (kvs : List (Key × D)) (q : Key) : List (Key × D) := kvs.filter fun p => decide (p.1 ≠ q)
theorem drop_pd {Z : Wd} {f : Fz} (q : Key) : ∀ {kvs : List (Key × D)} {ws : List (Key × V)}, Paired (PK Z f) kvs ws → Paired (PK Z f) (dropD kvs q) (dropK ws q)
  | _, _, .nil => .nil
  | _, _, .cons (a := a) (b := b) r t => by
    have ih := drop_pd q t
    unfold dropD dropK at ih ⊢
    simp only [List.filter_cons]
    rw [r.1]
    split
    · exact .cons ⟨r.1, r.2⟩ ih
    · exact ih
def mDel (i : Nat) (mk : M D) : MS := fun ρ g => (mk ρ g).st fun q g1 => match ρ.getD i .non, keyD (vw g1 q) with
  | .dct kvs, some kk => (match lookK kvs kk with | some _ => .nx (ρ.set i (.dct (dropD kvs kk))) g1 | none => .no)
  | _, _ => .no
theorem sx_del (G : Gd X E sc N k df) (i : Nat) {ke : Expr} {mk : M D} {xpos tpos : Pos} (hkk : VX X E W ke mk) (hN : N[i]? = some x := by rfl) (hvi : visB sc x = true := by rfl) (hk : W[i]? = some .ow := by rfl)
    (hw : Wle Wn W = true := by rfl) (nl : W.all (fun q => decide (q ≠ .lk)) = true := by rfl) : SX X E WL W (.Delete [.Subscript (.Name x xpos) ke tpos] pos) Wn (mDel i mk) := PS.imp (ps_ddel (G.name i hN hvi) hkk) fun ND σ H q => by
  obtain ⟨B, f, ρ, g, s, p⟩ := q
  obtain ⟨ad, o0, e1, _⟩ := s.sr.slot i .ow hk
  refine ⟨_, e1, f, ρ, g, s.sr, s.hs, postS.bind s p fun q g1 iv H1 f1 l1 s1 ri p1 => ?_⟩
  obtain ⟨ad', o2, e2, hF, hn, hH, ro, nz⟩ := s1.sr.slot i .ow hk
  rw [e1] at e2; cases e2
  split at p1
  · rename_i kvs kk hd hq
    split at p1
    · rename_i c hc
      rw [hd] at ro
      cases o2 with
      | dK ws =>
        simp only [RpO] at ro
        obtain ⟨v, hv, _⟩ := (lookK_some (k := kk) ro).1 c hc
        refine ⟨ad, ws, kk, rfl, hH, rv_keyD s1.hs ri hq, by rw [hv]; rfl, ?_⟩
        exact p1 σ _ f1 (Le.refl _) ((s1.mut (o := .dK _) (d := .dct _) hk e1 (drop_pd kk ro) rfl nl).weak hw)
      | frz od u => cases nz
      | _ => simp only [RpO] at ro
    · exact p1.elim
  · exact p1.elim

/-! ### dict.get -/
def kGet (d q z : D) (g : List D) : R D := match vw g d, keyD (vw g q) with
  | .dct kvs, some kk => .ok ((lookK kvs kk).getD z) g
  | _, _ => .no
def mGet2 (m mk mz : M D) : M D := fun ρ g => (m ρ g).bind fun d g1 => (match vw g1 d with | .dct _ => (mk ρ g1).bind fun q g2 => (mz ρ g2).bind fun z g3 => kGet d q z g3 | _ => .no)
theorem px_get2 (G : Gd X E sc N k df) {oe ke ze : Expr} {m mk mz : M D} (ho : VX X E W oe m) (hk : VX X E W ke mk) (hz : PX X E W ze mz)
    (h1 : attributeBase oe "get" X.env (eval oe X.env) = eval oe X.env := by rfl)
    (h2 : ((backTo cpos (starEach [ke, ze] X.env)).all (fun x => !x.1) && (backToKw cpos (keywordEach [] X.env)).all (fun x => x.1.isSome) && decide (([ke, ze] : List Expr).length + ([] : List Keyword).length + (if ([] : List Keyword).isEmpty then 0 else 1) < 30)) = true := by rfl)
    (h3 : (apos.endLine == cpos.line) = true := by rfl) (h4 : backTo cpos (starEach [ke, ze] X.env) = [(false, eval ke X.env), (false, eval ze X.env)] := by rfl) :
    PX X E W (.Call (.Attribute oe "get" apos) [ke, ze] [] cpos) (mGet2 m mk mz) := PE.imp (pe_dget2 (by have := G.u64; omega) ho hk hz ⟨h1, h2, h3, h4⟩) fun σ H Q q => by
  refine tG.bind (rel := relV (wd X)) (k := fun d ρ g1 => (match vw g1 d with | .dct _ => (mk ρ g1).bind fun q g2 => (mz ρ g2).bind fun z g3 => kGet d q z g3 | _ => .no)) q fun d v H1 f1 ρ g1 s1 hs1 (r1 : Rv _ _ _ _ _) p1 => ?_
  split at p1
  · rename_i kvs0 hd0
    obtain ⟨a, ws0, rfl, hr0, _⟩ := see_dct hs1 r1 hd0
    refine ⟨a, rfl, .inl ⟨_, hr0⟩, f1, ρ, g1, s1, hs1, post.bind p1 fun q g2 y H2 f2 _ e2 hs2 r2 p2 => ?_⟩
    refine ⟨f2, ρ, g2, s1.ext e2, hs2, post.bind p2 fun z g3 zv H3 f3 _ e3 hs3 r3 p3 => ?_⟩
    have rr := (Rv.ext r1 e2).ext e3
    have rq : Rv (wd X) H3 f3 q y := Rv.ext r2 e3
    unfold kGet at p3
    split at p3
    · rename_i kvs kk hd hq
      obtain ⟨a', ws, ea, hr, pp⟩ := see_dct hs3 rr hd
      cases ea
      obtain ⟨l1, l2⟩ := lookK_some (k := kk) pp
      refine ⟨valV ws kk, .inl ⟨ws, kk, hr, rv_keyD hs3 rq hq, rfl⟩, ?_⟩
      cases hl : lookK kvs kk with
      | none => rw [hl] at p3; rw [l2 hl]; exact post_now p3 hs3 r3
      | some c =>
        rw [hl] at p3
        obtain ⟨w, hw, rw'⟩ := l1 c hl
        rw [hw]; exact post_now p3 hs3 rw'
    · exact p3.elim
  · exact p1.elim

/-! ### list.index -/
def firstAt : List PyData → PyData → Nat → Option Nat
  | [], _, _ => none
  | p :: ps, d, j => if PyData.eqv p d = true then some j else firstAt ps d (j + 1)
def kIndex (ds : List D) (c : D) (g : List D) : R D := match ds with
  | [d] => (match vw g c with
    | .lst xs => (match toPs xs, toP (vw g d) with
      | some ps, some p => if SeqAt.shaped (.list ps) = true ∧ SeqAt.shaped p = true then (match firstAt ps p 0 with | some j => .ok (.int (j : Nat)) g | none => .no) else .no
      | _, _ => .no)
    | _ => .no)
  | _ => .no
theorem firstAt_some {d : PyData} : ∀ {ps : List PyData} {j0 j : Nat}, firstAt ps d j0 = some j → j0 ≤ j ∧ ∃ z, ps[j - j0]? = some z ∧ PyData.eqv z d = true ∧ ∀ (m : Nat) (z' : PyData), m < j - j0 → ps[m]? = some z' → PyData.eqv z' d = false
  | [], j0, j, h => by cases h
  | p :: ps, j0, j, h => by
    unfold firstAt at h
    split at h
    · rename_i e
      cases h
      refine ⟨Nat.le_refl _, p, by simp, e, fun m z' hm _ => by omega⟩
    · rename_i e
      obtain ⟨h1, z, h2, h3, h4⟩ := firstAt_some h
      refine ⟨by omega, z, ?_, h3, fun m z' hm hz => ?_⟩
      · have : j - j0 = (j - (j0 + 1)) + 1 := by omega
        rw [this]; simpa using h2
      · cases m with
        | zero => simp at hz; subst hz; simpa using e
        | succ m => exact h4 m z' (by omega) (by simpa using hz)
def mIndex (m : M D) (a : M (List D)) : M D := fun ρ g => (m ρ g).bind fun c g1 => (match vw g1 c with | .lst _ => (a ρ g1).bind fun ds g2 => kIndex ds c g2 | _ => .no)
theorem px_index (G : Gd X E sc N k df) {m : M D} {a : M (List D)} (ho : VX X E W o m) (ha : AV X E W [e] a)
    (hbase : attributeBase o "index" X.env (eval o X.env) = eval o X.env := by rfl)
    (hfew : ((backTo cpos (starEach [e] X.env)).all (fun x => !x.1) && (backToKw cpos (keywordEach [] X.env)).all (fun x => x.1.isSome) && decide (([e] : List Expr).length + ([] : List Keyword).length + (if ([] : List Keyword).isEmpty then 0 else 1) < 30)) = true := by rfl)
    (hline : (apos.endLine == cpos.line) = true := by rfl) (hs : starEach [e] X.env = (false, eval e X.env) :: starEach [] X.env := by rfl) :
    PX X E W (.Call (.Attribute o "index" apos) [e] [] cpos) (mIndex m a) := PE.imp (pe_bm F.plainAttrs_list F.slot_list_index F.type_list_index (mt_indexD G.u64) ho ha hbase hfew hline hs rfl) fun σ H Q q => by
  refine tG.bind (rel := relV (wd X)) (k := fun c ρ g1 => (match vw g1 c with | .lst _ => (a ρ g1).bind fun ds g2 => kIndex ds c g2 | _ => .no)) q fun c v H1 f1 ρ g1 s1 hs1 (r1 : Rv _ _ _ _ _) p1 => ?_
  split at p1
  · rename_i xs0 hc0
    obtain ⟨ad, ws0, rfl, hq0, _⟩ := see_lst hs1 r1 hc0
    refine ⟨.inl ⟨rfl, _, .of hq0⟩, f1, ρ, g1, s1, hs1, post.bind p1 fun ds g2 vs H2 f2 _ e2 hs2 r2 p2 => ?_⟩
    have rr := Rv.ext r1 e2
    unfold kIndex at p2
    split at p2
    · cases r2 with
      | cons r2 rn =>
        cases rn
        split at p2
        · rename_i xs hx
          split at p2
          · rename_i ps p hps hp
            split at p2
            · rename_i hsh
              split at p2
              · rename_i j hj
                obtain ⟨_, z, z1, z2, z3⟩ := firstAt_some hj
                have dl : Dp X.K H2 (.ref ad) (.list ps) := dp_vw (Z := wd X) hs2 rr (by rw [hx]; simp only [toP, hps, Option.map_some])
                exact ⟨ad, _, p, ps, j, z, rfl, rfl, dl, dp_vw (Z := wd X) hs2 r2 hp, hsh.1, hsh.2, by simpa using z1, z2, by simpa using z3, post_now p2 hs2 (by simp only [Rp])⟩
              · exact p2.elim
            · exact p2.elim
          · exact p2.elim
        · exact p2.elim
    · exact p2.elim
  · exact p1.elim
end
end TL
end

section
set_option Elab.async false
set_option linter.all false
set_option autoImplicit false
set_option maxRecDepth 100000
/-! TL, part q: dict comprehensions, comprehensions of two generators -/
namespace TL
open PySem PySem.Spec PyProof.Rows L2
variable [TabL]

theorem R.ok_bind {α β : Type} (x : α) (g : List D) (k : α → List D → R β) : (R.ok x g).bind k = k x g := rfl
theorem R.nox_ok {α : Type} (x : α) (g : List D) : (R.ok x g).nox = R.ok x g := rfl
/-! ### dict comprehensions -/
def compD (k : KT) (c : M Bool) (ek ev : M D) : List D → List D → List (Key × D) → List D → R (List (Key × D))
  | [], _, acc, g => .ok acc g
  | d :: ds, ρ, acc, g => match k d ρ g with
    | none => .no
    | some ρ1 => (c ρ1 g).nox.bind fun t g1 => if t = true then
        (ek ρ1 g1).nox.bind fun q g2 => (ev ρ1 g2).nox.bind fun y g3 => match keyD q with
          | some kk => if acc.length < 16777216 then compD k c ek ev ds ρ (putD acc kk y) g3 else .no
          | none => .no
      else compD k c ek ev ds ρ acc g1
def mCompD (mi : M (List D)) (k : KT) (c : M Bool) (ek ev : M D) : M D := fun ρ g => (mi ρ g).bind fun ds g' => (compD k c ek ev ds ρ [] g').bind fun kvs g2 => .ok (.dct kvs) g2
def dcWish (Z : Wd) (E : XK) (H0 : Hp) (f0 : Fz) (k : KT) (c : M Bool) (ek ev : M D) (Dd : Addr) (Q : VK) (ds : List D) (ρ : List D) (acc : List (Key × D)) (H : Hp) (f : Fz) (g : List D) : Prop :=
  Ex H0 f0 H f ∧ Hs Z H f g ∧ f.F Dd = none ∧ Dd ∉ f.e ∧ (∃ vs, H Dd = some (.dK vs) ∧ Paired (PK Z f) acc vs) ∧ postF Z E H0 f0 ((compD k c ek ev ds ρ acc g).bind fun kvs g2 => .ok (.dct kvs) g2) Q
theorem hown_of {Z : Wd} {W : List Kd} {σ : L2.St} {ρ : List D} {H : Hp} {f : Fz} {Dd : Addr} (s1 : Sr Z W σ ρ H f) (hD : H Dd = none) : ∀ (i : Nat) (b : Addr), (W[i]? = some .ow ∨ W[i]? = some .lk) → σ[i]? = some (some (.ref b)) → b ≠ Dd := fun i b h1 h2 => by
  rcases h1 with h1 | h1
  · obtain ⟨b', o', e1, _, _, h, _⟩ := s1.slot i .ow h1
    rw [h2] at e1; cases e1
    exact ne_of_none h hD
  · obtain ⟨b', o', e1, _, _, h, _⟩ := s1.slot i .lk h1
    rw [h2] at e1; cases e1
    exact ne_of_none h hD
theorem ex_none {H H1 : Hp} {f f1 : Fz} {g : List D} {Z : Wd} {Dd : Addr} (ex1 : Ex H f H1 f1) (hs1 : Hs Z H1 f1 g) (hD : H1 Dd = none) : New H Dd := new_back ex1 (New.of hD) (hs1.free hD).2
theorem dc_run {Z : Wd} {E : XK} {W Wt : List Kd} {T vs : List Nat} {k : KT} {c : M Bool} {ek ev : M D} {wi : TI} {g0 : TG} {tt : TT} {tk tv : TE} {mi : M (List D)} {σ : L2.St} {H : Hp} {Q : VK} (hT : ∀ i ∈ T, i ∈ vs)
    (hi : ∀ σ H R, tIp Z E W mi σ H R → wi σ H R) (hg : ∀ v σ H Q, tGt Z (Wwipe W vs) Wt T k v σ H Q → g0 v σ H Q) (ht : ∀ σ H Q, tT Z EN Wt c σ H Q → tt σ H Q) (hk : ∀ σ H Q, tE Z EN Wt ek σ H Q → tk σ H Q) (he : ∀ σ H Q, tE Z EN Wt ev σ H Q → tv σ H Q)
    (q : tF Z E W (mCompD mi k c ek ev) σ H Q) : tDc wi g0 tt tk tv vs σ H Q := by
  obtain ⟨f, ρ, g, s, hs, p⟩ := q
  refine hi _ _ _ ⟨f, ρ, g, s, hs, ?_⟩
  have p0 : postF Z E H f ((mi ρ g).bind fun ds g' => (compD k c ek ev ds ρ [] g').bind fun kvs g2 => .ok (.dct kvs) g2) Q := p
  cases hr : mi ρ g with
  | ex x g' => rw [hr] at p0; exact p0
  | no => rw [hr] at p0; exact p0
  | ok ds g1 =>
    rw [hr] at p0
    have p1 : postF Z E H f ((compD k c ek ev ds ρ [] g1).bind fun kvs g2 => .ok (.dct kvs) g2) Q := p0
    intro J H1 f1 ex1 hs1 it Dd hD
    have s1 := s.ext ex1
    have n1 := hs1.free hD
    have hD0 : New H Dd := ex_none ex1 hs1 hD
    have hown := hown_of s1 hD
    refine ⟨fun i m H' => i + m = ds.length ∧ ∃ f' g' acc, Le f1 f' ∧ Sr Z W σ ρ H' f' ∧ dcWish Z E H f k c ek ev Dd Q (ds.drop i) ρ acc H' f' g',
      ⟨ds.length, by omega, f1, g1, [], Le.refl _, s1.ext (Ex.laid hs1 hD), ex1.trans (Ex.laid hs1 hD), hs1.laid hD, n1.1, n1.2, ⟨[], upd_same, .nil⟩, by simpa using p1⟩, ?_⟩
    rintro i m H2 ⟨hm, f2, g2, acc, l2, s2, ex2, hs2, nF, nh, ⟨vs2, hDl, hacc⟩, p2⟩
    have hit := it H2 f2 g2 l2 ex2 hs2 i
    by_cases hlt : i < ds.length
    · obtain ⟨hgo, hyl⟩ := hit.1 hlt
      refine .inr ⟨hgo, fun H' => ∃ m', m' < m ∧ i + 1 + m' = ds.length ∧ ∃ f' g' acc, Le f1 f' ∧ Sr Z W σ ρ H' f' ∧ dcWish Z E H f k c ek ev Dd Q (ds.drop (i + 1)) ρ acc H' f' g', fun H' ⟨m', a1, a2, r⟩ => ⟨m', a1, a2, r⟩, fun x H3 hx => ?_⟩
      obtain ⟨f3, ex3, hs3, rx⟩ := hyl x H3 hx
      have hd : ds.getD i .non = ds[i] := by simp [List.getD_eq_getElem?_getD, hlt]
      rw [hd] at rx
      rw [List.drop_eq_getElem_cons hlt] at p2
      simp only [compD] at p2
      have s3 := s2.ext ex3
      have kD3 := ex3.keep Dd _ hDl (ctB_nt rfl) nh
      cases hkk : k ds[i] ρ g2 with
      | none => rw [hkk] at p2; exact p2.elim
      | some ρ1 =>
        rw [hkk] at p2
        dsimp only at p2
        refine hg _ _ _ _ ⟨B0, f3, ρ, g2, _, ρ1, ss0 (wipe_sr s3 vs) hs3, rx, hkk, fun σ4 H4 f4 fx4 ex4 s4 => ⟨(wipe_fix fx4 hT).trans (wipe_wipe σ vs), ?_⟩⟩
        have exA := (ex2.trans ex3).trans ex4
        have lA : Le f1 f4 := l2.trans (ex3.le.trans ex4.le)
        have srA := s3.ext ex4
        obtain ⟨hD4, nF4, nh4⟩ := ex4.keep Dd _ kD3.1 (ctB_nt rfl) kD3.2.2
        have nF4 := nF4 rfl (kD3.2.1 rfl nF)
        have hacc4 : Paired (PK Z f4) acc vs2 := L2.Paired.mapP hacc fun _ _ z => ⟨z.1, z.2.mono (ex3.le.trans ex4.le)⟩
        refine ht _ _ _ ⟨f4, ρ1, g2, s4.sr, s4.hs, ?_⟩
        cases hc : c ρ1 g2 with
        | ex x' g' => rw [hc] at p2; exact p2.elim
        | no => rw [hc] at p2; exact p2.elim
        | ok t g3 =>
          rw [hc] at p2
          simp only [R.nox_ok, R.ok_bind] at p2
          intro b H5 f5 ex5 hs5 hb
          cases hb
          obtain ⟨hD5, nF5, nh5⟩ := ex5.keep Dd _ hD4 (ctB_nt rfl) nh4
          have nF5 := nF5 rfl nF4
          have hacc5 : Paired (PK Z f5) acc vs2 := L2.Paired.mapP hacc4 fun _ _ z => ⟨z.1, z.2.mono ex5.le⟩
          cases t with
          | false =>
            rw [if_neg (by decide)] at p2 ⊢
            exact ⟨m - 1, by omega, by omega, f5, g3, acc, lA.trans ex5.le, srA.ext ex5, exA.trans ex5, hs5, nF5, nh5, ⟨_, hD5, hacc5⟩, p2⟩
          | true =>
            rw [if_pos rfl] at p2 ⊢
            refine hk _ _ _ ⟨f5, ρ1, g3, s4.sr.ext ex5, hs5, ?_⟩
            cases hek : ek ρ1 g3 with
            | ex x' g' => rw [hek] at p2; exact p2.elim
            | no => rw [hek] at p2; exact p2.elim
            | ok y g4 =>
              rw [hek] at p2
              simp only [R.nox_ok, R.ok_bind] at p2
              intro v H6 f6 ex6 hs6 rv
              obtain ⟨hD6, nF6, nh6⟩ := ex6.keep Dd _ hD5 (ctB_nt rfl) nh5
              have nF6 := nF6 rfl nF5
              have hacc6 : Paired (PK Z f6) acc vs2 := L2.Paired.mapP hacc5 fun _ _ z => ⟨z.1, z.2.mono ex6.le⟩
              refine he _ _ _ ⟨f6, ρ1, g4, (s4.sr.ext ex5).ext ex6, hs6, ?_⟩
              cases hee : ev ρ1 g4 with
              | ex x' g' => rw [hee] at p2; exact p2.elim
              | no => rw [hee] at p2; exact p2.elim
              | ok z g5 =>
                rw [hee] at p2
                simp only [R.nox_ok, R.ok_bind] at p2
                intro w H7 f7 ex7 hs7 rw'
                obtain ⟨hD7, nF7, nh7⟩ := ex7.keep Dd _ hD6 (ctB_nt rfl) nh6
                have nF7 := nF7 rfl nF6
                have hacc7 : Paired (PK Z f7) acc vs2 := L2.Paired.mapP hacc6 fun _ _ z => ⟨z.1, z.2.mono ex7.le⟩
                cases hkey : keyD y with
                | none => rw [hkey] at p2; exact p2.elim
                | some kk =>
                  rw [hkey] at p2
                  dsimp only at p2
                  split at p2
                  · rename_i hlen
                    have hla := PySem.Paired.length hacc7
                    refine ⟨_, kk, keyD_v rv hkey, hD7, by rw [sl_eq]; omega, m - 1, by omega, by omega, f7, g5, putD acc kk z, ((lA.trans ex5.le).trans ex6.le).trans ex7.le, ?_⟩
                    exact ⟨sr_upd (((srA.ext ex5).ext ex6).ext ex7) hown, ex_upd (((exA.trans ex5).trans ex6).trans ex7) hD0, hs_upd hs7 nF7 nh7 (fun u e => by rw [hD7] at e; cases e; rfl), nF7, nh7, ⟨_, upd_same, put_pd rw' hacc7⟩, p2⟩
                  · exact p2.elim
    · refine .inl ⟨hit.2 (by omega), ?_⟩
      rw [List.drop_eq_nil_of_le (by omega)] at p2
      simp only [compD, R.bind] at p2
      exact p2 Dd (.dK vs2) H2 f2 ex2 hs2 ⟨hD0, hDl, nF, nh, hacc, rfl⟩
section
variable {X : Cx} {E : XK} {WL W Wt Wn : List Kd} {T : List Nat} {pos : Pos}
theorem fx_dc {kx vx tg iter : Expr} {ifs : List Expr} {scope : Scope} {own : List (Str × Nat)} {mi : M (List D)} {k : KT} {c : M Bool} {ek ev : M D} (hc : X.calm = true) (hN : X.N.Nodup) (hi : JX X E W tg iter mi) (ok : BlkOk X.N X.env.scope scope own) (hT : ∀ i ∈ T, i ∈ own.map (·.2))
    (hg : ∀ (s : Shared) (H : Hp) (C : Addr) (cl : List (Str × Addr)) (fp : List Addr), GX (X.blk s H scope (compEnvC scope cl C X.env) fp) (Wwipe W (own.map (·.2))) Wt T tg k)
    (ht : ∀ (s : Shared) (H : Hp) (C : Addr) (cl : List (Str × Addr)) (fp : List Addr), TX' (X.blk s H scope (compEnvC scope cl C X.env) fp) EN Wt ifs c)
    (hk : ∀ (s : Shared) (H : Hp) (C : Addr) (cl : List (Str × Addr)) (fp : List Addr), PX (X.blk s H scope (compEnvC scope cl C X.env) fp) EN Wt kx ek)
    (he : ∀ (s : Shared) (H : Hp) (C : Addr) (cl : List (Str × Addr)) (fp : List Addr), PX (X.blk s H scope (compEnvC scope cl C X.env) fp) EN Wt vx ev) (hs : ∀ x, foldedSetIterable iter X.env x = pure x := by intro _; rfl) :
    FX X E W (.DictComp kx vx [⟨tg, iter, ifs, 0⟩] scope pos) (mCompD mi k c ek ev) :=
  PE.imp (pe_dc (g := tGt (wd X) (Wwipe W (own.map fun (q : Str × Nat) => q.2)) Wt T k) (tt := tT (wd X) EN Wt c) (tk := tE (wd X) EN Wt ek) (tv := tE (wd X) EN Wt ev) hc hN hi ok (fun s H C cl fp => hg s H C cl fp) (fun s H C cl fp => ht s H C cl fp) (fun s H C cl fp => hk s H C cl fp) (fun s H C cl fp => he s H C cl fp) hs) fun σ H Q q =>
    dc_run hT (fun _ _ _ h => h) (fun _ _ _ _ h => h) (fun _ _ _ h => h) (fun _ _ _ h => h) (fun _ _ _ h => h) q
end

/-! ### two generators -/
def comp2L (k : KT) (c : M Bool) (mi1 : M (List D)) (k1 : KT) (c1 : M Bool) (e : M D) : List D → List D → List D → R (List D)
  | [], _, g => .ok [] g
  | d :: ds, ρ, g => match k d ρ g with
    | none => .no
    | some ρ1 => (c ρ1 g).nox.bind fun t g1 => if t = true then
        (mi1 ρ1 g1).nox.bind fun ds1 g2 => (compL k1 c1 e ds1 ρ1 g2).bind fun ys g3 => (comp2L k c mi1 k1 c1 e ds ρ g3).bind fun zs g4 => .ok (ys ++ zs) g4
      else comp2L k c mi1 k1 c1 e ds ρ g1
def mComp2 (mi : M (List D)) (k : KT) (c : M Bool) (mi1 : M (List D)) (k1 : KT) (c1 : M Bool) (e : M D) : M D := fun ρ g => (mi ρ g).bind fun ds g' => (comp2L k c mi1 k1 c1 e ds ρ g').bind kList
theorem R.bind_assoc {α β γ : Type} (r : R α) (a : α → List D → R β) (b : β → List D → R γ) : (r.bind a).bind b = r.bind fun x g => (a x g).bind b := by cases r <;> rfl
theorem kList_le {H0 : Hp} {f0 : Fz} {Z : Wd} {E : XK} {Q : VK} {r : R (List D)} {acc : List D} (hr : ∀ x g, r ≠ .ex x g) (p : postF Z E H0 f0 (r.bind fun ys g' => kList (acc ++ ys) g') Q) : acc.length ≤ 16777216 := by
  cases r with
  | ok ys g =>
    simp only [R.bind, kList] at p
    split at p
    · rename_i z; simp at z; omega
    · exact p.elim
  | ex x g => exact absurd rfl (hr x g)
  | no => exact p.elim
theorem comp2L_nox {k : KT} {c : M Bool} {mi1 : M (List D)} {k1 : KT} {c1 : M Bool} {e : M D} : ∀ {ds : List D} {ρ g : List D} {x : Exc} {g' : List D}, comp2L k c mi1 k1 c1 e ds ρ g ≠ .ex x g'
  | [], ρ, g, x, g', h => by simp [comp2L] at h
  | d :: ds, ρ, g, x, g', h => by
    simp only [comp2L] at h
    cases hk : k d ρ g with
    | none => rw [hk] at h; cases h
    | some ρ1 =>
      rw [hk] at h
      dsimp only at h
      cases hc : c ρ1 g with
      | ok t g1 =>
        rw [hc] at h
        simp only [R.nox, R.bind] at h
        cases t with
        | false => rw [if_neg (by decide)] at h; exact comp2L_nox h
        | true =>
          rw [if_pos rfl] at h
          cases hm : mi1 ρ1 g1 with
          | ok ds1 g2 =>
            rw [hm] at h
            simp only [R.nox, R.bind] at h
            cases hl : compL k1 c1 e ds1 ρ1 g2 with
            | ok ys g3 =>
              rw [hl] at h
              simp only [R.bind] at h
              cases hr : comp2L k c mi1 k1 c1 e ds ρ g3 with
              | ok zs g4 => rw [hr] at h; cases h
              | ex _ _ => exact comp2L_nox hr
              | no => rw [hr] at h; cases h
            | ex _ _ => exact compL_nox hl
            | no => rw [hl] at h; cases h
          | ex _ _ => rw [hm] at h; cases h
          | no => rw [hm] at h; cases h
      | ex _ _ => rw [hc] at h; cases h
      | no => rw [hc] at h; cases h
/-- how the new list stands -/
structure Acc (Z : Wd) (H0 : Hp) (f0 : Fz) (Dd : Addr) (acc : List D) (H : Hp) (f : Fz) (g : List D) : Prop where
  ex : Ex H0 f0 H f
  hs : Hs Z H f g
  nF : f.F Dd = none
  nh : Dd ∉ f.e
  at_ : ∃ vs, H Dd = some (.lst vs) ∧ Paired (Rp Z f) acc vs
theorem Acc.ext {Z : Wd} {H0 H H' : Hp} {f0 f f' : Fz} {Dd : Addr} {acc g g' : List D} (a : Acc Z H0 f0 Dd acc H f g) (e : Ex H f H' f') (hs : Hs Z H' f' g') : Acc Z H0 f0 Dd acc H' f' g' := by
  obtain ⟨vs, h1, h2⟩ := a.at_
  obtain ⟨k1, k2, k3⟩ := e.keep Dd _ h1 (ctB_nt rfl) a.nh
  exact ⟨a.ex.trans e, hs, k2 rfl a.nF, k3, vs, k1, L2.Paired.mapP h2 fun _ _ z => z.mono e.le⟩
/-- a slot that owns still does, and it is none of the block's -/
def okW (W Wt : List Kd) (vs : List Nat) : Bool := (List.range Wt.length).all fun i => match Wt[i]? with
  | some .ow => decide (W[i]? = some .ow) && !vs.contains i
  | some .lk => decide (W[i]? = some .lk) && !vs.contains i
  | _ => true
theorem okW_at {W Wt : List Kd} {vs : List Nat} (h : okW W Wt vs = true) {i : Nat} (e : Wt[i]? = some .ow ∨ Wt[i]? = some .lk) : (W[i]? = some .ow ∨ W[i]? = some .lk) ∧ i ∉ vs := by
  unfold okW at h
  rw [List.all_eq_true] at h
  have hi : i < Wt.length := by rcases e with e | e <;> exact (List.getElem?_eq_some_iff.mp e).1
  have q := h i (List.mem_range.mpr hi)
  rcases e with e | e
  · rw [e] at q
    simp only [Bool.and_eq_true, decide_eq_true_eq, Bool.not_eq_true', List.contains_eq_mem, decide_eq_false_iff_not] at q
    exact ⟨.inl q.1, q.2⟩
  · rw [e] at q
    simp only [Bool.and_eq_true, decide_eq_true_eq, Bool.not_eq_true', List.contains_eq_mem, decide_eq_false_iff_not] at q
    exact ⟨.inr q.1, q.2⟩
theorem lc2_run {Z : Wd} {E : XK} {W Wt Wt1 : List Kd} {T T1 vs vs1 : List Nat} {k k1 : KT} {c c1 : M Bool} {e : M D} {wi wi1 : TI} {g0 g1 : TG} {tt tt1 : TT} {te : TE} {mi mi1 : M (List D)} {σ : L2.St} {H : Hp} {Q : VK} (hT : ∀ i ∈ T, i ∈ vs) (hT1 : ∀ i ∈ T1, i ∈ vs1) (hW : okW W Wt vs = true)
    (hi : ∀ σ H R, tIp Z E W mi σ H R → wi σ H R) (hg : ∀ v σ H Q, tGt Z (Wwipe W vs) Wt T k v σ H Q → g0 v σ H Q) (ht : ∀ σ H Q, tT Z EN Wt c σ H Q → tt σ H Q)
    (hi1 : ∀ σ H R, tI Z EN Wt mi1 σ H R → wi1 σ H R) (hg1 : ∀ v σ H Q, tGt Z (Wwipe Wt vs1) Wt1 T1 k1 v σ H Q → g1 v σ H Q) (ht1 : ∀ σ H Q, tT Z EN Wt1 c1 σ H Q → tt1 σ H Q) (he : ∀ σ H Q, tE Z EN Wt1 e σ H Q → te σ H Q)
    (q : tF Z E W (mComp2 mi k c mi1 k1 c1 e) σ H Q) : tLc2 wi g0 tt wi1 g1 tt1 te vs vs1 σ H Q := by
  obtain ⟨f, ρ, g, s, hs, p⟩ := q
  refine hi _ _ _ ⟨f, ρ, g, s, hs, ?_⟩
  have p0 : postF Z E H f ((mi ρ g).bind fun ds g' => (comp2L k c mi1 k1 c1 e ds ρ g').bind kList) Q := p
  cases hr : mi ρ g with
  | ex x g' => rw [hr] at p0; exact p0
  | no => rw [hr] at p0; exact p0
  | ok ds ga =>
    rw [hr] at p0
    have p1 : postF Z E H f ((comp2L k c mi1 k1 c1 e ds ρ ga).bind kList) Q := p0
    intro J H1 f1 ex1 hs1 it Dd hD
    have s1 := s.ext ex1
    have n1 := hs1.free hD
    have hD0 : New H Dd := ex_none ex1 hs1 hD
    have hown := hown_of s1 hD
    refine ⟨fun i m H' => i + m = ds.length ∧ ∃ f' g' acc, Le f1 f' ∧ Sr Z W σ ρ H' f' ∧ Acc Z H f Dd acc H' f' g' ∧ postF Z E H f ((comp2L k c mi1 k1 c1 e (ds.drop i) ρ g').bind fun ys g2 => kList (acc ++ ys) g2) Q,
      ⟨ds.length, by omega, f1, ga, [], Le.refl _, s1.ext (Ex.laid hs1 hD), ⟨ex1.trans (Ex.laid hs1 hD), hs1.laid hD, n1.1, n1.2, [], upd_same, .nil⟩, by simpa using p1⟩, ?_⟩
    rintro i m H2 ⟨hm, f2, g2, acc, l2, s2, ac2, p2⟩
    have hit := it H2 f2 g2 l2 ac2.ex ac2.hs i
    by_cases hlt : i < ds.length
    · obtain ⟨hgo, hyl⟩ := hit.1 hlt
      refine .inr ⟨hgo, fun H' => ∃ m', m' < m ∧ i + 1 + m' = ds.length ∧ ∃ f' g' acc, Le f1 f' ∧ Sr Z W σ ρ H' f' ∧ Acc Z H f Dd acc H' f' g' ∧ postF Z E H f ((comp2L k c mi1 k1 c1 e (ds.drop (i + 1)) ρ g').bind fun ys g2 => kList (acc ++ ys) g2) Q, fun H' ⟨m', a1, a2, r⟩ => ⟨m', a1, a2, r⟩, fun x H3 hx => ?_⟩
      obtain ⟨f3, ex3, hs3, rx⟩ := hyl x H3 hx
      have hd : ds.getD i .non = ds[i] := by simp [List.getD_eq_getElem?_getD, hlt]
      rw [hd] at rx
      rw [List.drop_eq_getElem_cons hlt] at p2
      simp only [comp2L] at p2
      have s3 := s2.ext ex3
      have ac3 := ac2.ext ex3 hs3
      cases hk : k ds[i] ρ g2 with
      | none => rw [hk] at p2; exact p2.elim
      | some ρ1 =>
        rw [hk] at p2
        dsimp only at p2
        refine hg _ _ _ _ ⟨B0, f3, ρ, g2, _, ρ1, ss0 (wipe_sr s3 vs) hs3, rx, hk, fun σ4 H4 f4 fx4 ex4 s4 => ⟨(wipe_fix fx4 hT).trans (wipe_wipe σ vs), ?_⟩⟩
        have lA : Le f1 f4 := l2.trans (ex3.le.trans ex4.le)
        have srA := s3.ext ex4
        have ac4 := ac3.ext ex4 s4.hs
        refine ht _ _ _ ⟨f4, ρ1, g2, s4.sr, s4.hs, ?_⟩
        cases hc : c ρ1 g2 with
        | ex x' g' => rw [hc] at p2; exact p2.elim
        | no => rw [hc] at p2; exact p2.elim
        | ok t g3 =>
          rw [hc] at p2
          simp only [R.nox_ok, R.ok_bind] at p2
          intro b H5 f5 ex5 hs5 hb
          cases hb
          have ac5 := ac4.ext ex5 hs5
          have sr5 := srA.ext ex5
          cases t with
          | false =>
            rw [if_neg (by decide)] at p2 ⊢
            exact ⟨m - 1, by omega, by omega, f5, g3, acc, lA.trans ex5.le, sr5, ac5, p2⟩
          | true =>
            rw [if_pos rfl] at p2 ⊢
            have st5 := s4.sr.ext ex5
            refine hi1 _ _ _ ⟨f5, ρ1, g3, st5, hs5, ?_⟩
            cases hm1 : mi1 ρ1 g3 with
            | ex x' g' => rw [hm1] at p2; exact p2.elim
            | no => rw [hm1] at p2; exact p2.elim
            | ok ds1 g4 =>
              rw [hm1] at p2
              simp only [R.nox_ok, R.ok_bind] at p2
              intro J1 H6 f6 ex6 hs6 it1
              have ac6 := ac5.ext ex6 hs6
              have sr6 := sr5.ext ex6
              have st6 := st5.ext ex6
              have hD6 : ∀ (i : Nat) (b : Addr), (Wt[i]? = some .ow ∨ Wt[i]? = some .lk) → σ4[i]? = some (some (.ref b)) → b ≠ Dd := fun i b h1 h2 => by
                obtain ⟨h3, h4⟩ := okW_at hW h1
                rw [fx4.2 i (fun z => h4 (hT i z)), wipe_get, if_neg h4] at h2
                exact hown i b h3 h2
              let KK : List D → List D → List D → Prop := fun a r gg => postF Z E H f (((compL k1 c1 e r ρ1 gg).bind fun ys g3 => (comp2L k c mi1 k1 c1 e (ds.drop (i + 1)) ρ g3).bind fun zs g4 => .ok (ys ++ zs) g4).bind fun ys g' => kList (a ++ ys) g') Q
              refine ⟨fun j n H' => j + n = ds1.length ∧ ∃ f' g' acc, Le f6 f' ∧ Sr Z W σ ρ H' f' ∧ Sr Z Wt σ4 ρ1 H' f' ∧ Acc Z H f Dd acc H' f' g' ∧ KK acc (ds1.drop j) g', ⟨ds1.length, by omega, f6, g4, acc, Le.refl _, sr6, st6, ac6, by
                show postF Z E H f (((compL k1 c1 e ds1 ρ1 g4).bind fun ys g3 => (comp2L k c mi1 k1 c1 e (ds.drop (i + 1)) ρ g3).bind fun zs g4 => .ok (ys ++ zs) g4).bind fun ys g' => kList (acc ++ ys) g') Q
                exact p2⟩, ?_⟩
              rintro j n H7 ⟨hn, f7, g7, acc7, l7, sr7, st7, ac7, p7⟩
              have hit1 := it1 H7 f7 g7 l7 ac7.hs j
              by_cases hlt1 : j < ds1.length
              · obtain ⟨hgo1, hyl1⟩ := hit1.1 hlt1
                refine .inr ⟨hgo1, fun H' => ∃ n', n' < n ∧ j + 1 + n' = ds1.length ∧ ∃ f' g' acc, Le f6 f' ∧ Sr Z W σ ρ H' f' ∧ Sr Z Wt σ4 ρ1 H' f' ∧ Acc Z H f Dd acc H' f' g' ∧ KK acc (ds1.drop (j + 1)) g', fun H' ⟨n', a1, a2, r⟩ => ⟨n', a1, a2, r⟩, fun x1 H8 hx1 => ?_⟩
                obtain ⟨f8, ex8, hs8, rx1⟩ := hyl1 x1 H8 hx1
                have hd1 : ds1.getD j .non = ds1[j] := by simp [List.getD_eq_getElem?_getD, hlt1]
                rw [hd1] at rx1
                simp only [KK] at p7
                rw [List.drop_eq_getElem_cons hlt1] at p7
                simp only [compL] at p7
                have sr8 := sr7.ext ex8
                have st8 := st7.ext ex8
                have ac8 := ac7.ext ex8 hs8
                cases hk1 : k1 ds1[j] ρ1 g7 with
                | none => rw [hk1] at p7; exact p7.elim
                | some ρ2 =>
                  rw [hk1] at p7
                  dsimp only at p7
                  refine hg1 _ _ _ _ ⟨B0, f8, ρ1, g7, _, ρ2, ss0 (wipe_sr st8 vs1) hs8, rx1, hk1, fun σ9 H9 f9 fx9 ex9 s9 => ⟨(wipe_fix fx9 hT1).trans (wipe_wipe σ4 vs1), ?_⟩⟩
                  have sr9 := sr8.ext ex9
                  have st9 := st8.ext ex9
                  have ac9 := ac8.ext ex9 s9.hs
                  refine ht1 _ _ _ ⟨f9, ρ2, g7, s9.sr, s9.hs, ?_⟩
                  cases hc1 : c1 ρ2 g7 with
                  | ex x' g' => rw [hc1] at p7; exact p7.elim
                  | no => rw [hc1] at p7; exact p7.elim
                  | ok t1 g8 =>
                    rw [hc1] at p7
                    simp only [R.nox_ok, R.ok_bind] at p7
                    intro b1 Ha fa exa hsa hb1
                    cases hb1
                    have sra := sr9.ext exa
                    have sta := st9.ext exa
                    have aca := ac9.ext exa hsa
                    have la := l7.trans (ex8.le.trans (ex9.le.trans exa.le))
                    cases t1 with
                    | false =>
                      rw [if_neg (by decide)] at p7 ⊢
                      exact ⟨n - 1, by omega, by omega, fa, g8, acc7, la, sra, sta, aca, p7⟩
                    | true =>
                      rw [if_pos rfl] at p7 ⊢
                      refine he _ _ _ ⟨fa, ρ2, g8, s9.sr.ext exa, hsa, ?_⟩
                      cases hee : e ρ2 g8 with
                      | ex x' g' => rw [hee] at p7; exact p7.elim
                      | no => rw [hee] at p7; exact p7.elim
                      | ok y gy =>
                        rw [hee] at p7
                        simp only [R.nox_ok, R.ok_bind] at p7
                        intro v Hb fb exb hsb rv
                        have srb := sra.ext exb
                        have stb := sta.ext exb
                        have acb := aca.ext exb hsb
                        obtain ⟨vsb, hb1, hb2⟩ := acb.at_
                        have hlb := PySem.Paired.length hb2
                        -- what is behind
                        have p8 : KK (acc7 ++ [y]) (ds1.drop (j + 1)) gy := by
                          simp only [KK]
                          cases hrest : compL k1 c1 e (ds1.drop (j + 1)) ρ1 gy with
                          | ex x' g5 => exact absurd hrest compL_nox
                          | no => rw [hrest] at p7; exact p7.elim
                          | ok ys g5 =>
                            rw [hrest] at p7
                            simp only [R.ok_bind] at p7 ⊢
                            cases hrr : comp2L k c mi1 k1 c1 e (ds.drop (i + 1)) ρ g5 with
                            | ex x' g6 => exact absurd hrr comp2L_nox
                            | no => rw [hrr] at p7; exact p7.elim
                            | ok zs g6 =>
                              rw [hrr] at p7
                              simp only [R.ok_bind] at p7 ⊢
                              simpa using p7
                        have hlen : acc7.length < 16777216 := by
                          have nx : ∀ x g, ((compL k1 c1 e (ds1.drop (j + 1)) ρ1 gy).bind fun ys g3 => (comp2L k c mi1 k1 c1 e (ds.drop (i + 1)) ρ g3).bind fun zs g4 => .ok (ys ++ zs) g4) ≠ .ex x g := fun x g z => by
                            cases hrest : compL k1 c1 e (ds1.drop (j + 1)) ρ1 gy with
                            | ex x' g5 => exact absurd hrest compL_nox
                            | no => rw [hrest] at z; cases z
                            | ok ys g5 =>
                              rw [hrest] at z
                              simp only [R.ok_bind] at z
                              cases hrr : comp2L k c mi1 k1 c1 e (ds.drop (i + 1)) ρ g5 with
                              | ex x' g6 => exact absurd hrr comp2L_nox
                              | no => rw [hrr] at z; cases z
                              | ok zs g6 => rw [hrr] at z; cases z
                          have := kList_le nx p8
                          simp at this; omega
                        refine ⟨_, hb1, by rw [sl_eq]; omega, n - 1, by omega, by omega, fb, gy, acc7 ++ [y], la.trans exb.le, sr_upd srb hown, sr_upd stb hD6, ⟨ex_upd acb.ex hD0, hs_upd acb.hs acb.nF acb.nh (fun u e => by rw [hb1] at e; cases e; rfl), acb.nF, acb.nh, _, upd_same, pd_app hb2 (.cons rv .nil)⟩, p8⟩
              · refine .inl ⟨hit1.2 (by omega), ?_⟩
                simp only [KK] at p7
                rw [List.drop_eq_nil_of_le (by omega)] at p7
                simp only [compL, R.ok_bind] at p7
                refine ⟨m - 1, by omega, by omega, f7, g7, acc7, lA.trans (ex5.le.trans (ex6.le.trans l7)), sr7, ac7, ?_⟩
                have : ((comp2L k c mi1 k1 c1 e (ds.drop (i + 1)) ρ g7).bind fun zs g4 => R.ok ([] ++ zs) g4).bind (fun ys g' => kList (acc7 ++ ys) g') = (comp2L k c mi1 k1 c1 e (ds.drop (i + 1)) ρ g7).bind fun ys g' => kList (acc7 ++ ys) g' := by
                  rw [R.bind_assoc]; rfl
                rw [← this]; exact p7
    · refine .inl ⟨hit.2 (by omega), ?_⟩
      rw [List.drop_eq_nil_of_le (by omega)] at p2
      simp only [comp2L, R.ok_bind, List.append_nil] at p2
      unfold kList at p2
      split at p2
      · obtain ⟨vs2, h1, h2⟩ := ac2.at_
        exact p2 Dd (.lst vs2) H2 f2 ac2.ex ac2.hs ⟨hD0, h1, ac2.nF, ac2.nh, h2, rfl⟩
      · exact p2.elim
section
variable {X : Cx} {E : XK} {WL W Wt Wt1 Wn : List Kd} {T T1 : List Nat} {pos : Pos}
theorem fx_lc2 {elt tg iter tg1 iter1 : Expr} {ifs ifs1 : List Expr} {scope : Scope} {own : List (Str × Nat)} {vs1 : List Nat} {mi mi1 : M (List D)} {k k1 : KT} {c c1 : M Bool} {e : M D} (hc : X.calm = true) (hN : X.N.Nodup) (hi : JX X E W tg iter mi) (ok : BlkOk X.N X.env.scope scope own) (hv : ∀ i ∈ vs1, i ∈ own.map (·.2)) (hT : ∀ i ∈ T, i ∈ own.map (·.2)) (hT1 : ∀ i ∈ T1, i ∈ vs1) (hW : okW W Wt (own.map (·.2)) = true)
    (hg : ∀ (s : Shared) (H : Hp) (C : Addr) (cl : List (Str × Addr)) (fp : List Addr), GX (X.blk s H scope (compEnvC scope cl C X.env) fp) (Wwipe W (own.map (·.2))) Wt T tg k)
    (ht : ∀ (s : Shared) (H : Hp) (C : Addr) (cl : List (Str × Addr)) (fp : List Addr), TX' (X.blk s H scope (compEnvC scope cl C X.env) fp) EN Wt ifs c)
    (hi1 : ∀ (s : Shared) (H : Hp) (C : Addr) (cl : List (Str × Addr)) (fp : List Addr), IX (X.blk s H scope (compEnvC scope cl C X.env) fp) EN Wt tg1 iter1 mi1)
    (hg1 : ∀ (s : Shared) (H : Hp) (C : Addr) (cl : List (Str × Addr)) (fp : List Addr), GX (X.blk s H scope (compEnvC scope cl C X.env) fp) (Wwipe Wt vs1) Wt1 T1 tg1 k1)
    (ht1 : ∀ (s : Shared) (H : Hp) (C : Addr) (cl : List (Str × Addr)) (fp : List Addr), TX' (X.blk s H scope (compEnvC scope cl C X.env) fp) EN Wt1 ifs1 c1)
    (he : ∀ (s : Shared) (H : Hp) (C : Addr) (cl : List (Str × Addr)) (fp : List Addr), PX (X.blk s H scope (compEnvC scope cl C X.env) fp) EN Wt1 elt e) (hs : ∀ x, foldedSetIterable iter X.env x = pure x := by intro _; rfl) (hs1 : ∀ env x, foldedSetIterable iter1 env x = pure x := by intro _ _; rfl) :
    FX X E W (.ListComp elt [⟨tg, iter, ifs, 0⟩, ⟨tg1, iter1, ifs1, 0⟩] scope pos) (mComp2 mi k c mi1 k1 c1 e) :=
  PE.imp (pe_lc2 (g := tGt (wd X) (Wwipe W (own.map fun (q : Str × Nat) => q.2)) Wt T k) (tt := tT (wd X) EN Wt c) (wi1 := tI (wd X) EN Wt mi1) (g1 := tGt (wd X) (Wwipe Wt vs1) Wt1 T1 k1) (tt1 := tT (wd X) EN Wt1 c1) (te := tE (wd X) EN Wt1 e) hc hN hi ok hv (fun s H C cl fp => hg s H C cl fp) (fun s H C cl fp => ht s H C cl fp) (fun s H C cl fp => hi1 s H C cl fp) (fun s H C cl fp => hg1 s H C cl fp) (fun s H C cl fp => ht1 s H C cl fp) (fun s H C cl fp => he s H C cl fp) hs hs1) fun σ H Q q =>
    lc2_run hT hT1 hW (fun _ _ _ h => h) (fun _ _ _ _ h => h) (fun _ _ _ h => h) (fun _ _ _ h => h) (fun _ _ _ _ h => h) (fun _ _ _ h => h) (fun _ _ _ h => h) q
end
end TL
end

section
set_option Elab.async false
set_option linter.all false
set_option autoImplicit false
set_option maxRecDepth 100000
/-! TL, part r: starred items, displays of dicts, chains, pairs stored, list(d.items()) -/
namespace TL
open PySem PySem.Spec PyProof.Rows L2
variable [TabL]

section
variable {X : Cx} {E : XK} {sc : Scope} {N : List Str} {k : Nat} {df : Bool} {WL W Wn : List Kd} {pos apos cpos npos spos : Pos}
/-! ### starred items -/
def mStar (a : M D) (b : M (List D)) : M (List D) := fun ρ g => (a ρ g).bind fun d g1 => match vw g1 d with
  | .lst xs => (b ρ g1).bind fun ds g2 => .ok (xs ++ ds) g2
  | .tup xs => (b ρ g1).bind fun ds g2 => .ok (xs ++ ds) g2
  | _ => .no
theorem ax_star {e : Expr} {es : List Expr} {p : Pos} {m : M D} {n : M (List D)} (h : VX X E W e m) (t : AX X E W es n) (hs : starEach (.Starred e p :: es) X.env = (true, eval e X.env) :: starEach es X.env := by rfl) : AX X E W (.Starred e p :: es) (mStar m n) := PA.imp (StX.pa_star h t hs) fun σ H Q q => by
  refine tG.bind (rel := relV (wd X)) (k := fun d ρ g1 => match vw g1 d with
    | .lst xs => (n ρ g1).bind fun ds g2 => .ok (xs ++ ds) g2
    | .tup xs => (n ρ g1).bind fun ds g2 => .ok (xs ++ ds) g2
    | _ => .no) q fun d x H1 f1 ρ g1 s1 hs1 (r1 : Rv _ _ _ _ _) p1 => ?_
  split at p1
  · rename_i xs hx
    obtain ⟨a, vs, rfl, h1, h2⟩ := see_lst hs1 r1 hx
    refine ⟨a, vs, rfl, .inr (.of h1), f1, ρ, g1, s1, hs1, post.bind p1 fun ds g2 ys H2 f2 _ e2 hs2 r2 p2 => ?_⟩
    exact p2 _ H2 f2 (Ex.refl _ _) hs2 (pd_app (L2.Paired.mapP h2 fun _ _ z => z.mono e2.le) r2)
  · rename_i xs hx
    obtain ⟨a, vs, rfl, h1, h2⟩ := see_tup hs1 r1 hx
    refine ⟨a, vs, rfl, .inl h1, f1, ρ, g1, s1, hs1, post.bind p1 fun ds g2 ys H2 f2 _ e2 hs2 r2 p2 => ?_⟩
    exact p2 _ H2 f2 (Ex.refl _ _) hs2 (pd_app (L2.Paired.mapP h2 fun _ _ z => z.mono e2.le) r2)
  · exact p1.elim

/-! ### displays of dicts -/
/-- keys and values as they come, each with its mirror -/
def mPairs : List (M D × M D) → M (List (Key × D))
  | [], _, g => .ok [] g
  | (mk, mv) :: r, ρ, g => (mk ρ g).bind fun q g1 => (mv ρ g1).bind fun d g2 => (mPairs r ρ g2).bind fun ps g3 => match keyD q with
    | some kk => .ok ((kk, d) :: ps) g3
    | none => .no
def mDisp (ms : List (M D × M D)) : M D := fun ρ g => (mPairs ms ρ g).bind fun ps g1 => if ps.length ≤ 15 then .ok (.dct (mergeD [] ps)) g1 else .no
inductive DX (X : Cx) (E : XK) (W : List Kd) : List (Option Expr) → List Expr → List (M D × M D) → Prop
  | nil : DX X E W [] [] []
  | cons {ke ve : Expr} {ks : List (Option Expr)} {vs : List Expr} {mk mv : M D} {ms : List (M D × M D)} (hk : PX X E W ke mk) (hv : PX X E W ve mv) (t : DX X E W ks vs ms) : DX X E W (some ke :: ks) (ve :: vs) ((mk, mv) :: ms)
theorem DX.pps : ∀ {ks : List (Option Expr)} {vs : List Expr} {ms : List (M D × M D)}, DX X E W ks vs ms → PPs X pos ks vs (ms.map fun p => (tE (wd X) E W p.1, tE (wd X) E W p.2))
  | _, _, _, .nil => pps_nil
  | _, _, _, .cons hk hv t => pps_cons hk hv t.pps
theorem DX.len : ∀ {ks : List (Option Expr)} {vs : List Expr} {ms : List (M D × M D)}, DX X E W ks vs ms → ks.all (·.isSome) = true ∧ ks.length = vs.length ∧ ks.length = ms.length
  | _, _, _, .nil => ⟨rfl, rfl, rfl⟩
  | _, _, _, .cons _ _ t => by
    obtain ⟨h1, h2, h3⟩ := t.len
    exact ⟨by simp at h1 ⊢; exact h1, by simp [h2], by simp [h3]⟩
/-- the reading of the pairs -/
theorem pairs_run {Z : Wd} {β : Type} : ∀ {ms : List (M D × M D)} {σ : L2.St} {H : Hp} {f : Fz} {ρ g : List D} {Q : List (V × V) → Hp → Prop} {k : List (Key × D) → List D → R D} {H0 : Hp} {f0 : Fz} {Q0 : VK}, Sr Z W σ ρ H f → Hs Z H f g →
    Ex H0 f0 H f → postF Z E H0 f0 ((mPairs ms ρ g).bind k) Q0 → (∀ ps g' kvs H' f', Ex H f H' f' → Hs Z H' f' g' → Paired (PK Z f') ps kvs → ps.length = ms.length → postF Z E H0 f0 (k ps g') Q0 → Q (kvs.map fun kv => (kV kv.1, kv.2)) H') →
    tPairs (ms.map fun p => (tE Z E W p.1, tE Z E W p.2)) σ H Q
  | [], σ, H, f, ρ, g, Q, k, H0, f0, Q0, s, hs, ex0, p, h => h [] g [] H f (Ex.refl _ _) hs .nil rfl p
  | (mk, mv) :: r, σ, H, f, ρ, g, Q, k, H0, f0, Q0, s, hs, ex0, p, h => by
    show tE Z E W mk σ H fun x H1 => tE Z E W mv σ H1 fun y H2 => tPairs (r.map fun p => (tE Z E W p.1, tE Z E W p.2)) σ H2 fun ps H3 => Q ((x, y) :: ps) H3
    refine ⟨f, ρ, g, s, hs, ?_⟩
    simp only [mPairs] at p
    cases hk : mk ρ g with
    | ex x g' => rw [hk] at p; exact pEx.ext (x := x) (g := g') p ex0
    | no => rw [hk] at p; exact p
    | ok q g1 =>
      rw [hk] at p
      simp only [R.ok_bind] at p
      intro x H1 f1 ex1 hs1 rx
      refine ⟨f1, ρ, g1, s.ext ex1, hs1, ?_⟩
      cases hv : mv ρ g1 with
      | ex x' g' => rw [hv] at p; exact pEx.ext (x := x') (g := g') p (ex0.trans ex1)
      | no => rw [hv] at p; exact p
      | ok d g2 =>
        rw [hv] at p
        simp only [R.ok_bind] at p
        intro y H2 f2 ex2 hs2 ry
        rw [R.bind_assoc] at p
        refine pairs_run (β := β) (s.ext (ex1.trans ex2)) hs2 (ex0.trans (ex1.trans ex2)) p fun ps g' kvs H' f' ex' hs' pd hl p' => ?_
        split at p'
        · rename_i kk hkk
          have := keyD_v rx hkk
          subst this
          have e1 : Ex H f H' f' := (ex1.trans ex2).trans ex'
          exact h ((kk, d) :: ps) g' ((kk, y) :: kvs) H' f' e1 hs' (.cons ⟨rfl, Rp.mono ex'.le ry⟩ pd) (by simp [hl]) p'
        · exact p'.elim
theorem fx_disp {ks : List (Option Expr)} {vs : List Expr} {ms : List (M D × M D)} (h : DX X E W ks vs ms) (h0 : ks ≠ [] := by intro z; cases z) (h15 : ks.length ≤ 15 := by decide) : FX X E W (.Dict ks vs pos) (mDisp ms) := by
  obtain ⟨l1, l2, l3⟩ := h.len
  refine PE.imp (pe_disp h.pps l1 l2 h0 h15) fun σ H Q q => ?_
  obtain ⟨f, ρ, g, s, hs, p⟩ := q
  intro a ha
  have fr := hs.free ha
  have hown := hown_of s ha
  refine pairs_run (β := Unit) (Q0 := Q) (s.ext (Ex.laid hs ha)) (hs.laid ha) (Ex.laid hs ha) p fun ps g' kvs H' f' ex hs' pd hl p' => ?_
  obtain ⟨k1, k2, k3⟩ := ex.keep a _ upd_same (ctB_nt rfl) fr.2
  refine ⟨k1, kvs, rfl, by rw [← PySem.Paired.length pd, hl, ← l3]; exact h15, ?_⟩
  split at p'
  · refine p' a (.dK _) _ f' (ex_upd ((Ex.laid hs ha).trans ex) (New.of ha)) (hs_upd hs' (k2 rfl fr.1) k3 (fun u e => by rw [k1] at e; cases e; rfl)) ⟨New.of ha, upd_same, k2 rfl fr.1, k3, merge_pd pd .nil, rfl⟩
  · exact p'.elim

/-! ### chains -/
def mChain (ma mb mc : M D) (k1 k2 : D → D → List D → R D) : M D := fun ρ g => (ma ρ g).bind fun x g1 => (mb ρ g1).bind fun y g2 => (k1 x y g2).bind fun t g3 => match t with
  | .bl true => (mc ρ g3).bind fun w g4 => k2 y w g4
  | .bl false => .ok (.bl false) g3
  | _ => .no
theorem chain_run {Z : Wd} {r r' : R2} {k1 k2 : D → D → List D → R D} {ma mb mc : M D} {σ : L2.St} {H : Hp} {Q : VK} (o1 : Op2 Z r k1) (o2 : Op2 Z r' k2) (q : tE Z E W (mChain ma mb mc k1 k2) σ H Q) :
    tChain r r' (tG (relV Z) Z E W ma) (tG (relV Z) Z E W mb) (tG (relV Z) Z E W mc) σ H Q := by
  refine tG.bind (rel := relV Z) (k := fun x ρ g1 => (mb ρ g1).bind fun y g2 => (k1 x y g2).bind fun t g3 => match t with
    | .bl true => (mc ρ g3).bind fun w g4 => k2 y w g4
    | .bl false => .ok (.bl false) g3
    | _ => .no) q fun x v H1 f1 ρ g1 s1 hs1 (r1 : Rv _ _ _ _ _) p1 => ?_
  refine ⟨f1, ρ, g1, s1, hs1, post.bind p1 fun y g2 u H2 f2 _ e2 hs2 r2 p2 => ?_⟩
  refine o1 E v u x y H2 f2 g2 _ (r1.ext e2) r2 hs2 (post.bind p2 fun t g3 w H3 f3 _ e3 hs3 r3 p3 => ?_)
  split at p3
  · simp only [relD, Rp] at r3
    refine ⟨true, r3, ?_⟩
    rw [if_pos rfl]
    refine ⟨f3, ρ, g3, (s1.ext e2).ext e3, hs3, post.bind p3 fun z g4 zv H4 f4 _ e4 hs4 r4 p4 => ?_⟩
    exact o2 E u zv y z H4 f4 g4 Q (Rv.ext (Rv.ext r2 e3) e4) r4 hs4 p4
  · simp only [relD, Rp] at r3
    refine ⟨false, r3, ?_⟩
    rw [if_neg (by decide)]
    exact post_now p3 hs3 (by simp only [Rp])
  · exact p3.elim
theorem tx_chain {op op' : CmpOp} {r r' : R2} {k1 k2 : D → D → List D → R D} {a b c : Expr} {ma mb mc : M D} (ho : OpR X (compareOp op) r) (ho' : OpR X (compareOp op') r') (o1 : Op2 (wd X) r k1) (o2 : Op2 (wd X) r' k2) (ha : VX X E W a ma) (hb : VX X E W b mb) (hc : VX X E W c mc)
    (hm : lastMarks [op, op'] [b, c] = false := by with_unfolding_all rfl) : TX X E W (.Compare a [op, op'] [b, c] pos) (mB (mChain ma mb mc k1 k2)) :=
  PT.imp (pt_chain ho ho' ha hb hc hm) fun σ H Q q => by
    obtain ⟨f, ρ, g, s, hs, p⟩ := tTestOf q
    exact chain_run o1 o2 ⟨f, ρ, g, s, hs, p⟩
theorem px_chain {op op' : CmpOp} {r r' : R2} {k1 k2 : D → D → List D → R D} {a b c : Expr} {ma mb mc : M D} (ho : OpR X (compareOp op) r) (ho' : OpR X (compareOp op') r') (o1 : Op2 (wd X) r k1) (o2 : Op2 (wd X) r' k2) (ha : VX X E W a ma) (hb : VX X E W b mb) (hc : VX X E W c mc)
    (hm : lastMarks [op, op'] [b, c] = false := by with_unfolding_all rfl) : PX X E W (.Compare a [op, op'] [b, c] pos) (mChain ma mb mc k1 k2) :=
  PE.imp (pe_chain ho ho' ha hb hc hm) fun σ H Q q => chain_run o1 o2 q

/-! ### a, b = e -/
def mAsgT (k : KT) (m : M D) : MS := fun ρ g => (m ρ g).st fun d g1 => match k d ρ g1 with | some ρ' => .nx ρ' g1 | none => .no
theorem sx_asgT {tg e : Expr} {T : List Nat} {m : M D} {kt : KT} (he : PX X E W e m) (hg : GX X W Wn T tg kt) (hs : swapsWithSole [tg] e pos.line X.env = pure false := by rfl) (hw : swappedStores [tg] e X.env = pure none := by rfl)
    (h1 : (assignEach [tg] X.env).map (·.2) = [assign tg X.env] := by rfl) : SX X E WL W (.Assign [tg] e pos) Wn (mAsgT kt m) := PS.imp (ps_asg he hg hs hw h1) fun ND σ H q => by
  obtain ⟨B, f, ρ, g, s, p⟩ := q
  refine ⟨f, ρ, g, s.sr, s.hs, postS.bind s p fun d g1 v H1 f1 l1 s1 rv p1 => ?_⟩
  cases hk : kt d ρ g1 with
  | none => rw [hk] at p1; exact p1.elim
  | some ρ' =>
    rw [hk] at p1
    exact ⟨B, f1, ρ, g1, d, ρ', s1, rv, hk, fun σ2 H2 f2 _ e2 s2 => p1 σ2 H2 f2 e2.le s2⟩

/-! ### a, b = x, y -/
/-- what an expression hands over: a new container, or what is frozen -/
def relK (Z : Wd) (kd : Kd) (H0 : Hp) : Hp → Fz → D → V → Prop := fun H' f' d v => match kd with
  | .ow => ∃ a o, v = .ref a ∧ Nw Z H0 H' f' a o d
  | _ => Rp Z f' d v
def KX (X : Cx) (E : XK) (W : List Kd) (kd : Kd) (e : Expr) (m : M D) : Prop := PE X e fun σ H Q => ∃ f ρ g, Sr (wd X) W σ ρ H f ∧ Hs (wd X) H f g ∧ post (relK (wd X) kd H) (wd X) E H f (m ρ g) Q
theorem PX.kx {e : Expr} {m : M D} (h : PX X E W e m) : KX X E W .sh e m := PE.imp h fun σ H Q q => q
theorem FX.kx {e : Expr} {m : M D} (h : FX X E W e m) : KX X E W .ow e m := PE.imp h fun σ H Q q => by
  obtain ⟨f, ρ, g, s, hs, p⟩ := q
  refine ⟨f, ρ, g, s, hs, ?_⟩
  cases hr : m ρ g with
  | ok d g' => rw [hr] at p; exact fun a o H' f' ex hs' n => p _ H' f' ex hs' ⟨a, o, rfl, n⟩
  | ex x g' => rw [hr] at p; exact p
  | no => rw [hr] at p; exact p
theorem relK.keep {Z : Wd} {kd : Kd} {H0 H1 H2 : Hp} {f1 f2 : Fz} {d : D} {v : V} (r : relK Z kd H0 H1 f1 d v) (e : Ex H1 f1 H2 f2) : relK Z kd H0 H2 f2 d v := by
  cases kd with
  | ow =>
    obtain ⟨a, o, rfl, n⟩ := r
    obtain ⟨k1, k2, k3⟩ := e.keep a o n.at_ (rpO_nt n.r) n.nh
    exact ⟨a, o, rfl, n.new, k1, k2 (rpO_ct n.r) n.fr, k3, rpO_mono e.le n.r, n.nz⟩
  | _ => exact Rp.mono e.le r
/-- a slot takes it -/
theorem Ss.set_k {Z : Wd} {B : Bs} {σ : L2.St} {ρ : List D} {H H' : Hp} {f f' : Fz} {g g' : List D} {i : Nat} {kd : Kd} {d : D} {v : V} (s : Ss Z B W σ ρ H f g) (hi : i < σ.length) (e : Ex H f H' f') (hs : Hs Z H' f' g') (hk : kd = .sh ∨ (kd = .ow ∧ 0 < i)) (r : relK Z kd H H' f' d v) :
    Ss Z B (W.set i kd) (σ.set i (some v)) (ρ.set i d) H' f' g' := by
  rcases hk with rfl | ⟨rfl, i0⟩
  · exact (s.ext e hs).set_sh hi r
  · obtain ⟨a, o, rfl, n⟩ := r
    exact s.set_ow hi e hs n i0
def mPar (i j : Nat) (ma mb : M D) : MS := fun ρ g => (ma ρ g).st fun d g1 => (mb ρ g1).st fun e g2 => .nx ((ρ.set i d).set j e) g2
theorem postS.bindE {α β : Type} {rel : Hp → Fz → α → β → Prop} {Z : Wd} {B : Bs} {σ : L2.St} {ρ : List D} {H : Hp} {f : Fz} {g : List D} {r : R α} {kk : α → List D → RS} {ND : Ends} {Q' : β → Hp → Prop} (s : Ss Z B W σ ρ H f g)
    (p : postS Z E B f WL Wn (r.st kk) ND) (h : ∀ a g v H' f', Ex H f H' f' → Ss Z B W σ ρ H' f' g → rel H' f' a v → postS Z E B f' WL Wn (kk a g) ND → Q' v H') : post rel Z E H f r Q' := by
  cases r with
  | ok a g' => exact fun v H' f' e hs r => h a g' v H' f' e (s.ext e hs) r (postS.low (r := kk a g') p e.le)
  | ex x g' => exact pEx.ext p s.ex
  | no => exact p
theorem asg2_run {Z : Wd} {i j : Nat} {k1 k2 : Kd} {ma mb : M D} {B : Bs} {f : Fz} {ρ g : List D} {σ : L2.St} {H : Hp} {ND : Ends} (s : Ss Z B W σ ρ H f g) (hi : i < W.length) (hj : j < W.length) (h1 : k1 = .sh ∨ (k1 = .ow ∧ 0 < i)) (h2 : k2 = .sh ∨ (k2 = .ow ∧ 0 < j))
    (p : postS Z E B f WL Wn (mPar i j ma mb ρ g) ND) {Q1 : V → V → Hp → Prop}
    (hq : ∀ v w H' f' g' d e, Ss Z B ((W.set i k1).set j k2) ((σ.set i (some v)).set j (some w)) ((ρ.set i d).set j e) H' f' g' → Hs Z H' f' g' → (∀ (H2 : Hp) (f2 : Fz), Le f' f2 → Ss Z B Wn ((σ.set i (some v)).set j (some w)) ((ρ.set i d).set j e) H2 f2 g' → ND.nx ((σ.set i (some v)).set j (some w)) H2) → Q1 v w H') :
    post (relK Z k1 H) Z E H f (ma ρ g) fun v H1 => ∃ f1 ρ1 g1, Sr Z W σ ρ1 H1 f1 ∧ Hs Z H1 f1 g1 ∧ post (relK Z k2 H1) Z E H1 f1 (mb ρ1 g1) fun w H2 => Q1 v w H2 := by
  have hl := s.sr.lenW
  refine postS.bindE s p fun d g1 v H1 f1 ex1 s1 rv p1 => ?_
  have s1i := s.set_k (by omega : i < σ.length) ex1 s1.hs h1 rv
  refine ⟨f1, ρ, g1, s1.sr, s1.hs, postS.bindE s1 p1 fun e g2 w H2 f2 ex2 s2 rw' p2 => ?_⟩
  have s2j := s1i.set_k (by rw [List.length_set]; omega : j < (σ.set i (some v)).length) ex2 s2.hs h2 rw'
  exact hq v w H2 f2 g2 d e s2j s2.hs fun H3 f3 l3 s3 => p2 _ H3 f3 l3 s3
/-- by the swap's own road: both names local -/
theorem sx_par (G : Gd X E sc N k df) (i j : Nat) {k1 k2 : Kd} {x y : Str} {a b : Expr} {ma mb : M D} {px py pt : Pos} {kt kt2 : Nat} {pt2 : Pos} (ha : KX X E W k1 a ma) (hb : KX X E W k2 b mb) (hN : N[i]? = some x := by rfl) (hM : N[j]? = some y := by rfl) (hij : i ≠ j := by decide)
    (hx : locB false sc x = true := by rfl) (hy : locB false sc y = true := by rfl) (hi : i < W.length := by decide) (hj : j < W.length := by decide) (h1 : k1 = .sh ∨ (k1 = .ow ∧ 0 < i) := by first | exact .inl rfl | exact .inr ⟨rfl, by decide⟩) (h2 : k2 = .sh ∨ (k2 = .ow ∧ 0 < j) := by first | exact .inl rfl | exact .inr ⟨rfl, by decide⟩) (hw : Wle Wn ((W.set i k1).set j k2) = true := by rfl)
    (he1 : starEach [a, b] X.env = (false, eval a X.env) :: starEach [b] X.env := by rfl) (he2 : starEach [b] X.env = (false, eval b X.env) :: starEach [] X.env := by rfl)
    (hsw : ∀ l g c qu f cd fr b', swappedStores [.Tuple [.Name x px, .Name y py] kt pt] (.Tuple [a, b] kt2 pt2) ⟨sc, l, g, c, qu, f, cd, fr, b'⟩ = pure (some [x, y]) := by intros; rfl)
    (hs : swapsWithSole [.Tuple [.Name x px, .Name y py] kt pt] (.Tuple [a, b] kt2 pt2) pos.line X.env = pure false := by rfl) :
    SX X E WL W (.Assign [.Tuple [.Name x px, .Name y py] kt pt] (.Tuple [a, b] kt2 pt2) pos) Wn (mPar i j ma mb) := by
  have lo : ∀ z, locB false sc z = true → X.env.scope.names.lookup z = some .local := fun z h => by
    rw [G.sc_]
    unfold locB at h
    split at h <;> first | assumption | cases h
  refine PS.imp (ps_par G.calm G.nd (by rw [G.N_]; exact hN) (by rw [G.N_]; exact hM) hij (lo x hx) (lo y hy) (pa_cons ha (pa_cons hb pa_nil he2) he1) (scope_of (F := fun e => swappedStores [.Tuple [.Name x px, .Name y py] kt pt] (.Tuple [a, b] kt2 pt2) e) G.sc_ hsw) hs) fun ND σ H q => ?_
  obtain ⟨B, f, ρ, g, s, p⟩ := q
  refine ⟨f, ρ, g, s.sr, s.hs, asg2_run s hi hj h1 h2 p fun v w H' f' g' d e s' hs' hn => ?_⟩
  exact ⟨v, w, rfl, hn H' f' (Le.refl _) (s'.weak hw)⟩
/-- by the pair itself -/
theorem sx_parT (G : Gd X E sc N k df) (i j : Nat) {k1 k2 : Kd} {x y : Str} {a b : Expr} {ma mb : M D} {px py pt : Pos} {kt kt2 : Nat} {pt2 : Pos} (ha : KX X E W k1 a ma) (hb : KX X E W k2 b mb) (hN : N[i]? = some x := by rfl) (hM : N[j]? = some y := by rfl)
    (hx : locB df sc x = true := by rfl) (hy : locB df sc y = true := by rfl) (hi : i < W.length := by decide) (hj : j < W.length := by decide) (h1 : k1 = .sh ∨ (k1 = .ow ∧ 0 < i) := by first | exact .inl rfl | exact .inr ⟨rfl, by decide⟩) (h2 : k2 = .sh ∨ (k2 = .ow ∧ 0 < j) := by first | exact .inl rfl | exact .inr ⟨rfl, by decide⟩) (hw : Wle Wn ((W.set i k1).set j k2) = true := by rfl)
    (he1 : starEach [a, b] X.env = (false, eval a X.env) :: starEach [b] X.env := by rfl) (he2 : starEach [b] X.env = (false, eval b X.env) :: starEach [] X.env := by rfl)
    (ht1 : (assignEach [.Name x px, .Name y py] X.env).map (·.2) = assign (.Name x px) X.env :: (assignEach [.Name y py] X.env).map (·.2) := by rfl) (ht2 : (assignEach [.Name y py] X.env).map (·.2) = assign (.Name y py) X.env :: (assignEach [] X.env).map (·.2) := by rfl)
    (hn2 : (assignEach [.Name x px, .Name y py] X.env).length = 2 := by rfl) (hst : (assignEach [.Name x px, .Name y py] X.env).findIdx? (·.1) = none := by rfl)
    (hs : swapsWithSole [.Tuple [.Name x px, .Name y py] kt pt] (.Tuple [a, b] kt2 pt2) pos.line X.env = pure false := by rfl) (hsw : ∀ l g c qu f cd fr b', swappedStores [.Tuple [.Name x px, .Name y py] kt pt] (.Tuple [a, b] kt2 pt2) ⟨sc, l, g, c, qu, f, cd, fr, b'⟩ = pure none := by intros; rfl)
    (ho : (assignEach [.Tuple [.Name x px, .Name y py] kt pt] X.env).map (·.2) = [assign (.Tuple [.Name x px, .Name y py] kt pt) X.env] := by rfl) :
    SX X E WL W (.Assign [.Tuple [.Name x px, .Name y py] kt pt] (.Tuple [a, b] kt2 pt2) pos) Wn (mPar i j ma mb) := by
  refine PS.imp (ps_asg (pe_tup (pa_cons ha (pa_cons hb pa_nil he2) he1)) (pg_tup G.calm (pgs_cons (pg_name G.nd (by rw [G.N_]; exact hN) (G.loc hx).1 (G.loc hx).2) (pgs_cons (pg_name G.nd (by rw [G.N_]; exact hM) (G.loc hy).1 (G.loc hy).2) pgs_nil ht2) ht1) hn2 hst) hs (scope_of (F := fun e => swappedStores [.Tuple [.Name x px, .Name y py] kt pt] (.Tuple [a, b] kt2 pt2) e) G.sc_ hsw) ho) fun ND σ H q => ?_
  obtain ⟨B, f, ρ, g, s, p⟩ := q
  refine ⟨f, ρ, g, s.sr, s.hs, asg2_run s hi hj h1 h2 p fun v w H' f' g' d e s' hs' hn => ?_⟩
  refine ⟨by show 2 ≤ sizeLine; decide, fun t ht => ?_⟩
  refine ⟨t, [v, w], rfl, .inl (.inl upd_same), rfl, v, [w], rfl, w, [], rfl, rfl, ?_⟩
  exact hn _ f' (Le.refl _) ((s'.ext (Ex.laid hs' ht) (hs'.laid ht)).weak hw)

/-! ### list(d.items()) -/
def kLItems (d : D) (g : List D) : R D := match vw g d with
  | .dct kvs => .ok (.lst (itemsD kvs)) g
  | _ => .no
theorem pair_has {H' : Hp} : ∀ {ts : List Addr} {ws : List (Key × V)}, Paired (fun (t : Addr) (q : Key × V) => H' t = some (.tup [kV q.1, q.2])) ts ws → ∀ {t : Addr}, t ∈ ts → ∃ q : Key × V, H' t = some (.tup [kV q.1, q.2])
  | _, _, .nil, t, h => by simp at h
  | _, _, .cons r rr, t, h => by
    rcases List.mem_cons.mp h with rfl | h
    · exact ⟨_, r⟩
    · exact pair_has rr h
/-- many new pairs at once -/
theorem laid_many {Z : Wd} {H H' : Hp} {f : Fz} {g : List D} {ts : List Addr} {p : Addr} (hs : Hs Z H f g) (k1 : ∀ b o, H b = some o → H' b = some o) (k2 : H p = none) (k3 : ∀ t ∈ ts, H t = none) (k4 : p ∉ ts) (k7 : ∀ t ∈ ts, ∀ o, H' t = some o → Nt o) :
    ∃ f', Ex H f H' f' ∧ Hs Z H' f' g ∧ f'.F p = none ∧ p ∉ f'.e ∧ (∀ t ∈ ts, ∀ o, H' t = some o → f'.F t = some o) := by
  classical
  have le : Le f ⟨fun b => if b ∈ ts then H' b else f.F b, f.e⟩ := ⟨fun a o e => by
    have hm : a ∉ ts := fun z => by
      have := (hs.free (k3 a z)).1
      rw [e] at this; cases this
    show (if a ∈ ts then H' a else f.F a) = some o
    rw [if_neg hm]; exact e, fun _ _ e => e⟩
  refine ⟨⟨fun b => if b ∈ ts then H' b else f.F b, f.e⟩, ⟨le, fun a o e _ n => ⟨k1 a o e, fun _ z => ?_, n⟩⟩, ⟨fun a o e => ?_, fun a o e => ?_, hs.tab.ext k1, hs.len, fun a ha => ?_, fun i d hd nd => ?_, hs.nd⟩, ?_, ?_, fun t ht o e => ?_⟩
  · have hm : a ∉ ts := fun q => by rw [k3 a q] at e; cases e
    show (if a ∈ ts then H' a else f.F a) = none
    rw [if_neg hm]; exact z
  · have e : (if a ∈ ts then H' a else f.F a) = some o := e
    split at e
    · exact e
    · exact k1 a o (hs.fr a o e)
  · have e : (if a ∈ ts then H' a else f.F a) = some o := e
    split at e
    · rename_i ht
      exact k7 a ht o e
    · exact hs.nt a o e
  · obtain ⟨o, e, nt⟩ := hs.lv a ha
    exact ⟨o, k1 a o e, nt⟩
  · obtain ⟨a, o, e1, e2, e3, e4, e5⟩ := hs.hot i d hd nd
    have hm : a ∉ ts := fun z => by rw [k3 a z] at e3; cases e3
    refine ⟨a, o, e1, ?_, k1 a o e3, rpO_mono le e4, e5⟩
    show (if a ∈ ts then H' a else f.F a) = none
    rw [if_neg hm]; exact e2
  · show (if p ∈ ts then H' p else f.F p) = none
    rw [if_neg k4]; exact (hs.free k2).1
  · exact (hs.free k2).2
  · show (if t ∈ ts then H' t else f.F t) = some o
    rw [if_pos ht]; exact e
def rLItems : V → Hp → VK → Prop := fun x H Q => ∃ (d : Addr) (kvs : List (Key × V)), x = .ref d ∧ Rd H d (.dK kvs) ∧
  ∀ (H' : Hp) (p : Addr) (ts : List Addr), (∀ b o, H b = some o → H' b = some o) → H p = none → (∀ t ∈ ts, H t = none) → p ∉ ts → H' p = some (.lst (ts.map V.ref)) → Paired (fun (t : Addr) (q : Key × V) => H' t = some (.tup [kV q.1, q.2])) ts kvs → Q (.ref p) H'
theorem pe_lItems {e : Expr} {te : TE} {p : Pos} (hc : X.calm = true) (he : PE X e te) (hg : Gl X "list") (hm : X.mg "list" = none) (hdb : (("list" : Str) == ("__debug__" : Str)) = false) (hn : ("list" : Str) ≠ "__name__") (hbase : attributeBase e "items" X.env (eval e X.env) = eval e X.env := by rfl) (hline : (apos.endLine == cpos.line) = true := by rfl)
    (hs : starEach [.Call (.Attribute e "items" apos) [] [] cpos] X.env = (false, eval (.Call (.Attribute e "items" apos) [] [] cpos) X.env) :: starEach [] X.env := by rfl) :
    PE X (.Call (.Name "list" p) [.Call (.Attribute e "items" apos) [] [] cpos] [] pos) (fun σ H Q => te σ H fun x H1 => rLItems x H1 Q) := by
  refine ⟨fun pins s σ H Q I hq => wpAny_Call_Name_kw (ld_blt I hg hm PyProof.Rows.boot_list ?_ hn hdb)⟩
  refine PyProof.Rows.callWith_type1 ?_ hs rfl
  rw [hs]; show wpAny _ _ (spliced ((false, eval (.Call (.Attribute e "items" apos) [] [] cpos) X.env) :: backTo pos (starEach [] X.env))) _ _ s
  refine Calls.spliced_cons (wpAny_Call_method (T := "dict") (id := "dict.items") hbase rfl hline F.plainAttrs_dict F.slot_dict_items F.type_dict_items (thn (he.run pins s σ H _ I hq) fun u s1 ⟨x, H1, I1, rx, d, kvs, ex, hd, q⟩ => ?_))
  subst ex
  obtain rfl : u = Value.ref d := rx
  obtain ⟨hz, hs0, vs, kv, hdo⟩ := dk_rd I1.hok hd
  obtain ⟨ep, hat⟩ := hdo.dictAt
  have lk : kvs.length = vs.length := PySem.Paired.length kv
  have J1 : Inv X pins σ H1 { s1 with heap := s1.heap.push { cls := .type "dict_items", data := .fields #[.ref d] } } := I1.kept (t' := s1.toks) fun b ob q => Heap.get?_push_of_some _ q
  refine ⟨hdo.typeIs, hdo.mapOf.noDict, method_meetsIn F.slot_dict_items F.entry_dict_items rfl (PySem.evalArgs_none ⟨rfl, hdo.typeIs, F.args_dict_items_1 _, _, meets_dict_items (mixKind X.prog X.w) d hs0, ⟨vs, hdo⟩, Calls.spliced_nil ?_⟩)⟩
  refine PySem.W.kdx_call (knd := mixKind X.prog X.w) (kvs := vs) (ep := ep) (I1.ok.hd hc) ⟨_, Heap.get?_push_size _ rfl, rfl, rfl⟩ (hat.push _) (by omega) fun h' tk acc c as hk hS hl hG hacc => ?_
  obtain ⟨H', z1, z2, z3, z4, z5, z6, J⟩ := LiI.items_laid (tk := tk) J1 hz kv hk hS hl hG hacc
  exact ⟨.ref _, H', J, rfl, q H' _ as z1 z2 z3 z4 z5 z6⟩
def mLItems (m : M D) : M D := fun ρ g => (m ρ g).bind kLItems
theorem items_pd {Z : Wd} {f : Fz} {H' : Hp} : ∀ {kvs : List (Key × D)} {ws : List (Key × V)} {ts : List Addr}, Paired (PK Z f) kvs ws → Paired (fun (t : Addr) (q : Key × V) => H' t = some (.tup [kV q.1, q.2])) ts ws → (∀ t ∈ ts, ∀ o, H' t = some o → f.F t = some o) → Paired (Rp Z f) (itemsD kvs) (ts.map V.ref)
  | _, _, _, .nil, h, _ => by cases h; exact .nil
  | (q, d) :: kvs, (q', w) :: ws, ts, .cons r t, h, hf => by
    cases h with
    | @cons a _ as _ h1 h2 =>
      obtain ⟨r1, r2⟩ := r
      have r1 : q = q' := r1
      subst r1
      refine .cons ?_ (items_pd t h2 fun t ht => hf t (by simp [ht]))
      simp only [Rp]
      exact ⟨a, [kV q, w], rfl, .inl (hf a (by simp) _ h1), rpL_iff.mpr (.cons (rp_kD _ _ _) (.cons r2 .nil))⟩
theorem fx_lItems (G : Gd X E sc N k df) (hm : X.mg "list" = none) {e : Expr} {m : M D} {p : Pos} (he : VX X E W e m) (hg : glB sc "list" = true := by rfl) (hbase : attributeBase e "items" X.env (eval e X.env) = eval e X.env := by rfl) (hline : (apos.endLine == cpos.line) = true := by rfl)
    (hs : starEach [.Call (.Attribute e "items" apos) [] [] cpos] X.env = (false, eval (.Call (.Attribute e "items" apos) [] [] cpos) X.env) :: starEach [] X.env := by rfl) :
    FX X E W (.Call (.Name "list" p) [.Call (.Attribute e "items" apos) [] [] cpos] [] pos) (mLItems m) := PE.imp (pe_lItems G.calm he (G.gl hg).1 hm (G.gl hg).2.1 (G.gl hg).2.2 hbase hline hs) fun σ H Q q => by
  obtain ⟨f, ρ, g, s, hs, p⟩ := q
  refine ⟨f, ρ, g, s, hs, postF.bind p fun d g1 x H1 f1 _ e1 hs1 r1 p1 => ?_⟩
  unfold kLItems at p1
  split at p1
  · rename_i kvs hd
    obtain ⟨a, ws, rfl, hr, pd⟩ := see_dct hs1 r1 hd
    refine ⟨a, ws, rfl, hr, fun H' q' ts k1 k2 k3 k4 k5 k6 => ?_⟩
    obtain ⟨f', z1, z2, z3, z4, z5⟩ := laid_many (Z := wd X) hs1 k1 k2 k3 k4 (fun t ht o e => by
      obtain ⟨q, hq⟩ := pair_has k6 ht
      rw [hq] at e; cases e; exact ctB_nt rfl)
    have pd' : Paired (PK (wd X) f') kvs ws := L2.Paired.mapP pd fun _ _ z => ⟨z.1, z.2.mono z1.le⟩
    exact p1 q' (.lst (ts.map V.ref)) H' f' z1 z2 ⟨New.of k2, k5, z3, z4, items_pd pd' k6 z5, rfl⟩
  · exact p1.elim
end
end TL
end

section
set_option Elab.async false
set_option linter.all false
set_option autoImplicit false
set_option maxRecDepth 100000
/-! TL, part s: own errors raised, instances made, fields stored, hot things that become cold -/
namespace TL
open PySem PySem.Spec PyProof.Rows L2
variable [TabL]

/-! ### own errors -/
def spI1 (C : Addr) (fld : Str) : Sp := fun vs H Q E => ∃ a y, vs = [.ref a, y] ∧ H a = some (exo a C none) ∧ ∀ dx, H dx = none → dx ≠ a → Q .non (upd (upd H dx (exd dx [(fld, y)])) a (exo a C (some dx)))
section
variable {P : Program} {w : World} {K : PySem.W.Frag} {mg : Str → Option Value} {base : Heap}
theorem init_one {x qual fld par : Str} {st : Stmt} {sc : Scope} {C fI : Addr} {fd : FuncData} {k : Nat} {q1 q2 q3 q4 : Pos} (F : Fun K x qual st fI fd) (hsc : defScope st = sc) (S : FnScope ["self", par] ["self", par] (defScope st)) (hs : scOk sc = true) (v1 : visB sc "self" = true) (v2 : visB sc par = true)
    (hb : defBody st = [.Assign [.Attribute (.Name "self" q1) fld q2] (.Name par q3) q4]) (T : OexC K C) (no : PySem.W.findIn K (.ref C) fld = some none) : FnOk P w K mg base (L2.CX P w) (k + 1) fI fd ["self", par] (spI1 C fld) := by
  refine F.okX S (fun vs H Q E h => ?_) (fun cdv A outer s H vs Q E hr h => ?_)
  · obtain ⟨a, y, rfl, _⟩ := h; rfl
  · have G := gd_of (P := P) (w := w) (K := K) (mg := mg) (base := base) (E := E) (outer := outer) (H := H) hsc S hs hr
    obtain ⟨a, y, rfl, ha, q⟩ := h
    rw [hb]
    refine ⟨_, pss_one (ps_ost (G.name 0 rfl v1) (G.name 1 rfl v2)), ?_⟩
    exact ⟨y, rfl, .ref a, rfl, a, C, rfl, T, no, .inl ⟨ha, fun dx h1 h2 => q dx h1 h2⟩⟩
/-- an own error's class that keeps one thing -/
structure Ec (P : Program) (w : World) (K : PySem.W.Frag) (mg : Str → Option Value) (base : Heap) (k : Nat) (c fld : Str) : Prop where
  ex : ∃ (C fI : Addr) (fd : FuncData) (ps : List Str), mg c = some (.ref C) ∧ OexC K C ∧ PySem.W.findIn K (.ref C) "__init__" = some (some (.ref fI)) ∧ PySem.W.typeIn K (.ref fI) = some (.type "function") ∧ Binds K fd ps [] ∧ FnOk P w K mg base (L2.CX P w) k fI fd ps (spI1 C fld)
end
section
variable {X : Cx} {E : XK} {sc : Scope} {N : List Str} {k j : Nat} {df : Bool} {WL W Wn : List Kd} {pos : Pos}
def mRaise (c fld : Str) (a : M (List D)) : MS := fun ρ g => (a ρ g).st fun ds g1 => match ds with
  | [d] => .ex ⟨c, [(fld, d)]⟩ g1
  | _ => .no
theorem sx_raise (G : Gd X E sc N k df) {c fld : Str} {p pos2 : Pos} {e : Expr} {a : M (List D)} (ec : Ec X.prog X.w X.K X.mg X.base j c fld) (ha : AX X E W [e] a) (hj : j + 1 ≤ k := by omega) (hg : glB sc c = true := by rfl)
    (he : starEach [e] X.env = (false, eval e X.env) :: starEach [] X.env := by rfl) : SX X E WL W (.Raise (some (.Call (.Name c p) [e] [] pos)) none pos2) Wn (mRaise c fld a) := by
  obtain ⟨C, fI, fd, ps, hm, T, iC, tI, hb, hF⟩ := ec.ex
  have hx : Passes (L2.CX X.prog X.w) X (fun _ _ _ => False) := passes_call G.takes fun _ _ _ _ z => z.elim
  refine PS.imp (ps_raise G.calm G.takes (pmk_oex (dvs := []) (ds := []) T iC tI hF (G.room.mono hj) hb .nil hx (G.gl hg).1 hm ha (G.gl hg).2.1 he rfl)) fun ND σ H q => ?_
  obtain ⟨B, f, ρ, g, s, p⟩ := q
  refine ⟨f, ρ, g, s.sr, s.hs, postS.bindE s p fun ds g1 vs H1 f1 ex1 s1 r1 p1 => ?_⟩
  split at p1
  · rename_i d
    cases r1 with
    | cons r1 rr =>
      cases rr
      rename_i y
      refine ⟨by simp, fun a hn => ?_⟩
      refine ⟨a, y, rfl, upd_same, fun dx hdx hne => ⟨rfl, dx, [(fld, y)], upd_same, ?_, ?_, ?_⟩⟩
      · rw [upd_ne hne, upd_same]
      · rw [upd_ne hne] at hdx; exact hdx
      · have hdx1 : H1 dx = none := by rw [upd_ne hne] at hdx; exact hdx
        have eq : upd (del (upd (upd (upd H1 a (exo a C none)) dx (exd dx [(fld, y)])) a (exo a C (some dx))) a) dx (.xd [(fld, y)]) = upd H1 dx (.xd [(fld, y)]) := by
          funext b
          by_cases h1 : b = dx
          · rw [h1, upd_same, upd_same]
          · rw [upd_ne h1, upd_ne h1]
            by_cases h2 : b = a
            · rw [h2, del_same, hn]
            · rw [del_ne h2, upd_ne h2, upd_ne h1, upd_ne h2]
        rw [eq]
        have p1 : pEx (wd X) E B.H B.f ⟨c, [(fld, d)]⟩ g1 := p1
        exact p1 C dx [(fld, y)] _ f1 (s1.ex.trans (Ex.laid s1.hs hdx1)) (s1.hs.laid hdx1) hm upd_same (.cons ⟨rfl, r1⟩ .nil)
  · exact p1.elim

/-! ### instances made -/
def putFd (fld : Str) (d : D) : List (Str × D) → List (Str × D)
  | [] => [(fld, d)]
  | (n, x) :: r => if n = fld then (n, d) :: r else (n, x) :: putFd fld d r
theorem putF_pd {Z : Wd} {f : Fz} {fld : Str} {d : D} {v : V} (r : Rp Z f d v) : ∀ {fs : List (Str × D)} {ws : List (Str × V)}, Paired (PF Z f) fs ws → Paired (PF Z f) (putFd fld d fs) (putF fld v ws)
  | _, _, .nil => .cons ⟨rfl, r⟩ .nil
  | (n, x) :: fs, (n', y) :: ws, .cons q t => by
    obtain ⟨q1, q2⟩ := q
    have q1 : n = n' := q1
    subst q1
    simp only [putFd, putF]
    split
    · exact .cons ⟨rfl, r⟩ t
    · exact .cons ⟨rfl, q2⟩ (putF_pd r t)
/-- x.fld = e, x an instance of one's own -/
def mFldSet (i : Nat) (cs : List Str) (fld : Str) (m : M D) : MS := fun ρ g => (m ρ g).st fun d g1 => match ρ.getD i .non with
  | .ins c fs => if c ∈ cs ∧ fs.length < 1000 then .nx (ρ.set i (.ins c (putFd fld d fs))) g1 else .no
  | _ => .no
theorem sx_fld (G : Gd X E sc N k df) (i : Nat) {cs : List Str} {x fld : Str} {e : Expr} {m : M D} {xp p' : Pos} (hk : ∀ c ∈ cs, Kl X.K X.mg c [fld]) (he : PX X E W e m) (hN : N[i]? = some x := by rfl) (hv : visB sc x = true := by rfl) (hW : W[i]? = some .ow := by rfl) (hw : Wle Wn W = true := by rfl)
    (nl : W.all (fun q => decide (q ≠ .lk)) = true := by rfl) (hs : swapsWith e (some (.Attribute (.Name x xp) fld p')) pos.line X.env = pure false := by rfl) : SX X E WL W (.Assign [.Attribute (.Name x xp) fld p'] e pos) Wn (mFldSet i cs fld m) :=
  PS.imp (ps_fld (G.name i hN hv) he hs) fun ND σ H q => by
    obtain ⟨B, f, ρ, g, s, p⟩ := q
    refine ⟨f, ρ, g, s.sr, s.hs, postS.bind s p fun d g1 y H1 f1 l1 s1 r1 p1 => ?_⟩
    obtain ⟨a, o, e1, hF, hn, hH, ro, nz⟩ := s1.sr.slot i .ow hW
    refine ⟨_, e1, ?_⟩
    split at p1
    · rename_i c fs hd
      split at p1
      · rename_i hc
        rw [hd] at ro
        cases o <;> simp only [RpO] at ro
        rename_i C dx ws
        obtain ⟨C', hC, hcl, hno⟩ := (hk c hc.1).ex
        have e2 : X.mg c = some (.ref C) := ro.1
        rw [hC] at e2; cases e2
        refine ⟨a, _, dx, ws, rfl, hH, hcl, hno fld (by simp), by rw [← PySem.Paired.length ro.2]; exact hc.2, ?_⟩
        exact p1 σ _ f1 (Le.refl _) ((s1.mut (o := .ins _ dx _) (d := .ins c _) hW e1 ⟨ro.1, putF_pd r1 ro.2⟩ rfl nl).weak hw)
      · exact p1.elim
    · exact p1.elim
/-- what __init__ is asked -/
def spInit (Z : Wd) (n : Nat) (c : Str) (m : MF) : Sp := fun vs H Q E => ∃ H1 C dx a rest f ds g, vs = .ref a :: rest ∧ H = upd (upd H1 dx (.own a)) a (.ins C dx []) ∧ H1 a = none ∧ H1 dx = none ∧ dx ≠ a ∧ Z.mg c = some (.ref C) ∧ ds.length = n ∧ Paired (Rp Z f) ds rest ∧ Hs Z H1 f g ∧
  (match m ds g with
  | .ok d g' => ∀ o H' f', Ex H1 f H' f' → Hs Z H' f' g' → Nw Z H1 H' f' a o d → Q .non H'
  | .ex x g' => pEx Z E H1 f x g'
  | .no => False)
def RS.ini : RS → R D
  | .nx ρ g => .ok (ρ.getD 0 .non) g
  | .ex x g => .ex x g
  | _ => .no
def mInit (n : Nat) (c : Str) (b : MS) : MF := fun ds g => (b ((.ins c [] :: ds) ++ List.replicate n .non) g).ini
/-- the kinds where __init__ begins: p parameters beside self -/
def W1 (p n : Nat) : List Kd := .ow :: (List.replicate p .sh ++ List.replicate n .un)
theorem fn_init {P : Program} {w : World} {K : PySem.W.Frag} {mg : Str → Option Value} {base : Heap} {x qual c : Str} {st : Stmt} {sc : Scope} {f : Addr} {fd : FuncData} {N ps : List Str} {k p n : Nat} {b : MS} {Wn : List Kd} (F : Fun K x qual st f fd) (hsc : defScope st = sc) (S : FnScope N ps (defScope st)) (hs : scOk sc = true) (hp : ps.length = p + 1) (hn : N.length = p + 1 + n) (hW : Wn[0]? = some .ow)
    (body : ∀ (X : Cx) (E : XK), X.prog = P → X.w = w → X.K = K → X.mg = mg → X.base = base → Gd X E sc N k true → BX X E [] (W1 p n) (defBody st) Wn b) : FnOk P w K mg base (L2.CX P w) (k + 1) f fd ps (spInit ⟨K, mg, TabL.T⟩ p c (mInit n c b)) := by
  refine F.okX S (fun vs H Q E h => ?_) (fun cdv A outer s H vs Q E hr h => ?_)
  · obtain ⟨H1, C, dx, a, rest, f, ds, g, rfl, _, _, _, _, _, h1, h2, _⟩ := h
    rw [hp, List.length_cons, ← PySem.Paired.length h2, h1]
  · refine ⟨_, body _ E rfl rfl rfl rfl rfl (gd_of hsc S hs hr), ?_⟩
    obtain ⟨H1, C, dx, a, rest, f', ds, g, rfl, rfl, ha, hdx, hne, hm, h1, h2, h3, h4⟩ := h
    have hl := PySem.Paired.length h2
    have hst : L2.start N (.ref a :: rest) = (some (.ref a) :: rest.map some) ++ List.replicate n none := by
      unfold L2.start
      have e : N.length - (V.ref a :: rest).length = n := by simp; omega
      rw [e]; rfl
    have fa := h3.free ha
    have ex0 : Ex H1 f' (upd (upd H1 dx (.own a)) a (.ins C dx [])) f' := ⟨Le.refl _, fun b u hb _ nb => ⟨by rw [upd_ne (ne_of_none hb ha), upd_ne (ne_of_none hb hdx)]; exact hb, fun _ => id, nb⟩⟩
    have hs2 : Hs ⟨K, mg, TabL.T⟩ (upd (upd H1 dx (.own a)) a (.ins C dx [])) f' g := (h3.laid hdx).laid (by rw [upd_ne (Ne.symm hne)]; exact ha)
    have hlt : 0 < (W1 p n).length := by simp [W1]
    have nokk : ∀ (i : Nat) (kd : Kd), (W1 p n)[i + 1]? = some kd → kd = .sh ∨ kd = .un := fun i kd e => by
      unfold W1 at e
      rw [List.getElem?_cons_succ] at e
      have := List.mem_of_getElem? e
      rcases List.mem_append.mp this with z | z
      · exact .inl (List.mem_replicate.mp z).2
      · exact .inr (List.mem_replicate.mp z).2
    refine ⟨⟨H1, f', some a⟩, f', (.ins c [] :: ds) ++ List.replicate n D.non, g, ⟨⟨?_, ?_, fun i kd hk => ?_, fun i j b e1 e2 e3 e4 => ?_⟩, hs2, ex0, fun i b e1 e2 => ?_, fun x hx _ => by cases hx; rw [hst]; rfl⟩, ?_⟩
    · rw [hst]; simp [hl]
    · rw [hst]; unfold W1; simp; omega
    · cases i with
      | zero =>
        have : kd = .ow := by unfold W1 at hk; simpa using hk.symm
        subst this
        refine ⟨a, _, by rw [hst]; rfl, fa.1, fa.2, upd_same, ?_, rfl⟩
        exact ⟨hm, .nil⟩
      | succ i =>
        rw [hst]
        show Sl _ _ _ _ ((rest.map some ++ List.replicate n none)[i]?) ((ds ++ List.replicate n D.non).getD i .non)
        unfold W1 at hk
        rw [List.getElem?_cons_succ] at hk
        by_cases hi : i < p
        · rw [List.getElem?_append_left (by simpa using hi), List.getElem?_replicate_of_lt hi] at hk
          cases hk
          obtain ⟨y, e1, e2⟩ := getD_pd h2 (i := i) (by omega) .non
          refine ⟨y, ?_, ?_⟩
          · rw [List.getElem?_append_left (by simp; omega)]
            simp [e1]
          · rw [List.getD_eq_getElem?_getD, List.getElem?_append_left (by omega), ← List.getD_eq_getElem?_getD]
            exact e2
        · rw [List.getElem?_append_right (by simpa using hi)] at hk
          have : kd = .un := (List.mem_replicate.mp (List.mem_of_getElem? hk)).2
          subst this
          trivial
    · cases i with
      | zero =>
        cases j with
        | zero => rfl
        | succ j => rcases nokk j _ e2 with z | z <;> cases z
      | succ i => rcases nokk i _ e1 with z | z <;> cases z
    · cases i with
      | zero =>
        rw [hst] at e2
        have : b = a := by simpa using e2.symm
        subst this
        exact New.of ha
      | succ i => rcases nokk i _ e1 with z | z <;> cases z
    · cases hbd : b ((.ins c [] :: ds) ++ List.replicate n D.non) g with
      | nx ρ g' =>
        unfold mInit at h4
        rw [hbd] at h4
        simp only [RS.ini] at h4
        intro σ' H' f2 l s'
        obtain ⟨a', o, e1, hF, hnn, hH, ro, nz⟩ := s'.sr.slot 0 .ow hW
        have e2 := s'.me a rfl hW
        rw [e2] at e1; cases e1
        exact h4 o H' f2 s'.ex s'.hs ⟨New.of ha, hH, hF, hnn, ro, nz⟩
      | ex x g' =>
        unfold mInit at h4
        rw [hbd] at h4
        exact h4
      | rt _ _ => unfold mInit at h4; rw [hbd] at h4; exact h4.elim
      | ro _ _ => unfold mInit at h4; rw [hbd] at h4; exact h4.elim
      | bk _ _ => unfold mInit at h4; rw [hbd] at h4; exact h4.elim
      | ct _ _ => unfold mInit at h4; rw [hbd] at h4; exact h4.elim
      | no => unfold mInit at h4; rw [hbd] at h4; exact h4.elim
/-- an own class whose instances are made with p things -/
structure Mkc (P : Program) (w : World) (K : PySem.W.Frag) (mg : Str → Option Value) (base : Heap) (k : Nat) (c : Str) (p : Nat) (m : MF) : Prop where
  ex : ∃ (C fI : Addr) (fd : FuncData) (ps : List Str), mg c = some (.ref C) ∧ Mk K C fI ∧ Binds K fd ps [] ∧ FnOk P w K mg base (L2.CX P w) k fI fd ps (spInit ⟨K, mg, TabL.T⟩ p c m)
theorem fx_make (G : Gd X E sc N k df) {c : Str} {p : Pos} {e : Expr} {es : List Expr} {n : Nat} {m : MF} {a : M (List D)} (d : Mkc X.prog X.w X.K X.mg X.base j c n m) (ha : AX X E W (e :: es) a) (hn : AN n a) (hj : j + 1 ≤ k := by omega) (hg : glB sc c = true := by rfl)
    (he : starEach (e :: es) X.env = (false, eval e X.env) :: starEach es X.env := by rfl) (hpl : (backTo pos (starEach es X.env)).any (·.1) = false := by rfl) :
    FX X E W (.Call (.Name c p) (e :: es) [] pos) (mCall m a) := by
  obtain ⟨C, fI, fd, ps, hm, M, hb, hF⟩ := d.ex
  refine PE.imp (pe_make (dvs := []) (ds := []) M hF (G.room.mono hj) (G.gl hg).1 hm hb .nil G.pass ha (G.gl hg).2.1 he hpl) fun σ H Q q => ?_
  obtain ⟨f0, ρ, g, s, hs, p⟩ := q
  refine ⟨f0, ρ, g, s, hs, postF.bind p fun ds g1 vs H1 f1 he1 e1 hs1 r1 p1 => ?_⟩
  intro x dx hx hdx hne
  refine ⟨H1, C, dx, x, vs ++ [], f1, ds, g1, rfl, rfl, hx, hdx, hne, hm, hn _ _ _ _ he1, by rw [List.append_nil]; exact r1, hs1, ?_⟩
  cases hr : m ds g1 with
  | ok d g2 => rw [hr] at p1; exact fun o H' f' ex hs' nw => ⟨rfl, p1 x o H' f' ex hs' nw⟩
  | ex y g2 => rw [hr] at p1; exact p1
  | no => rw [hr] at p1; exact p1

/-! ### hot things that become cold -/
theorem Hs.cool {Z : Wd} {H : Hp} {f : Fz} {g : List D} {j : Nat} {d : D} (od : Obj) (hs : Hs Z H f g) (hd : g[j]? = some d) (nd : d ≠ dead) : ∃ a f', f.e[j]? = some a ∧ Ex H f (frzH od H a) f' ∧ Hs Z (frzH od H a) f' (g.set j dead) ∧ Rp Z f' d (.ref a) := by
  obtain ⟨a, o, e1, hF, hH, ro, nz⟩ := hs.hot j d hd nd
  have hm : a ∈ f.e := List.mem_of_getElem? e1
  have hj : j < g.length := (List.getElem?_eq_some_iff.mp hd).1
  refine ⟨a, TL.frz f a (fzO od o), e1, ⟨TL.frz_le hF, fun b u hb nt nb => ?_⟩, ⟨fun b u e => ?_, fun b u e => ?_, frzH_tab hs.tab, by simp [TL.frz, hs.len], fun b hb => ?_, fun i x hx ndx => ?_, hs.nd⟩, ?_⟩
  · have hne : b ≠ a := fun z => nb (z ▸ hm)
    refine ⟨by rw [frzH_ne hne]; exact hb, fun _ z => ?_, nb⟩
    show upd f.F a (fzO od o) b = none
    rw [upd_ne hne]; exact z
  · by_cases hb : b = a
    · subst hb
      rw [show (TL.frz f b (fzO od o)).F b = upd f.F b (fzO od o) b from rfl, upd_same] at e
      have e := Option.some.inj e
      subst e
      exact frzH_at hH
    · rw [show (TL.frz f a (fzO od o)).F b = upd f.F a (fzO od o) b from rfl, upd_ne hb] at e
      rw [frzH_ne hb]; exact hs.fr b u e
  · by_cases hb : b = a
    · subst hb
      rw [show (TL.frz f b (fzO od o)).F b = upd f.F b (fzO od o) b from rfl, upd_same] at e
      have e := Option.some.inj e
      subst e
      exact fzO_nt (rpO_ct ro)
    · rw [show (TL.frz f a (fzO od o)).F b = upd f.F a (fzO od o) b from rfl, upd_ne hb] at e
      exact hs.nt b u e
  · obtain ⟨u, e, nt⟩ := hs.lv b hb
    by_cases hba : b = a
    · subst hba
      exact ⟨_, frzH_at hH, fzO_nt (rpO_ct ro)⟩
    · exact ⟨u, by rw [frzH_ne hba]; exact e, nt⟩
  · have hij : j ≠ i := fun z => by
      subst z
      rw [List.getElem?_set_self hj] at hx
      cases hx; exact ndx rfl
    rw [List.getElem?_set_ne hij] at hx
    obtain ⟨b, u, k1, k2, k3, k4, k5⟩ := hs.hot i x hx ndx
    have hba : b ≠ a := fun z => by
      subst z
      have l1 := List.getElem?_eq_some_iff.mp e1
      have l2 := List.getElem?_eq_some_iff.mp k1
      exact hij ((List.getElem_inj hs.nd).mp (l1.2.trans l2.2.symm))
    refine ⟨b, u, k1, ?_, by rw [frzH_ne hba]; exact k3, rpO_mono (TL.frz_le hF) k4, k5⟩
    show upd f.F a (fzO od o) b = none
    rw [upd_ne hba]; exact k2
  · exact rp_of_rpO (od := od) (rpO_mono (TL.frz_le hF) ro) upd_same
theorem pss_frzA {sts : List Stmt} {t : TS} (h : PSs X sts t) : PSs X sts (fun ND σ H => ∃ d, ∀ od, t ND σ (frzH od H d)) := by
  refine ⟨fun pins s σ H ND I q => ?_⟩
  obtain ⟨d, q⟩ := q
  by_cases hh : ∃ ws, H d = some (.dK ws)
  · obtain ⟨ws, hh⟩ := hh
    obtain ⟨od, I2⟩ := I.lock hh trivial
    have e0 : frzH od H d = upd H d (.frz od (.dK ws)) := by simp [frzH, hh]
    exact h.run pins s σ _ ND I2 (e0 ▸ q od)
  · have e0 : frzH default H d = H := by
      unfold frzH
      split
      · rename_i ws e; exact absurd ⟨ws, e⟩ hh
      · rfl
    exact h.run pins s σ H ND I (e0 ▸ q default)
/-- the hot thing that a slot holds is hot no more -/
def mCool (i : Nat) (m : MS) : MS := fun ρ g => match ρ.getD i .non with
  | .hot j => (match g[j]? with
    | some d => if isHot d = true then .no else m (ρ.set i d) (g.set j dead)
    | none => .no)
  | _ => .no
where isHot : D → Bool
  | .hot _ => true
  | _ => false
theorem nd_of {d : D} (h : ¬ mCool.isHot d = true) : d ≠ dead := fun z => by subst z; exact h rfl
theorem bx_cool (i : Nat) {r : List Stmt} {m : MS} (h : BX X E WL W r Wn m) (hk : W[i]? = some .sh := by rfl) : BX X E WL W r Wn (mCool i m) := PSs.imp (pss_frzA h) fun ND σ H q => by
  obtain ⟨B, f, ρ, g, s, p⟩ := q
  unfold mCool at p
  split at p
  · rename_i j hj
    split at p
    · rename_i d hd
      split at p
      · exact p.elim
      · rename_i hnd
        obtain ⟨v, ev, rv⟩ := s.sr.slot i .sh hk
        rw [hj] at rv
        have hi : i < σ.length := (List.getElem?_eq_some_iff.mp ev).1
        simp only [Rp] at rv
        obtain ⟨a, rfl, ea⟩ := rv
        refine ⟨a, fun od => ?_⟩
        obtain ⟨a', f', e1, k1, k2, k3⟩ := s.hs.cool od hd (nd_of hnd)
        rw [ea] at e1; cases e1
        have s1 := (s.ext k1 k2).set_sh hi k3
        have eW : W.set i .sh = W := by
          refine List.ext_getElem? fun n => ?_
          rw [List.getElem?_set]
          split
          · rename_i z; subst z
            split
            · rw [hk]
            · rename_i z; have := (List.getElem?_eq_some_iff.mp hk).1; omega
          · rfl
        have eσ : σ.set i (some (.ref a)) = σ := by
          refine List.ext_getElem? fun n => ?_
          rw [List.getElem?_set]
          split
          · rename_i z; subst z; first | (rw [if_pos hi, ev]) | exact ev.symm
          · rfl
        rw [eW, eσ] at s1
        exact ⟨B, f', _, _, s1, postS.low p k1.le⟩
    · exact p.elim
  · exact p.elim
/-- .. that a field of an instance of one's own holds -/
def mCoolF (i : Nat) (fld : Str) (m : MS) : MS := fun ρ g => match ρ.getD i .non with
  | .ins c fs => (match fs.lookup fld with
    | some (.hot j) => (match g[j]? with
      | some d => if mCool.isHot d = true then .no else m (ρ.set i (.ins c (putFd fld d fs))) (g.set j dead)
      | none => .no)
    | _ => .no)
  | _ => .no
theorem putFd_pd {Z : Wd} {f : Fz} {fld : Str} {d : D} {v : V} (r : Rp Z f d v) : ∀ {fs : List (Str × D)} {ws : List (Str × V)}, Paired (PF Z f) fs ws → ws.lookup fld = some v → Paired (PF Z f) (putFd fld d fs) ws
  | _, _, .nil, h => by simp at h
  | (n, x) :: fs, (n', y) :: ws, .cons q t, h => by
    obtain ⟨q1, q2⟩ := q
    have q1 : n = n' := q1
    subst q1
    simp only [putFd]
    by_cases hn : n = fld
    · subst hn
      rw [if_pos rfl]
      simp [List.lookup] at h
      subst h
      exact .cons ⟨rfl, r⟩ t
    · rw [if_neg hn]
      have hne : (fld == n) = false := by simpa using fun z : fld = n => hn z.symm
      simp only [List.lookup, hne] at h
      exact .cons ⟨rfl, q2⟩ (putFd_pd r t h)
theorem bx_coolF (i : Nat) (fld : Str) {r : List Stmt} {m : MS} (h : BX X E WL W r Wn m) (hk : W[i]? = some .ow := by rfl) (nl : W.all (fun q => decide (q ≠ .lk)) = true := by rfl) : BX X E WL W r Wn (mCoolF i fld m) := PSs.imp (pss_frzA h) fun ND σ H q => by
  obtain ⟨B, f, ρ, g, s, p⟩ := q
  unfold mCoolF at p
  split at p
  · rename_i c fs hi
    split at p
    · rename_i j hl
      split at p
      · rename_i d hd
        split at p
        · exact p.elim
        · rename_i hnd
          obtain ⟨b, o, e1, hF, hn, hH, ro, nz⟩ := s.sr.slot i .ow hk
          rw [hi] at ro
          cases o <;> simp only [RpO] at ro
          rename_i C dx ws
          obtain ⟨v, hv, rv⟩ := lookF_pd ro.2 hl
          simp only [Rp] at rv
          obtain ⟨a, rfl, ea⟩ := rv
          refine ⟨a, fun od => ?_⟩
          obtain ⟨a', f', e2, k1, k2, k3⟩ := s.hs.cool od hd (nd_of hnd)
          rw [ea] at e2; cases e2
          have s1 := s.ext k1 k2
          obtain ⟨b', o', e3, hF', hn', hH', ro', nz'⟩ := s1.sr.slot i .ow hk
          rw [e1] at e3; cases e3
          have ho : o' = .ins C dx ws := by
            have := (k1.keep b _ hH (ctB_nt rfl) hn).1
            rw [hH'] at this; exact Option.some.inj this
          subst ho
          rw [hi] at ro'
          simp only [RpO] at ro'
          have s2 := s1.mut (o := .ins C dx ws) (d := .ins c (putFd fld d fs)) hk e1 ⟨ro'.1, putFd_pd k3 ro'.2 hv⟩ rfl nl
          have eH : upd (frzH od H a) b (.ins C dx ws) = frzH od H a := by
            funext n
            by_cases z : n = b
            · subst z; rw [upd_same, hH']
            · rw [upd_ne z]
          rw [eH] at s2
          exact ⟨B, f', _, _, s2, postS.low p k1.le⟩
      · exact p.elim
    · exact p.elim
  · exact p.elim
end
end TL
end

section
set_option Elab.async false
set_option linter.all false
set_option autoImplicit false
set_option maxRecDepth 100000
/-! TL, part t: several clauses with names; a lambda that is met -/
namespace TL
open PySem PySem.Spec PyProof.Rows L2
variable [TabL]

/-- what the clauses wish, each with its name's slot -/
def wManyA (K : PySem.W.Frag) (Wout : WX) (ND : Ends) : List (Value × Nat × (Addr → Value → Option Addr → TS)) → WX
  | [] => Wout
  | (c, i, ts) :: r => fun kl d σ H => ∃ b, PySem.W.exmOne K kl c = some b ∧
      (b = true → ∀ a, H a = none → ts a kl d { nx := fun σ' H' => ND.nx (σ'.set i none) H', rt := ND.rt, bk := fun σ' H' => ND.bk (σ'.set i none) H', ct := fun σ' H' => ND.ct (σ'.set i none) H' } (σ.set i (some (.ref a))) H) ∧
      (b = false → wManyA K Wout ND r kl d σ H)
inductive HdA (X : Cx) : List ExceptHandler → List (Value × Nat × (Addr → Value → Option Addr → TS)) → Prop
  | nil : HdA X [] []
  | cons {x n : Str} {c : Value} {i : Nat} {ts : Addr → Value → Option Addr → TS} {b₀ : Stmt} {suite : List Stmt} {np pos' : Pos} {hds : List ExceptHandler} {l : List (Value × Nat × (Addr → Value → Option Addr → TS))} (hc : Names X x c) (hi : X.N[i]? = some n) (hln : X.env.kindOf n = some .local)
      (hsu : ∀ (a : Addr) (oe : Obj) (cls : Value) (d : Option Addr) (pn : List (Addr × Obj)), Zc cls d oe → (∃ vs, oe.data = .fields vs) → PSs (X.suite a ((a, oe) :: pn)) (b₀ :: suite) (ts a cls d)) (r : HdA X hds l) :
      HdA X (.ExceptHandler (some (.Name x np)) (some n) (b₀ :: suite) pos' :: hds) ((c, i, ts) :: l)
section
variable {X : Cx} {body : List Stmt} {h₀ : ExceptHandler} {hds : List ExceptHandler} {l : List (Value × Nat × (Addr → Value → Option Addr → TS))} {pos : Pos} {tb : WX → TS} {Wout : WX}
theorem try_asMany (hst : X.stack = X.env :: X.outer) (hfm : X.env.frame = some X.env.locals) (tks : Takes X Wout)
    (hbd : ∀ (W : WX) (pn : List (Addr × Obj)) (xe : Value → Shared → Prop), Takes (X.tr pn xe) W → PassesOwn (model X.prog X.w) X.A X.env xe → PSs (X.tr pn xe) body (tb W))
    (hN : X.N.Nodup) (hhd : HdA X (h₀ :: hds) l) : PS X (.Try body (h₀ :: hds) [] [] pos) (fun ND σ H => tb (wManyA X.K Wout ND l) ND σ H) := by
  refine ⟨fun pins s σ H ND I h => ?_⟩
  have okx := I.ok
  have hfrm : X.A.frames = some (X.env :: X.outer) := by rw [okx.frames, hst]
  refine wpAny_Try_except ?_
  refine wpAny_mono ((hbd (wManyA X.K Wout ND l) (X.pn ++ pins) (fun e s₁ => wpAny (model X.prog X.w) X.A (noteFrame e X.env) (fun _ s₂ => wpAny (model X.prog X.w) X.A (setFlight e none) (fun _ s₃ =>
    wpAny (model X.prog X.w) X.A (handleBy e X.env (h₀ :: hds)) (SP X pins ND) X.xe s₃) X.xe s₂) X.xe s₁) (fun u s' got => ?_) PassesOwn.looking).run [] s σ H ND (I.toTry _) h) (fun f s1 hres => ?_) (fun e s1 he => he)
  · -- the catch
    obtain ⟨a, B, s0, pins', σ', H', kl, d, rfl, Jx, nbb, upp, skk, naa, oss, agg, w⟩ := got
    have J : Inv X pins σ' H' s0 := Jx.ofTry okx
    have skyx : Sky B (X.env :: X.outer) a (Zc kl d) X.env.locals s'.heap := by rw [← hst]; exact skk
    show wpAny (model X.prog X.w) X.A (noteFrame (.ref a) X.env) _ _ _
    refine Sky.land Zc.steady hfrm hfm skyx fun m3 w3 u3 => ?_
    have I3 : Inv X pins σ' H' { s' with heap := m3 } := J.landed nbb w3.1 (upp.trans u3) oss agg
    obtain ⟨ox3, vx3, ge3, gz3, gd3⟩ := w3.there
    have offFr : ∀ {h : Heap} {o : Obj} {vs : Array Value}, h.FunFrames B (X.env :: X.outer) → h.get? a = some o → o.data = .fields vs → a ∉ frs (X.env :: X.outer) := fun {h o vs} ff e dd hm => by
      obtain ⟨_, o', e', hnf⟩ := ff.mem hm
      rw [e] at e'; cases e'
      exact hnf _ dd
    have nfm := offFr w3.2.2.1 ge3 gd3
    have noL : a ≠ X.env.locals := fun z => nfm (List.mem_filterMap.mpr ⟨X.env, List.mem_cons_self, by rw [hfm, z]⟩)
    have noF : a ∉ X.fs := fun hm => by
      obtain ⟨e, he, q⟩ := List.mem_filterMap.mp hm
      exact nfm (List.mem_filterMap.mpr ⟨e, List.mem_cons_of_mem _ he, q⟩)
    have T3 := I3.suite ge3 gd3 naa noL noF
    have runs : ∀ {hds' : List ExceptHandler} {l' : List (Value × Nat × (Addr → Value → Option Addr → TS))}, HdA X hds' l' → wManyA X.K Wout ND l' kl d σ' H' →
        wpAny (model X.prog X.w) X.A (handleBy (.ref a) X.env hds') (SP X pins ND) X.xe { s' with heap := m3 } := by
      intro hds' l' hok
      induction hok with
      | nil =>
        intro w
        refine wpAny_handleBy_nil ?_
        obtain ⟨k1, k2, k3, oe, vs, T, oT, ts', he, hz, hd, h1, hr⟩ := id w3
        unfold PySem.passOn
        refine wpAny_bind (wpAny_field he hd h1 ?_)
        rw [if_neg (show ¬ ((Value.ref T == Value.none) = true) from by simp)]
        have finl : wpAny (model X.prog X.w) X.A (setFlight (.ref a) X.env.frame) (fun _ s4 => wpAny (model X.prog X.w) X.A (throw (.ref a) : Sem Flow) (SP X pins ND) X.xe s4) X.xe { s' with heap := m3 } := by
          rw [hfm]
          refine HandSPX.setFlight_upZ w3 fun m4 hh4 u4 => wpAny_throw (tks _ _ ?_)
          exact ⟨a, B, s0, pins, σ', H', kl, d, rfl, J, nbb, (upp.trans u3).trans u4, .inr (.inr (by rw [hst]; exact hh4)), naa, oss, agg, w⟩
        first
          | exact wpAny_bind (wpAny_pure (wpAny_bind finl))
          | exact wpAny_bind finl
      | @cons x n c i ts b₀ suite np pos' hds2 l2 hc hi hln hsu r ihh =>
        have hloc : Loc X.env.scope n := .inl hln
        intro w
        obtain ⟨b, eb1, isY, isN⟩ := w
        refine wpAny_handleBy_cons (codeAny_handlers_test ?_) (by intro q; cases q)
        have lookT : PySem.W.Looks (model X.prog X.w) m3 (typeOf (.ref a)) kl := fun A Q E s k q => wpAny_typeOf_ref (k _ _ ge3) (by rw [gz3.1]; exact q)
        have lookM := PySem.W.exm_one (M := model X.prog X.w) (I3.kIn) lookT eb1
        have tst : ∀ {Q : Value → Shared → Prop} {E : Value → Shared → Prop}, Q c { s' with heap := m3 } → wpAny (model X.prog X.w) (X.A.mark (some (.ref a))) (eval (.Name x np) X.env) Q E { s' with heap := m3 } := fun {Q E} q => by
          obtain ⟨hg, hdbg, hm | ⟨hm, hv, hnn⟩⟩ := hc
          · exact ld_glob (X := X.suite a ((a, ox3) :: (X.pn ++ pins))) T3 hg hm q hdbg
          · exact ld_blt (X := X.suite a ((a, ox3) :: (X.pn ++ pins))) T3 hg hm hv q hnn hdbg
        refine tst (lookM.here ?_)
        cases b with
        | true =>
          refine codeAny_handlers_suite_as ?_
          refine HandSPX.lands_againZ w3 fun m4 w4 u4 => ?_
          have I4 : Inv X pins σ' H' { s' with heap := m4 } := J.landed nbb w4.1 ((upp.trans u3).trans u4) oss agg
          obtain ⟨ox4, vx4, ge4, gz4, gd4⟩ := w4.there
          have T4 := I4.suite ge4 gd4 naa noL noF
          refine store_ok (X := X.suite a ((a, ox4) :: (X.pn ++ pins))) (v := .ref a) T4 hN hi hloc rfl (fun t5 T5 => ?_) (.inr hln)
          refine wpAny_mono ((hsu a ox4 kl d (X.pn ++ pins) gz4 ⟨_, gd4⟩).run [] t5 _ H' _ T5 (isY rfl a naa)) (fun f t6 hres => ?_) (fun _ _ z => False.elim z)
          have fin6 : ∀ {σσ : L2.St} {HH : Hp} {Q : Shared → Prop}, Inv (X.suite a ((a, ox4) :: (X.pn ++ pins))) [] σσ HH t6 → (∀ t7, Inv X pins (σσ.set i none) HH t7 → Q t7) →
              wpAny (model X.prog X.w) X.A (do bindName X.env n .none; unbindBehindTheSuite X.env n pos') (fun _ t7 => Q t7) X.xe t6 := fun {σσ HH Q} T6 hq => gone_ok (T6.unsuite okx) hN hi hln hq
          cases f with
          | next =>
            obtain ⟨σσ, HH, T6, qq⟩ := hres
            exact fin6 T6 fun t7 I7 => ⟨_, _, I7, qq⟩
          | brk =>
            obtain ⟨σσ, HH, T6, qq⟩ := hres
            exact fin6 T6 fun t7 I7 => ⟨_, _, I7, qq⟩
          | cont =>
            obtain ⟨σσ, HH, T6, qq⟩ := hres
            exact fin6 T6 fun t7 I7 => ⟨_, _, I7, qq⟩
          | ret u =>
            obtain ⟨vv, σσ, HH, T6, rr, qq⟩ := hres
            exact fin6 T6 fun t7 I7 => ⟨_, _, _, I7, rr, qq⟩
        | false =>
          show wpAny _ X.A (handleBy (.ref a) X.env hds2) _ _ _
          exact ihh (isN rfl)
    exact runs hhd w
  · cases f with
    | next =>
      obtain ⟨σ', H', Jx, q⟩ := hres
      exact wpAny_execs_nil ⟨σ', H', Jx.ofTry okx, q⟩
    | brk =>
      obtain ⟨σ', H', Jx, q⟩ := hres
      exact ⟨σ', H', Jx.ofTry okx, q⟩
    | cont =>
      obtain ⟨σ', H', Jx, q⟩ := hres
      exact ⟨σ', H', Jx.ofTry okx, q⟩
    | ret u =>
      obtain ⟨v, σ', H', Jx, r, q⟩ := hres
      exact ⟨v, σ', H', Jx.ofTry okx, r, q⟩
end

/-! ### x(lambda: e), x a def that tells what came of it -/
/-- what met hands back: the class's place, the tag, the field -/
def Wm (K : PySem.W.Frag) : List (Addr × Str × Str) → VK → XK
  | [], _ => fun _ _ _ => False
  | (C, s, fld) :: r, Q => fun cls d H' => ∃ b, PySem.W.exmOne K cls (.ref C) = some b ∧
      (b = true → cls = .ref C ∧ ∃ dd fs v, d = some dd ∧ H' dd = some (.xd fs) ∧ fs.lookup fld = some v ∧ ∀ t, H' t = none → Q (.ref t) (upd H' t (.tup [.str s, v]))) ∧ (b = false → Wm K r Q cls d H')
def TTmet (K : PySem.W.Frag) (t0 : Str) (hs : List (Addr × Str × Str)) : (XK → Hp → VK → Prop) → Hp → VK → Prop := fun tl H Q =>
  tl (Wm K hs Q) H (fun v H' => [V.str t0, v].length ≤ sizeLine ∧ ∀ t, H' t = none → Q (.ref t) (upd H' t (.tup [.str t0, v])))
/-- the clauses: class, tag, field -/
inductive HdM (e : Str) : List ExceptHandler → List (Str × Str × Str) → Prop
  | nil : HdM e [] []
  | cons {c s fld : Str} {j kk : Nat} {np pos' q1 q2 q3 q4 q5 : Pos} {hds : List ExceptHandler} {l : List (Str × Str × Str)} (r : HdM e hds l) :
      HdM e (.ExceptHandler (some (.Name c np)) (some e) [.Return (some (.Tuple [.Constant (.str s) j q1, .Attribute (.Name e q2) fld q3] kk q4)) q5] pos' :: hds) ((c, s, fld) :: l)
/-- what the text says of a clause's class -/
def FcM (K : PySem.W.Frag) (mg : Str → Option Value) (sg : Scope) (p : Str × Str × Str) (q : Addr × Str × Str) : Prop := mg p.1 = some (.ref q.1) ∧ q.2 = p.2 ∧ XfC K q.1 ∧ PySem.W.findIn K (.ref q.1) p.2.2 = some none ∧ glB sg p.1 = true
section
variable {X : Cx}
def tsM (ie : Nat) (q : Addr × Str × Str) : Addr → Value → Option Addr → TS := fun a cls d => tRet (tTup (tCons (tC (.str q.2.1)) (tCons (tXf a cls d q.1 q.2.2 (tVar ie)) tNil)))
theorem hdA_of {Y : Cx} {sg : Scope} {e : Str} {ie : Nat} (hsc : Y.env.scope = sg) (ok : scOk sg = true) (hi : Y.N[ie]? = some e) (hl : locB false sg e = true) : ∀ {hds : List ExceptHandler} {l : List (Str × Str × Str)} {cs : List (Addr × Str × Str)}, HdM e hds l → Paired (FcM Y.K Y.mg sg) l cs →
    HdA Y hds (cs.map fun q => (.ref q.1, ie, tsM ie q))
  | _, _, _, .nil, .nil => .nil
  | _, _, _, .cons r, .cons (b := q) h t => by
    obtain ⟨h1, h2, h3, h4, h5⟩ := h
    have ll : sg.names.lookup e = some .local := by
      unfold locB at hl
      split at hl <;> first | assumption | cases hl
    have nm := names_ok ok ll
    have gl : ∀ c, glB sg c = true → Gl Y c ∧ (c == ("__debug__" : Str)) = false := fun c hc => by
      unfold glB at hc
      split at hc
      · rename_i z
        exact ⟨by show Y.env.scope.names.lookup c = _; rw [hsc]; exact z, bne_of (names_ok ok z).1⟩
      · cases hc
    obtain ⟨C, s', fld'⟩ := q
    cases h2
    refine .cons ⟨(gl _ h5).1, (gl _ h5).2, .inl h1⟩ hi (by show Y.env.scope.names.lookup e = _; rw [hsc]; exact ll) (fun a oe cls d pn hz hf => ?_) (hdA_of hsc ok hi hl r t)
    refine pss_one (ps_ret (pe_tup (pa_cons pe_str (pa_cons (pe_xf h3 h4 hz hf (pe_var (X := Y.suite a ((a, oe) :: pn)) (i := ie) hi (by show Vis Y.env.scope e; rw [hsc]; exact .inl ll) (bne_of nm.1) (bne_of nm.2.1))) pa_nil))))
theorem wm_many {K : PySem.W.Frag} {ie : Nat} {ND : Ends} {σ : L2.St} {cls : Value} {d : Option Addr} {H' : Hp} (hlen : ie < σ.length) : ∀ (cs : List (Addr × Str × Str)), Wm K cs ND.rt cls d H' → wManyA K (fun _ _ _ _ => False) ND (cs.map fun q => (.ref q.1, ie, tsM ie q)) cls d σ H'
  | [], h => h
  | (C, s, fld) :: r, ⟨b, h1, h2, h3⟩ => by
    refine ⟨b, h1, fun hb a ha => ?_, fun hb => wm_many hlen r (h3 hb)⟩
    obtain ⟨e1, dd, fs, v, e2, e3, e4, q⟩ := h2 hb
    refine ⟨.ref a, by rw [List.getElem?_set_self hlen], rfl, e1, dd, fs, v, e2, e3, e4, by show 2 ≤ sizeLine; decide, fun t ht => q t ht⟩
theorem met_gives {Ng : List Str} {x a e q t0 : Str} {sg : Scope} {g : Addr} {cdg : Value} {ie j kk : Nat} {hds : List ExceptHandler} {h₀ : ExceptHandler} {l : List (Str × Str × Str)} {cs : List (Addr × Str × Str)} {p1 p2 p3 p4 p5 p8 : Pos} (ok : scOk sg = true) (nd : Ng.Nodup) (hi : Ng[ie]? = some e) (hl : locB false sg e = true) (h1 : 1 < Ng.length)
    (HM : HdM e (h₀ :: hds) l) (hc : Paired (FcM X.K X.mg sg) l cs) (h0 : ∀ f : Addr, (L2.start Ng [V.ref f])[0]? = some (some (V.ref f))) :
    LamX.GivesTo X Ng x sg g cdg [.Try [.Return (some (.Tuple [.Constant (.str t0) j p5, .Call (.Name a p1) [] [] p2] kk p4)) p3] (h₀ :: hds) [] [] p8] a q (TTmet X.K t0 cs) := by
  intro f c' s H Q tl act hcc h
  refine ⟨_, pss_one (try_asMany (X := (cxOf C8.CX0 X.prog X.w X.K X.mg X.base Ng x sg g cdg X.A X.stack s H C8.E0).nox) (Wout := fun _ _ _ _ => False)
      (tb := fun W ND σ H => ∃ Ech : XK, (∀ cls d σ' H', σ'.length = Ng.length → Ech cls d H' → W cls d σ' H') ∧ σ[0]? = some (some (.ref f)) ∧ H c' = some (LamX.CodeO c' q) ∧ tl Ech H (fun v H' => [V.str t0, v].length ≤ sizeLine ∧ ∀ t, H' t = none → ND.rt (.ref t) (upd H' t (.tup [.str t0, v]))))
      rfl rfl LamX.takes0 (fun W pn xe tk _ => ?_) nd (hdA_of (Y := (cxOf C8.CX0 X.prog X.w X.K X.mg X.base Ng x sg g cdg X.A X.stack s H C8.E0).nox) rfl ok hi hl HM hc)), ?_⟩
  · refine ⟨fun pins s' σ H' ND I h' => ?_⟩
    obtain ⟨Ech, hW, k1, k2, k3⟩ := h'
    have tk2 : Takes ((cxOf C8.CX0 X.prog X.w X.K X.mg X.base Ng x sg g cdg X.A X.stack s H C8.E0).tr pn xe) (fun cls d σ' H' => σ'.length = Ng.length → W cls d σ' H') := fun u s2 ⟨a, B, sI, pn2, σ2, H2, cls, d, e2, I2, nb, up, sky, na, os, ag, w⟩ =>
      tk u s2 ⟨a, B, sI, pn2, σ2, H2, cls, d, e2, I2, nb, up, sky, na, os, ag, w I2.len⟩
    have hp := act _ pn xe Ech p1 p2 tk2 (fun cls d σ' H' h hl => hW cls d σ' H' hl h)
    have hq := pss_one (ps_ret (pos := p3) (pe_tup (x1 := kk) (pos := p4) (pa_cons (pe_str (x := t0) (j := j) (pos := p5)) (pa_cons hp pa_nil))))
    exact hq.run pins s' σ H' ND I ⟨k1, k2, k3⟩
  · refine ⟨Wm X.K cs Q, fun cls d σ' H' hlen hw => wm_many ?_ cs hw, h0 f, hcc, h⟩
    rw [hlen]
    exact (List.getElem?_eq_some_iff.mp hi).1
end

section
variable {X : Cx} {E : XK} {sc : Scope} {N : List Str} {k : Nat} {df : Bool} {W : List Kd} {pos : Pos}
/-- what is known where a lambda's body runs -/
theorem gd_lam (G : Gd X E sc N k df) {A : Around} {outer : List Env} {s : Shared} {H : Hp} {E' : XK} {scope : Scope} {f c' : Addr} {k' : Nat} (hr : Room k' (A.deeper (LamX.lamEnv X scope s.heap.objs.size f c'))) (ok : scOk scope = true) : Gd (LamX.lamCx X A outer s H E' scope f c') E' scope N k' false := by
  have tk : Takes (LamX.lamCx X A outer s H E' scope f c') (fun cls d _ H => E' cls d H) := takes_of rfl rfl rfl rfl
  exact ⟨G.N_, rfl, G.nd, rfl, hr, passes_call tk fun _ _ _ _ h => h, passes_of rfl, tk, fun h => (nomatch h), ok⟩
def metX (es : List Str) : List (Str × Str × Str) → Exc → List D → R D
  | [], _, _ => .no
  | (c, s, fld) :: r, x, g => if x.c ∈ es then (if x.c = c then (match x.fs.lookup fld with | some v => .ok (.tup [.str s, v]) g | none => .no) else metX es r x g) else .no
def mMet (es : List Str) (t0 : Str) (l : List (Str × Str × Str)) (m : M D) : M D := fun ρ g => match m ρ g with
  | .ok d g' => .ok (.tup [.str t0, d]) g'
  | .ex x g' => metX es l x g'
  | .no => .no
/-- the classes that may come -/
def EiM (K : PySem.W.Frag) (mg : Str → Option Value) (es : List Str) (l : List (Str × Str × Str)) : Prop := ∀ c ∈ es, ∀ q ∈ l, ∀ Cx Cq, mg c = some (.ref Cx) → mg q.1 = some (.ref Cq) → PySem.W.exmOne K (.ref Cx) (.ref Cq) = some (decide (c = q.1))
theorem metX_wm {Z : Wd} {E : XK} {H : Hp} {f : Fz} {es : List Str} {Q : VK} {x : Exc} {g' : List D} {C dd : Addr} {ws : List (Str × V)} {H' : Hp} {f' : Fz} (ex : Ex H f H' f') (hs : Hs Z H' f' g') (hm : Z.mg x.c = some (.ref C)) (hd : H' dd = some (.xd ws)) (hr : Paired (PF Z f') x.fs ws) {sg : Scope} : ∀ {l : List (Str × Str × Str)} {cs : List (Addr × Str × Str)}, EiM Z.K Z.mg es l → Paired (FcM Z.K Z.mg sg) l cs → post (relD Z) Z E H f (metX es l x g') Q → Wm Z.K cs Q (.ref C) (some dd) H'
  | _, _, _, .nil, p => p.elim
  | (c, s, fld) :: l, (Cq, s', fld') :: cs, ei, .cons h t, p => by
    obtain ⟨h1, h2, _⟩ := h
    cases h2
    unfold metX at p
    split at p
    · rename_i hes
      have e1 := ei x.c hes (c, s, fld) (by simp) C Cq hm h1
      refine ⟨_, e1, fun hb => ?_, fun hb => ?_⟩
      · have hc : x.c = c := of_decide_eq_true hb
        rw [if_pos hc] at p
        have eC : C = Cq := by
          have h1' : Z.mg c = some (.ref Cq) := h1
          rw [hc, h1'] at hm; cases hm; rfl
        subst eC
        split at p
        · rename_i v hv
          obtain ⟨w, hw, rw'⟩ := lookF_pd hr hv
          refine ⟨rfl, dd, ws, w, rfl, hd, hw, fun u hu => ?_⟩
          exact post_tup (post.ext p ex) hs (.cons (by simp only [Rp]) (.cons rw' .nil)) hu
        · exact p.elim
      · have hc : x.c ≠ c := of_decide_eq_false hb
        rw [if_neg hc] at p
        exact metX_wm ex hs hm hd hr (fun c hc q hq => ei c hc q (by simp [hq])) t p
    · exact p.elim
theorem ext_tab {Z : Wd} {H H1 : Hp} {f : Fz} {g : List D} (hs : Hs Z H f g) (e : LamX.ExtN H H1) (t : LamX.Tabs Z.T H1) : Ex H f H1 f ∧ Hs Z H1 f g :=
  ⟨⟨Le.refl f, fun a o h nt nh => ⟨e a o h nt, fun _ => id, nh⟩⟩, ⟨fun a o h => e a o (hs.fr a o h) (hs.nt a o h), hs.nt, t, hs.len, fun a h => by
    obtain ⟨o, ho, nt⟩ := hs.lv a h
    exact ⟨o, e a o ho nt, nt⟩, fun i d hi nd => by
    obtain ⟨a, o, e1, e2, e3, e4, e5⟩ := hs.hot i d hi nd
    exact ⟨a, o, e1, e2, e a o e3 (rpO_nt e4), e4, e5⟩, hs.nd⟩⟩
/-- the def that meets -/
structure MetD (K : PySem.W.Frag) (mg : Str → Option Value) (x a t0 : Str) (l : List (Str × Str × Str)) (es : List Str) : Prop where
  ex : ∃ (g : Addr) (st : Stmt) (fd : FuncData) (sg : Scope) (Ng : List Str) (e : Str) (ie j kk : Nat) (h₀ : ExceptHandler) (hds : List ExceptHandler) (cs : List (Addr × Str × Str)) (p1 p2 p3 p4 p5 p8 : Pos),
    mg x = some (.ref g) ∧ Fun K x x st g fd ∧ Binds K fd [a] [] ∧ defScope st = sg ∧ FnScope Ng [a] (defScope st) ∧ Ng[0]? = some a ∧ visB sg a = true ∧ scOk sg = true ∧ Ng.Nodup ∧ Ng[ie]? = some e ∧ locB false sg e = true ∧ 1 < Ng.length ∧
    defBody st = [.Try [.Return (some (.Tuple [.Constant (.str t0) j p5, .Call (.Name a p1) [] [] p2] kk p4)) p3] (h₀ :: hds) [] [] p8] ∧ HdM e (h₀ :: hds) l ∧ Paired (FcM K mg sg) l cs ∧ EiM K mg es l
theorem px_met (G : Gd X E sc N k df) {x a t0 : Str} {l : List (Str × Str × Str)} {es : List Str} {c P : Addr} {q : Str} {params : Arguments} {body : Expr} {scope : Scope} {p lpos : Pos} {m : M D} {k' : Nat} (md : MetD X.K X.mg x a t0 l es)
    (TB : LamX.TabB X.base X.mg c P) (hcode : X.env.code = .ref c) (hq : X.env.qual ++ "<lambda>" = q) (hT : (P, q) ∈ TabL.T) (hu : ∀ p ∈ TabL.T, p.1 = P → p.2 = q)
    (hb : ∀ (A : Around) (outer : List Env) (s : Shared) (H : Hp) (E' : XK) (f c' : Addr), Room k' (A.deeper (LamX.lamEnv X scope s.heap.objs.size f c')) → PX (LamX.lamCx X A outer s H E' scope f c') E' W body m)
    (hk : k' + 2 ≤ k := by omega) (hL : LamX.lamSB sc scope = true := by rfl) (hdef : defaultsOf params X.env = ([], []) := by rfl)
    (hbind : ∀ (q : Str) (cl : List (Str × Addr)) (pm cv ctv : Value), bindArgs (PySem.W.kla_fn "<lambda>" q params body scope cl pm cv ctv) ⟨[], []⟩ = pure [] := by intros; rfl) (hg : glB sc x = true := by rfl) :
    PX X E W (.Call (.Name x p) [.Lambda params body scope lpos] [] pos) (mMet es t0 l m) := by
  obtain ⟨g, st, fd, sg, Ng, e, ie, j, kk, h₀, hds, cs, p1, p2, p3, p4, p5, p8, hm, F, hbn, hsg, Sg, hN0, hva, ok, nd, hi, hl, h1, hbd, HM, hc, ei⟩ := md.ex
  obtain ⟨oc, od, kV, doc, pm, an, cdv, ct, osl, rfl, lk, hcd⟩ := F.ex
  have va := vis_of hva
  obtain ⟨ka, hka⟩ : ∃ ka, sg.names.lookup a = some ka := by
    rcases va with h | h | h <;> exact ⟨_, h⟩
  have nm := names_ok ok hka
  have h0 : ∀ f : Addr, (L2.start Ng [V.ref f])[0]? = some (some (V.ref f)) := fun f => by
    unfold L2.start; rfl
  subst hq
  have hG := met_gives (X := X) (x := x) (a := a) (q := X.env.qual ++ "<lambda>") (g := g) (cdg := cdv) (t0 := t0) (j := j) (kk := kk) (p1 := p1) (p2 := p2) (p3 := p3) (p4 := p4) (p5 := p5) (p8 := p8) ok nd hi hl h1 HM hc h0
  rw [hsg] at Sg
  rw [hbd, hsg] at lk
  rw [hbd, hsg] at hbn
  refine PE.imp (LamX.pe_lamcall (t := fun E' => tE (wd X) E' W m) (T := TabL.T) (G.gl hg).1 hm F.kp lk hcd hbn Sg hN0 va hG TB hcode hT hu (G.room.mono hk) (LamX.lamS_by (by rw [G.sc_]; exact hL)) hdef hbind (fun A outer s H E' f c' hr => hb A outer s H E' f c' hr) (G.gl hg).2.1 (bne_of nm.1) (bne_of nm.2.1)) fun σ H Q q => ?_
  obtain ⟨f, ρ, gg, s, hs, p⟩ := q
  refine ⟨hs.tab, fun H1 eN T1 => ?_⟩
  obtain ⟨k1, k2⟩ := ext_tab (Z := wd X) hs eN T1
  refine ⟨f, ρ, gg, s.ext k1, k2, ?_⟩
  unfold mMet at p
  cases hr : m ρ gg with
  | ok d g' =>
    rw [hr] at p
    intro v H' f' ex' hs' rv
    refine ⟨by show 2 ≤ sizeLine; decide, fun t ht => ?_⟩
    exact post_tup (E := E) (post.ext p (k1.trans ex')) hs' (.cons (by simp only [Rp]) (.cons rv .nil)) ht
  | ex y g' =>
    rw [hr] at p
    intro C dd ws H' f' ex' hs' hm' hd hrr
    exact metX_wm (Z := wd X) (E := E) (k1.trans ex') hs' hm' hd hrr ei hc p
  | no => rw [hr] at p; exact p.elim
end
end TL
end

section
set_option Elab.async false
set_option linter.all false
set_option autoImplicit false
set_option maxRecDepth 100000
/-! TL, part u: comprehensions' blocks, the head's facts -/
namespace TL
open PySem PySem.Spec PyProof.Rows L2
variable [TabL]
section
variable {X : Cx} {E : XK} {sc : Scope} {N : List Str} {k : Nat} {df : Bool} {WL W Wn : List Kd} {pos : Pos}
theorem gd_blk (G : Gd X E sc N k df) {s : Shared} {H : Hp} {scope : Scope} {C : Addr} {cl : List (Str × Addr)} {fp : List Addr} (ok : scOk (relS scope sc) = true := by rfl) : Gd (X.blk s H scope (compEnvC scope cl C X.env) fp) EN (relS scope sc) N k false := by
  refine ⟨G.N_, ?_, G.nd, G.calm, G.room, fun pins σ H s e s' I c => ?_, PassesOwn.never, fun u s' x => ?_, fun h => (nomatch h), ok⟩
  · rw [← G.sc_]; rfl
  · obtain ⟨a, B, H', cls, d, _, _, _, _, _, _, _, e⟩ := c
    exact e
  · obtain ⟨a, B, sI, pins, σ, H, cls, d, e, I, nb, up, sky, na, os, ag, w⟩ := x
    exact w
theorem Gd.blkOk (G : Gd X E sc N k df) {scope : Scope} {own : List (Str × Nat)} (h : blkC N sc scope own = true) : BlkOk X.N X.env.scope scope own := by
  rw [G.N_, G.sc_]; exact blkOk_by h
theorem Gd.nth (G : Gd X E sc N k df) {i : Nat} {x : Str} (h : N[i]? = some x) : X.N[i]? = some x := by rw [G.N_]; exact h
theorem Gd.locl (G : Gd X E sc N k df) {x : Str} (h : locB false sc x = true) : X.env.scope.names.lookup x = some .local := by
  rw [G.sc_]
  unfold locB at h
  split at h
  · assumption
  · cases h
  · cases h
theorem Gd.swaps (G : Gd X E sc N k df) {e : Expr} {t : Option Expr} {l : Nat} (h : ∀ a g c qu f cd fr b, swapsWith e t l ⟨sc, a, g, c, qu, f, cd, fr, b⟩ = pure true) : swapsWith e t l X.env = pure true := scope_of (F := fun en => swapsWith e t l en) G.sc_ h
/-- a name that stands for one thing of the module's -/
structure Cst (K : PySem.W.Frag) (mg : Str → Option Value) (x : Str) (d : D) : Prop where
  ex : ∃ (v : V) (u : Value), mg x = some u ∧ RelV v u ∧ ∀ f, Rp ⟨K, mg, TabL.T⟩ f d v
theorem px_glb (G : Gd X E sc N k df) {x : Str} {d : D} (c : Cst X.K X.mg x d) (hg : glB sc x = true := by rfl) : PX X E W (.Name x pos) (mC d) := by
  obtain ⟨v, u, hm, r, h⟩ := c.ex
  exact px_const (pe_glob (G.gl hg).1 hm r (G.gl hg).2.1) h
theorem cst_str {K : PySem.W.Frag} {mg : Str → Option Value} {x s : Str} {t : Tok} (h : mg x = some (.str s t)) : Cst K mg x (.str s) := ⟨.str s, .str s t, h, ⟨t, rfl⟩, fun f => by simp only [Rp]⟩
theorem cst_fn {K : PySem.W.Frag} {mg : Str → Option Value} {x : Str} {a : Addr} (h : mg x = some (.ref a)) : Cst K mg x (.fn x) := ⟨.ref a, .ref a, h, by first | rfl | constructor, fun f => by simp only [Rp]; exact ⟨a, rfl, h⟩⟩
/-- () -/
theorem px_tup0 {x1 : Nat} : PX X E W (.Tuple [] x1 pos) (mL mNil kTup) := px_tup ax_nil
end
/-! ### defs of the module -/
structure Dd (K : PySem.W.Frag) (mg : Str → Option Value) (x qual : Str) (st : Stmt) (ps : List Str) : Prop where
  ex : ∃ (f : Addr) (fd : FuncData), mg x = some (.ref f) ∧ Fun K x qual st f fd ∧ Binds K fd ps []
structure Di (K : PySem.W.Frag) (mg : Str → Option Value) (c qual : Str) (st : Stmt) (ps : List Str) : Prop where
  ex : ∃ (C f : Addr) (fd : FuncData), mg c = some (.ref C) ∧ Mk K C f ∧ Fun K "__init__" qual st f fd ∧ Binds K fd ps []
section
variable {P : Program} {w : World} {K : PySem.W.Frag} {mg : Str → Option Value} {base : Heap} {x qual c : Str} {st : Stmt} {ps N : List Str} {k p n : Nat} {b : MS} {Wn : List Kd}
theorem Dd.v (d : Dd K mg x qual st ps) : Cst K mg x (.fn x) := by
  obtain ⟨f, fd, hm, _⟩ := d.ex
  exact cst_fn hm
theorem Dd.fn (d : Dd K mg x qual st ps) (S : FnScope N ps (defScope st)) (hs : scOk (defScope st) = true) (hp : ps.length = p) (hn : N.length = p + n)
    (body : ∀ (X : Cx) (E : XK), X.prog = P → X.w = w → X.K = K → X.mg = mg → X.base = base → Gd X E (defScope st) N k true → BX X E [] (W0 p n) (defBody st) Wn b) : Df P w K mg base (k + 1) x p (mFn n b) := by
  obtain ⟨f, fd, hm, F, hb⟩ := d.ex
  exact ⟨f, fd, ps, hp, hm, F.kp, hb, fn_ok F rfl S hs hp hn body⟩
theorem Dd.fnF (d : Dd K mg x qual st ps) (S : FnScope N ps (defScope st)) (hs : scOk (defScope st) = true) (hp : ps.length = p) (hn : N.length = p + n)
    (body : ∀ (X : Cx) (E : XK), X.prog = P → X.w = w → X.K = K → X.mg = mg → X.base = base → Gd X E (defScope st) N k true → BX X E [] (W0 p n) (defBody st) Wn b) : DfF P w K mg base (k + 1) x p (mFnF n b) := by
  obtain ⟨f, fd, hm, F, hb⟩ := d.ex
  exact ⟨f, fd, ps, hp, hm, F.kp, hb, fn_okF F rfl S hs hp hn body⟩
theorem Dd.fnD (d : Dd K mg x qual st ps) (S : FnScope N ps (defScope st)) (hs : scOk (defScope st) = true) (hp : ps.length = p) (hn : N.length = p + n)
    (body : ∀ (X : Cx) (E : XK), X.prog = P → X.w = w → X.K = K → X.mg = mg → X.base = base → Gd X E (defScope st) N k true → BX X E [] (W0 p n) (defBody st) Wn b) : Df P w K mg base (k + 1) x p (mDrop (mFn n b)) := by
  obtain ⟨f, fd, hm, F, hb⟩ := d.ex
  exact ⟨f, fd, ps, hp, hm, F.kp, hb, (fn_ok F rfl S hs hp hn body).imp fun _ _ _ _ q => spT_drop q⟩
theorem Dd.fnFD (d : Dd K mg x qual st ps) (S : FnScope N ps (defScope st)) (hs : scOk (defScope st) = true) (hp : ps.length = p) (hn : N.length = p + n)
    (body : ∀ (X : Cx) (E : XK), X.prog = P → X.w = w → X.K = K → X.mg = mg → X.base = base → Gd X E (defScope st) N k true → BX X E [] (W0 p n) (defBody st) Wn b) : DfF P w K mg base (k + 1) x p (mDrop (mFnF n b)) := by
  obtain ⟨f, fd, hm, F, hb⟩ := d.ex
  exact ⟨f, fd, ps, hp, hm, F.kp, hb, (fn_okF F rfl S hs hp hn body).imp fun _ _ _ _ q => spF_drop q⟩
theorem Dd.no (d : Dd K mg x qual st ps) (hp : ps.length = p) : Df P w K mg base k x p (fun _ _ => .no) := by
  obtain ⟨f, fd, hm, F, hb⟩ := d.ex
  refine ⟨f, fd, ps, hp, hm, F.kp, hb, ⟨fun vs H Q E q => ?_, fun A outer s H args us vs Q E _ _ _ _ q => ?_⟩⟩
  · obtain ⟨_, _, _, _, _, _, q⟩ := q
    exact q.elim
  · obtain ⟨_, _, _, _, _, _, q⟩ := q
    exact q.elim
theorem Di.mkI (d : Di K mg c qual st ps) (S : FnScope N ps (defScope st)) (hs : scOk (defScope st) = true) (hp : ps.length = p + 1) (hn : N.length = p + 1 + n) (hW : Wn[0]? = some .ow)
    (body : ∀ (X : Cx) (E : XK), X.prog = P → X.w = w → X.K = K → X.mg = mg → X.base = base → Gd X E (defScope st) N k true → BX X E [] (W1 p n) (defBody st) Wn b) : Mkc P w K mg base (k + 1) c p (mInit n c b) := by
  obtain ⟨C, f, fd, hm, M, F, hb⟩ := d.ex
  exact ⟨C, f, fd, ps, hm, M, hb, fn_init F rfl S hs hp hn hW body⟩
end
structure Eci (K : PySem.W.Frag) (mg : Str → Option Value) (c fld par qual : Str) (st : Stmt) : Prop where
  ex : ∃ (C fI : Addr) (fd : FuncData), mg c = some (.ref C) ∧ OexC K C ∧ PySem.W.findIn K (.ref C) "__init__" = some (some (.ref fI)) ∧ PySem.W.typeIn K (.ref fI) = some (.type "function") ∧ Binds K fd ["self", par] [] ∧ Fun K "__init__" qual st fI fd ∧ PySem.W.findIn K (.ref C) fld = some none
section
variable {P : Program} {w : World} {K : PySem.W.Frag} {mg : Str → Option Value} {base : Heap} {c fld par qual : Str} {st : Stmt} {k : Nat} {q1 q2 q3 q4 : Pos}
theorem Eci.e (h : Eci K mg c fld par qual st) (S : FnScope ["self", par] ["self", par] (defScope st)) (hs : scOk (defScope st) = true) (v1 : visB (defScope st) "self" = true) (v2 : visB (defScope st) par = true)
    (hb : defBody st = [.Assign [.Attribute (.Name "self" q1) fld q2] (.Name par q3) q4]) : Ec P w K mg base (k + 1) c fld := by
  obtain ⟨C, fI, fd, hm, T, h1, h2, hB, F, no⟩ := h.ex
  exact ⟨C, fI, fd, _, hm, T, h1, h2, hB, init_one F rfl S hs v1 v2 hb T no⟩
end
/-! ### stored comprehensions -/
section
variable {X : Cx} {E : XK} {sc : Scope} {N : List Str} {k : Nat} {df : Bool} {WL W Wn : List Kd} {pos : Pos}
theorem sx_setF {i : Nat} {st : Stmt} {m : M D} (h : PS X st (tAsg (tF (wd X) E W m) (gName i))) (hi : i < W.length := by decide) (i0 : 0 < i := by decide) (hw : Wle Wn (W.set i .ow) = true := by rfl) : SX X E WL W st Wn (mSet i m) := sx_own' h hi i0 hw
end
end TL
end

section
set_option Elab.async false
set_option linter.all false
set_option autoImplicit false
set_option maxRecDepth 100000
/-! TL, part v: == of dicts, of own things -/
namespace TL
open PySem PySem.Spec PyProof.Rows L2
variable [TabL]
/-! ### == of dicts -/
inductive HitV (K : PySem.W.Frag) (H : Hp) (ls : List (Key × V)) : List (Key × V) → Bool → Prop
  | nil : HitV K H ls [] true
  | miss {k : Key} {v : V} {r : List (Key × V)} : valV ls k = none → HitV K H ls ((k, v) :: r) false
  | hit {k : Key} {v y : V} {r : List (Key × V)} {b : Bool} {p q : PyData} : valV ls k = some y → Dp K H v p → Dp K H y q → SeqAt.shaped p = true → SeqAt.shaped q = true → HitV K H ls r b → HitV K H ls ((k, v) :: r) (PyData.eqv p q && b)
section
variable {X : Cx}
theorem hitV_run {pins : List (Addr × Obj)} {σ : L2.St} {H : Hp} {s : Shared} (I : Inv X pins σ H s) {A : Around} (hu : A.units + 64 < cLine) {ls : List (Key × V)} {vb : List (Key × Value)} (rb : KV ls vb) : ∀ {ks : List (Key × V)} {b : Bool} {va : List (Key × Value)}, HitV X.K H ls ks b → KV ks va → PySem.W.KeqHitsP X.prog X.w A s vb va b
  | [], _, _, .nil, ra => by unfold KV at ra; cases ra; exact .nil
  | (k, v) :: r, _, _, .miss h, ra => by
    unfold KV at ra
    cases ra with
    | @cons p q ps qs h1 t =>
      obtain ⟨e, _⟩ := h1
      obtain ⟨key, u⟩ := q
      have rr : RelO (valV ls k) (valueAt vb k) := rb.val k
      rw [h] at rr
      have e' : k = key := e
      rw [e'] at rr
      cases hv : valueAt vb key with
      | none => exact .miss hv
      | some z => rw [hv] at rr; exact rr.elim
  | (k, v) :: r, _, _, .hit (y := y) (p := p0) (q := q0) h dp dq sp sq t', ra => by
    unfold KV at ra
    cases ra with
    | @cons p q ps qs h1 t =>
      obtain ⟨e, rv⟩ := h1
      obtain ⟨key, u⟩ := q
      have rr : RelO (valV ls k) (valueAt vb k) := rb.val k
      rw [h] at rr
      obtain ⟨z, hz, rz⟩ := rr.some_of
      have e' : k = key := e
      rw [e'] at hz
      obtain ⟨as, r1⟩ := Dp.reads I p0 v u dp rv
      obtain ⟨bs, r2⟩ := Dp.reads I q0 y z dq rz
      exact .hit hz (SeqAt.EqAt.eqP (SeqAt.eqAt_reads _ _ A s _ _ _ _ r1 r2 (SeqAt.canLay_of_shaped sp) (SeqAt.canLay_of_shaped sq) (SeqAt.room_of_shaped sp hu))) (hitV_run I hu rb t' t)
def rEqDct (K : PySem.W.Frag) : R2 := fun x y H Q => ∃ a b ks ls r, x = .ref a ∧ y = .ref b ∧ Rd H a (.dK ks) ∧ Rd H b (.dK ls) ∧ (ks.length = ls.length → HitV K H ls ks r) ∧ Q (.bl (ks.length == ls.length && r)) H
theorem op_eqDct (hu : X.A.units + 65 < cLine) : OpR X (compareOp .Eq) (rEqDct X.K) := by
  intro pins s σ H x y v u Q I rx ry h
  obtain ⟨a, b, ks, ls, r, rfl, rfl, ha, hb, hh, q⟩ := h
  cases (show v = Value.ref a from rx)
  cases (show u = Value.ref b from ry)
  obtain ⟨_, ya, va, ra, da⟩ := (show ObjOk X.prog X.w H s.heap a (.dK ks) from ha.ok I.hok)
  obtain ⟨_, yb, vb, rb, db⟩ := (show ObjOk X.prog X.w H s.heap b (.dK ls) from hb.ok I.hok)
  show wpAny (model X.prog X.w) X.A (richCompare .Eq (.ref a) (.ref b)) _ _ s
  have e1 : va.length = ks.length := ra.length.symm
  have e2 : vb.length = ls.length := rb.length.symm
  refine PySem.W.rcP_dicts (knd := mixKind X.prog X.w) (r := r) ya yb da db (by omega) (fun e => hitV_run I (A := X.A.in1) (by show X.A.units + 1 + 64 < _; omega) rb (hh (by omega)) ra) _ _ ?_
  rw [e1, e2]
  exact ⟨.bl _, H, I, rfl, q⟩
end
def hitD (ls : List (Key × D)) : List (Key × D) → Option Bool
  | [] => some true
  | (k, d) :: r => match lookK ls k with
    | none => some false
    | some e => (toP d).bind fun p => (toP e).bind fun q => if SeqAt.shaped p = true ∧ SeqAt.shaped q = true then (hitD ls r).map fun b => PyData.eqv p q && b else none
theorem hitD_run {Z : Wd} {H : Hp} {f : Fz} {g : List D} (hs : Hs Z H f g) {ls : List (Key × D)} {ws : List (Key × V)} (pl : Paired (PK Z f) ls ws) : ∀ {ks : List (Key × D)} {vs : List (Key × V)} {b : Bool}, Paired (PK Z f) ks vs → hitD ls ks = some b → HitV Z.K H ws vs b
  | _, _, _, .nil, h => by cases h; exact .nil
  | _, _, b, .cons (a := (k, d)) (b := (k', v)) hp t, h => by
    obtain ⟨e, r⟩ := hp
    have e' : k = k' := e
    subst e'
    unfold hitD at h
    have lk := lookK_some (k := k) pl
    cases hl : lookK ls k with
    | none => rw [hl] at h; cases h; exact .miss (lk.2 hl)
    | some x =>
      rw [hl] at h
      obtain ⟨y, e1, r1⟩ := lk.1 x hl
      simp only [Option.bind_eq_some_iff] at h
      obtain ⟨p, hp, q, hq, h⟩ := h
      split at h
      · rename_i hc
        rw [Option.map_eq_some_iff] at h
        obtain ⟨b', h1, rfl⟩ := h
        exact .hit e1 (dp_of hs r hp) (dp_of hs r1 hq) hc.1 hc.2 (hitD_run hs pl t h1)
      · cases h
/-- two dicts -/
def kEqDct (d e : D) (g : List D) : R D := match vw g d, vw g e with
  | .dct ks, .dct ls => if ks.length = ls.length then (match hitD ls ks with | some b => .ok (.bl b) g | none => .no) else .ok (.bl false) g
  | _, _ => .no
theorem kEqDct_ok {Z : Wd} : Op2 Z (rEqDct Z.K) kEqDct := fun E x y d e H f g Q r1 r2 hs p => by
  unfold kEqDct at p
  split at p
  · rename_i ks ls h1 h2
    obtain ⟨a, vs, rfl, ha, pa⟩ := see_dct hs r1 h1
    obtain ⟨b, ws, rfl, hb, pb⟩ := see_dct hs r2 h2
    have l1 := PySem.Paired.length pa
    have l2 := PySem.Paired.length pb
    split at p
    · rename_i hl
      split at p
      · rename_i b' hb'
        refine ⟨a, b, vs, ws, b', rfl, rfl, ha, hb, fun _ => hitD_run hs pb pa hb', ?_⟩
        have e : (vs.length == ws.length && b') = b' := by
          rw [← l1, ← l2, hl]; simp
        rw [e]
        exact post_now p hs (by simp only [Rp])
      · exact p.elim
    · rename_i hl
      refine ⟨a, b, vs, ws, false, rfl, rfl, ha, hb, fun z => absurd (by omega) hl, ?_⟩
      rw [Bool.and_false]
      exact post_now p hs (by simp only [Rp])
  · exact p.elim
end TL
end

section
set_option Elab.async false
set_option linter.all false
set_option autoImplicit false
set_option maxRecDepth 100000
/-! TL, part w: function objects as things -/
namespace TLfn
open PySem
open Sem (wp)
theorem slot_ga : Slot "function" "__getattribute__" "object.__getattribute__" := .of (owner := "object") (n := "__getattribute__") (by rw [typeLookup_type, builtinLookup_eq_fast]; kernel_rfl) (by decide +kernel) (by decide +kernel) (by decide +kernel)
  (by first | exact .inl (by decide +kernel) | exact .inr (by decide +kernel)) (by rw [isSubtype_type]; kernel_rfl)
theorem entry_ga : entryFor table "object.__getattribute__" = some Builtin.«object.__getattribute__» := entryFor_of_tree (by kernel_rfl)
theorem slot_eq : Slot "function" "__eq__" "object.__eq__" := .of (owner := "object") (n := "__eq__") (by rw [typeLookup_type, builtinLookup_eq_fast]; kernel_rfl) (by decide +kernel) (by decide +kernel) (by decide +kernel)
  (by first | exact .inl (by decide +kernel) | exact .inr (by decide +kernel)) (by rw [isSubtype_type]; kernel_rfl)
theorem lk_cls : typeLookup (.type "function") "__class__" = pure (some (.builtin "object.__class__")) := by rw [typeLookup_type, builtinLookup_eq_fast]; kernel_rfl
theorem own_cls : isSubtype (.type "function") (.type (".".intercalate ("object.__class__".cutAt '.').dropLast)) = pure true := by
  rw [F.owner_object_class, isSubtype_type]; kernel_rfl
theorem args_ga (x y : Value) : argsOk "object.__getattribute__" ⟨[x, y], []⟩ := by unfold argsOk; kernel_rfl
theorem same_eq {prog : Program} {w : World} {A : Around} {E : Value → Shared → Prop} {s : Shared} {f : Addr} {Q : Value → Shared → Prop} (hT : s.TypeIs (.ref f) "function") (hu : A.units < cLine) (q : Q (.bool true) s) :
    wpAny (model prog w) A (richCompare .Eq (.ref f) (.ref f)) Q E s :=
  wpAny_richCompare_same_room (op := .Eq) hT hT slot_eq (wpAny_call_entry slot_eq hT F.cmpEntry_eq (objEq_entry_same ⟨_, rfl, (fun z => nomatch z), q⟩) (F.cmpArgs_eq _ _)) hu
section
variable {prog : Program} {w : World} {A : Around} {E : Value → Shared → Prop} {h : Heap} {g : Array GenState} {d : Drawn} {t : Nat} {os : OsState} {a : Addr} {o : Obj}
theorem get_cls {R : Result → Shared → Prop} (hx : h.get? a = some o) (hc : o.cls = .type "function") (hq : R (.ok (.ret (.type "function"))) ⟨h, g, d, t, os⟩) :
    codeAny (model prog w) A (.call (.builtin "getset_descriptor.__get__") ⟨[.builtin "object.__class__", .ref a, .type "function"], []⟩) R ⟨h, g, d, t, os⟩ := by
  have hT : (⟨h, g, d, t, os⟩ : Shared).TypeIs (.ref a) "function" := ⟨_, hx, hc⟩
  have hG : (⟨h, g, d, t, os⟩ : Shared).TypeIs (.builtin "object.__class__") "getset_descriptor" := F.typeOf_object_class
  have f8 := own_cls
  refine codeAny_call_builtin F.slot_gs_get.plain F.entry_gs_get (F.slot_gs_get.check _ _ _ _ _ _ _ _ hG (F.args_gs_get _ _ _) ?_)
  repeat (any_goals (first | with_reducible assumption | assumption | wp_step))
  refine And.intro (Code.quiet_builtin _ (by decide +kernel)) (codeAny_builtin F.entry_object_class ?_)
  repeat (any_goals (first | with_reducible assumption | assumption | wp_step))
theorem entry_cls {tk : Tok} {Q : Fin → Shared → Prop} (hx : h.get? a = some o) (hc : o.cls = .type "function") (hq : Q (.done (.ret (.type "function"))) ⟨h, g, d, t, os⟩) :
    wpAny (model prog w) A (Builtin.«object.__getattribute__» ⟨[.ref a, .str "__class__" tk], []⟩) Q E ⟨h, g, d, t, os⟩ := by
  have hT : (⟨h, g, d, t, os⟩ : Shared).TypeIs (.ref a) "function" := ⟨_, hx, hc⟩
  have hG : (⟨h, g, d, t, os⟩ : Shared).TypeIs (.builtin "object.__class__") "getset_descriptor" := F.typeOf_object_class
  have f4 := lk_cls
  have e5 := F.typeOf_object_class
  have e6 := F.slot_gs_get.lookup
  have e7 := F.slot_gs_set.lookup
  repeat (any_goals (first | with_reducible assumption | assumption | wp_step))
  refine get_cls hx hc ?_
  repeat (any_goals (first | with_reducible assumption | assumption | wp_step))
theorem call_cls {tk : Tok} {R : Result → Shared → Prop} (hx : h.get? a = some o) (hc : o.cls = .type "function") (hq : R (.ok (.ret (.type "function"))) ⟨h, g, d, t, os⟩) :
    codeAny (model prog w) A (.call (.builtin "object.__getattribute__") ⟨[.ref a, .str "__class__" tk], []⟩) R ⟨h, g, d, t, os⟩ :=
  codeAny_call_builtin slot_ga.plain entry_ga (slot_ga.check _ _ _ _ _ _ _ _ (show (⟨h, g, d, t, os⟩ : Shared).TypeIs (.ref a) "function" from ⟨_, hx, hc⟩) (args_ga _ _) (entry_cls hx hc hq))
theorem by_cls {tk : Tok} {Q : Value → Shared → Prop} (hx : h.get? a = some o) (hc : o.cls = .type "function") (hq : Q (.type "function") ⟨h, g, d, t, os⟩) : wpAny (model prog w) A (getAttrBy (.ref a) (.str "__class__" tk) false) Q E ⟨h, g, d, t, os⟩ := by
  have hT : (⟨h, g, d, t, os⟩ : Shared).TypeIs (.ref a) "function" := ⟨_, hx, hc⟩
  have g2 := slot_ga.lookup
  have g3 := slot_ga.bind (.ref a)
  repeat (any_goals (first | with_reducible assumption | assumption | wp_step))
  refine call_cls hx hc ?_
  repeat (any_goals (first | with_reducible assumption | assumption | wp_step))
theorem attr_cls {Q : Option Value → Shared → Prop} (hx : h.get? a = some o) (hc : o.cls = .type "function") (hq : Q (some (.type "function")) ⟨h, g, d, t + 1, os⟩) : wpAny (model prog w) A (getAttr? (.ref a) "__class__") Q E ⟨h, g, d, t, os⟩ := by
  unfold getAttr? getAttrBy?
  repeat (any_goals (first | with_reducible assumption | assumption | with_reducible apply by_cls hx hc | wp_step))
end
theorem kitx_fn {K : PySem.W.Frag} {a : Addr} : PySem.W.KitX K (.ref a) (.type "function") (PySem.W.KitAt a "function") := PySem.W.kitx_of PySem.W.kitAt_ty (fun {_ _ _ _ _ s} p k => by
  obtain ⟨h, g, d, t, os⟩ := s
  obtain ⟨o, h1, h2⟩ := p
  exact attr_cls h1 h2 k)
end TLfn

namespace TL
open PySem PySem.Spec PyProof.Rows L2
variable [TabL]
/-- the module's functions that are looked at as things -/
structure KFn (K : PySem.W.Frag) (mg : Str → Option Value) (fs : List Str) : Prop where
  ok : ∀ x ∈ fs, ∃ a o, mg x = some (.ref a) ∧ K.lookup a = some o ∧ o.cls = .type "function"
  bt : ∀ T ∈ bts, kitB "function" T = some false
def fnB (fs : List Str) : D → Bool
  | .fn x => decide (x ∈ fs)
  | _ => false
section
variable {X : Cx} {E : XK} {sc : Scope} {N : List Str} {k : Nat} {df : Bool} {W : List Kd} {pos : Pos} {ks fs : List Str} {tb : Str → Str → Bool}
/-- isinstance of what may be a function -/
def rIsiF (K : PySem.W.Frag) : List V → Hp → VK → Prop := fun xs H Q => ∃ (a : Addr) (o : Obj) (c : V) (u : Value) (b : Bool), xs = [.ref a, c] ∧ K.lookup a = some o ∧ o.cls = .type "function" ∧ ClsV c u ∧ PySem.W.kitOne K (.type "function") u = some b ∧ Q (.bl b) H
theorem call_isiF : CallR X (.builtin "isinstance") (rIsiF X.K) := by
  intro pins s σ H xs us Q I r h
  obtain ⟨a, o, c, u, b, rfl, h1, h2, k, e, q⟩ := h
  obtain ⟨u1, u2, rfl, r1, r2⟩ := vals2 r
  have e2 := k.eq r2
  subst e2
  cases (show u1 = Value.ref a from r1)
  exact PySem.W.kia_one TLfn.kitx_fn I.kIn ⟨o, I.kIn a o h1, h2⟩ e (fun z => nomatch z) fun tk => ⟨.bl b, H, I.tok tk, rfl, q⟩
def rIsiTF (K : PySem.W.Frag) : List V → Hp → VK → Prop := fun xs H Q => ∃ (a tp : Addr) (o : Obj) (cs : List V) (ws : List Value) (b : Bool), xs = [.ref a, .ref tp] ∧ K.lookup a = some o ∧ o.cls = .type "function" ∧ H tp = some (.tup cs) ∧ Paired ClsV cs ws ∧ PySem.W.kitAny K (.type "function") ws = some b ∧ Q (.bl b) H
theorem call_isiTF : CallR X (.builtin "isinstance") (rIsiTF X.K) := by
  intro pins s σ H xs us Q I r h
  obtain ⟨a, tp, o, cs, ws, b, rfl, h1, h2, hT, k, e, q⟩ := h
  obtain ⟨u1, u2, rfl, r1, r2⟩ := vals2 r
  cases (show u1 = Value.ref a from r1)
  cases (show u2 = Value.ref tp from r2)
  obtain ⟨_, its, rv, o', h3, h4, n, h5⟩ := (show ObjOk X.prog X.w H s.heap tp (.tup cs) from I.hok tp _ hT)
  have e3 := ClsV.all k rv
  subst e3
  obtain ⟨oc, od, dt, sl⟩ := o'
  simp only at h4 h5
  subst h4 h5
  exact PySem.W.kia_tup TLfn.kitx_fn I.kIn ⟨o, I.kIn a o h1, h2⟩ h3 e (fun z => nomatch z) fun tk => ⟨.bl b, H, I.tok tk, rfl, q⟩
theorem rv_fn {Z : Wd} {H : Hp} {f : Fz} {x : Str} {v : V} (hm : ∃ a, Z.mg x = some (.ref a)) (r : Rv Z H f (.fn x) v) : ∃ a, v = .ref a ∧ Z.mg x = some (.ref a) := by
  rcases r with r | ⟨a, o, _, _, _, _, r⟩
  · simp only [Rp] at r; exact r
  · exfalso; cases o with
    | frz _ u => cases u <;> exact r
    | _ => exact r
theorem vw_fn {d : D} (h : fnB fs d = true) : ∃ x, d = .fn x ∧ x ∈ fs := by
  cases d <;> first | cases h | exact ⟨_, rfl, of_decide_eq_true h⟩
/-- isinstance, functions of the module's among what it is asked of (built-in classes alone) -/
def kIsiF (ks fs : List Str) (tb : Str → Str → Bool) (cs : List Cl) (d : D) (g : List D) : R D :=
  if fnB fs d = true then (if cs.all (fun c => match c with | .bt T => decide (T ∈ bts) | _ => false) = true then .ok (.bl false) g else .no) else kIsi ks tb cs d g
end
end TL
end

section
set_option Elab.async false
set_option linter.all false
set_option autoImplicit false
set_option maxRecDepth 100000
/-! TL, part x: isinstance and == of anything -/
namespace TL
open PySem PySem.Spec PyProof.Rows L2
variable [TabL]
section
variable {X : Cx} {E : XK} {sc : Scope} {N : List Str} {k : Nat} {df : Bool} {W : List Kd} {pos : Pos} {ks fs : List Str} {tb : Str → Str → Bool}
theorem callR_or {v : Value} {r r' : List V → Hp → VK → Prop} (h : CallR X v r) (h' : CallR X v r') : CallR X v (fun xs H Q => r xs H Q ∨ r' xs H Q) := fun pins s σ H xs us Q I rr q => by
  rcases q with q | q
  · exact h pins s σ H xs us Q I rr q
  · exact h' pins s σ H xs us Q I rr q
theorem px_isiF (G : Gd X E sc N k df) (ki : KI X.K X.mg ks tb) (kf : KFn X.K X.mg fs) (hm : X.mg "isinstance" = none) {p : Pos} {e t : Expr} {m : M D} {c : Cl} (he : VX X E W e m) (ht : NX X t c) (hc : clOk ks c = true := by rfl) (hg : glB sc "isinstance" = true := by rfl)
    (he1 : starEach [e, t] X.env = (false, eval e X.env) :: starEach [t] X.env := by rfl) (he2 : starEach [t] X.env = (false, eval t X.env) :: starEach [] X.env := by rfl) :
    PX X E W (.Call (.Name "isinstance" p) [e, t] [] pos) (m1 m (kIsiF ks fs tb [c])) := by
  obtain ⟨v, u, h1, h2⟩ := ht
  refine PE.imp (pe_callB (callR_or call_isi call_isiF) (G.gl hg).1 hm boot_isi (pa_cons he (pa_cons h2 pa_nil he2) he1) (G.gl hg).2.2 (G.gl hg).2.1 he1 (by rw [he2]; rfl)) fun σ H Q q => ?_
  refine tG.bind (rel := relV (wd X)) (k := fun d _ g1 => kIsiF ks fs tb [c] d g1) q fun d x H1 f1 ρ g1 s1 hs1 (r1 : Rv _ _ _ _ _) p1 => ?_
  unfold kIsiF at p1
  split at p1
  · rename_i hf
    obtain ⟨z, rfl, hz⟩ := vw_fn hf
    split at p1
    · rename_i hcs
      obtain ⟨a, o, hma, hl, hcl⟩ := kf.ok z hz
      obtain ⟨a', e1, e2⟩ := rv_fn ⟨a, hma⟩ r1
      have e3 : X.mg z = some (.ref a') := e2
      rw [hma] at e3; cases e3
      refine .inr ⟨a, o, v, u, false, by rw [e1], hl, hcl, h1.c, ?_, p1 _ H1 f1 (Ex.refl _ _) hs1 (by simp only [Rp])⟩
      cases h1 with
      | bt T =>
        simp at hcs
        exact kit_ty (kf.bt T hcs)
      | own _ _ _ => simp at hcs
    · exact p1.elim
  · unfold kIsi at p1
    split at p1
    · rename_i hk
      obtain ⟨ty, t1, t2⟩ := kit_d (Z := wd X) ki hs1 r1 hk
      refine .inl ⟨x, v, ty, u, isB tb (vw g1 d) c, rfl, h1.c, t1, t2 c v u hc h1, ?_⟩
      refine p1 _ H1 f1 (Ex.refl _ _) hs1 ?_
      simp only [Rp, List.any_cons, List.any_nil, Bool.or_false]
    · exact p1.elim
theorem kitAny_no {K : PySem.W.Frag} {t : Value} : ∀ {ws : List Value}, (∀ w ∈ ws, PySem.W.kitOne K t w = some false) → PySem.W.kitAny K t ws = some false
  | [], _ => rfl
  | w :: ws, h => by
    refine kitAny_cons (h w (by simp)) (fun _ => kitAny_no fun z hz => h z (by simp [hz])) (fun e => by cases e)
theorem nxs_pa2 : ∀ {es : List Expr} {cs : List Cl}, NXs X es cs → ∃ vs us, vs.length = cs.length ∧ Paired ClsV vs us ∧ PA X es (fun _ H Q => Q vs H) ∧ (∀ (K : PySem.W.Frag) (t : Value) (p : Cl → Bool), (∀ c ∈ cs, ∀ w u, ClV X.mg c w u → PySem.W.kitOne K t u = some (p c)) → PySem.W.kitAny K t us = some (cs.any p)) := fun h => nxs_pa h
theorem px_isiTF (G : Gd X E sc N k df) (ki : KI X.K X.mg ks tb) (kf : KFn X.K X.mg fs) (hm : X.mg "isinstance" = none) {p p2 : Pos} {x1 : Nat} {e : Expr} {ts : List Expr} {m : M D} {cs : List Cl} (he : VX X E W e m) (ht : NXs X ts cs) (hc : (cs.all (clOk ks) && decide (cs.length ≤ 16777216)) = true := by rfl) (hg : glB sc "isinstance" = true := by rfl)
    (he1 : starEach [e, .Tuple ts x1 p2] X.env = (false, eval e X.env) :: starEach [.Tuple ts x1 p2] X.env := by rfl) (he2 : starEach [.Tuple ts x1 p2] X.env = (false, eval (.Tuple ts x1 p2) X.env) :: starEach [] X.env := by rfl) :
    PX X E W (.Call (.Name "isinstance" p) [e, .Tuple ts x1 p2] [] pos) (m1 m (kIsiF ks fs tb cs)) := by
  obtain ⟨vs, us, hl, h1, h2, h3⟩ := nxs_pa2 ht
  rw [Bool.and_eq_true, List.all_eq_true] at hc
  refine PE.imp (pe_callB (callR_or call_isiT call_isiTF) (G.gl hg).1 hm boot_isi (pa_cons he (pa_cons (pe_tup h2) pa_nil he2) he1) (G.gl hg).2.2 (G.gl hg).2.1 he1 (by rw [he2]; rfl)) fun σ H Q q => ?_
  refine tG.bind (rel := relV (wd X)) (k := fun d _ g1 => kIsiF ks fs tb cs d g1) q fun d x H1 f1 ρ g1 s1 hs1 (r1 : Rv _ _ _ _ _) p1 => ?_
  unfold kIsiF at p1
  split at p1
  · rename_i hf
    obtain ⟨z, rfl, hz⟩ := vw_fn hf
    split at p1
    · rename_i hcs
      rw [List.all_eq_true] at hcs
      obtain ⟨a, o, hma, hlk, hcl⟩ := kf.ok z hz
      obtain ⟨a', e1, e2⟩ := rv_fn ⟨a, hma⟩ r1
      have e3 : X.mg z = some (.ref a') := e2
      rw [hma] at e3; cases e3
      refine ⟨by rw [hl, sl_eq]; exact of_decide_eq_true hc.2, fun tp ha => ?_⟩
      have hs2 := hs1.laid (o := .tup vs) ha
      have ex2 := Ex.laid (o := .tup vs) hs1 ha
      refine .inr ⟨a, tp, o, vs, us, false, by rw [e1], hlk, hcl, upd_same, h1, ?_, p1 _ _ f1 ex2 hs2 (by simp only [Rp])⟩
      have e4 : cs.any (fun _ => false) = false := by simp
      rw [← e4]
      refine h3 X.K (.type "function") (fun _ => false) fun c hcm w u cv => ?_
      have q := hcs c hcm
      cases cv with
      | bt T => simp at q; exact kit_ty (kf.bt T q)
      | own _ _ _ => simp at q
    · exact p1.elim
  · unfold kIsi at p1
    split at p1
    · rename_i hk
      refine ⟨by rw [hl, sl_eq]; exact of_decide_eq_true hc.2, fun a ha => ?_⟩
      have hs2 := hs1.laid (o := .tup vs) ha
      have ex2 := Ex.laid (o := .tup vs) hs1 ha
      obtain ⟨ty, t1, t2⟩ := kit_d (Z := wd X) ki hs2 (r1.ext ex2) hk
      refine .inl ⟨x, a, vs, ty, us, cs.any (isB tb (vw g1 d)), rfl, upd_same, h1, t1, h3 _ _ _ fun c hcm w u cv => t2 c w u (hc.1 c hcm) cv, ?_⟩
      refine p1 _ _ f1 ex2 hs2 ?_
      simp only [Rp]
    · exact p1.elim
end
/-! ### == of own things, functions, the rest -/
structure Eqo (P : Program) (w : World) (K : PySem.W.Frag) (mg : Str → Option Value) (base : Heap) (k : Nat) (c : Str) (m : MF) : Prop where
  ex : ∃ (C f : Addr) (fd : FuncData) (ps : List Str), mg c = some (.ref C) ∧ PySem.W.findIn K (.ref C) "__eq__" = some (some (.ref f)) ∧ PySem.W.isFn K (.ref f) = true ∧ Binds K fd ps [] ∧ FnOk P w K mg base (L2.CX P w) k f fd ps (spT ⟨K, mg, TabL.T⟩ 2 m)
section
variable {X : Cx} {E : XK}
def rOwn (C : Addr) (sp : Sp) (E : XK) : R2 := fun x y H Q => ∃ a b dx dy fs gs, x = .ref a ∧ y = .ref b ∧ H a = some (.ins C dx fs) ∧ H b = some (.ins C dy gs) ∧ sp [.ref a, .ref b] H Q E
theorem op_own {C f : Addr} {fd : FuncData} {ps : List Str} {sp : Sp} {k : Nat} (F : FnOk X.prog X.w X.K X.mg X.base (L2.CX X.prog X.w) k f fd ps sp) (hr : Room k X.A)
    (hs : PySem.W.findIn X.K (.ref C) "__eq__" = some (some (.ref f))) (hf : PySem.W.isFn X.K (.ref f) = true) (hb : Binds X.K fd ps []) (hx : Passes (L2.CX X.prog X.w) X E) : OpR X (compareOp .Eq) (rOwn C sp E) := by
  intro pins s σ H x y u v Q I rx ry d
  obtain ⟨a, b, dx, dy, fs, gs, rfl, rfl, ha, hb', hsp⟩ := d
  cases (show u = Value.ref a from rx)
  cases (show v = Value.ref b from ry)
  obtain ⟨mA, J, _⟩ := ins_get I.hok ha
  obtain ⟨mB, J', _⟩ := ins_get I.hok hb'
  obtain ⟨od, J, _⟩ := J.look
  obtain ⟨od', J', _⟩ := J'.look
  obtain ⟨m, hF⟩ := I.fr
  show wpAny (model X.prog X.w) X.A (richCompare .Eq (.ref a) (.ref b)) _ _ s
  refine PySem.W.cmp_K (op := .Eq) (tb := .ref C) hr.units0 hF I.ok.mod.kin J J'.type (by simp [PySem.W.notFirst]) hs hf ?_
  have hl := F.len _ _ _ _ hsp
  have r2 : Vals [V.ref a, V.ref b] [Value.ref a, Value.ref b] := .cons rfl (.cons rfl .nil)
  refine wpAny_call (codeAny_mono (F.run X.A X.stack s H ⟨[.ref a, .ref b], []⟩ [.ref a, .ref b] [.ref a, .ref b] _ E hr I.env0 (by
    have := hb s [.ref a, .ref b] I.kIn (by simpa using hl)
    simpa using this) r2 hsp) fun r s' hq => ?_)
  cases r with
  | error e => exact hx pins σ H s e s' I hq
  | ok fl =>
    cases fl with
    | ret w =>
      obtain ⟨z, H', I', rz, ez⟩ := I.after hq
      have hn : w ≠ .notImplemented := fun e => by
        subst e
        cases z <;> first | (obtain ⟨_, hz⟩ := rz; exact nomatch hz) | exact nomatch rz | exact rz.elim
      have fin : EP X pins σ Q w s' := ⟨z, H', I', rz, ez⟩
      cases w <;> first | exact absurd rfl hn | exact fin
    | next => exact False.elim hq
    | brk => exact False.elim hq
    | cont => exact False.elim hq
def rFnEq (K : PySem.W.Frag) : R2 := fun x y H Q => ∃ a o, x = .ref a ∧ y = .ref a ∧ K.lookup a = some o ∧ o.cls = .type "function" ∧ Q (.bl true) H
theorem op_fnEq (hu : X.A.units < cLine) : OpR X (compareOp .Eq) (rFnEq X.K) := by
  intro pins s σ H x y u v Q I rx ry d
  obtain ⟨a, o, rfl, rfl, hl, hc, q⟩ := d
  cases (show u = Value.ref a from rx)
  cases (show v = Value.ref a from ry)
  show wpAny (model X.prog X.w) X.A (richCompare .Eq (.ref a) (.ref a)) _ _ s
  exact TLfn.same_eq ⟨o, I.kIn a o hl, hc⟩ hu ⟨.bl true, H, I, rfl, q⟩
end
/-! ### the mirror of == of anything -/
def eqTab (t : List (Str × MF)) (fs : List Str) (d e : D) (g : List D) : R D := match vw g d, vw g e with
  | .ins c _, .ins c' _ => if c = c' then (match t.lookup c with | some m => m [d, e] g | none => .no) else .no
  | .fn x, .fn y => if x = y ∧ x ∈ fs then .ok (.bl true) g else .no
  | .dct _, .dct _ => kEqDct d e g
  | _, _ => kEq d e g
structure EqT (P : Program) (w : World) (K : PySem.W.Frag) (mg : Str → Option Value) (base : Heap) (k : Nat) (t : List (Str × MF)) (fs : List Str) : Prop where
  own : ∀ c m, t.lookup c = some m → Eqo P w K mg base k c m
  fn : KFn K mg fs
section
variable {X : Cx} {E : XK} {sc : Scope} {N : List Str} {k j : Nat} {df : Bool} {W : List Kd} {pos : Pos} {fs : List Str} {t : List (Str × MF)}
theorem rp_ins_at {Z : Wd} {H : Hp} {f : Fz} {g : List D} {d : D} {v : V} {c : Str} {xs : List (Str × D)} (hs : Hs Z H f g) (r : Rp Z f d v) (e : vw g d = .ins c xs) : ∃ a C dx vs, v = .ref a ∧ H a = some (.ins C dx vs) ∧ Z.mg c = some (.ref C) := by
  obtain ⟨a, C, dx, vs, h1, h2, h3, _⟩ := see_ins hs (.inl r) e
  exact ⟨a, C, dx, vs, h1, h2, h3⟩
theorem px_eqO (G : Gd X E sc N k df) {a b : Expr} {ma mb : M D} (q : EqT X.prog X.w X.K X.mg X.base j t fs) (ha : PX X E W a ma) (hb : PX X E W b mb) (hj : j ≤ k := by omega) : PX X E W (.Compare a [.Eq] [b] pos) (m2 ma mb (eqTab t fs)) := by
  let r0 : R2 := fun x y H Q => (∃ C f fd ps m, PySem.W.findIn X.K (.ref C) "__eq__" = some (some (.ref f)) ∧ PySem.W.isFn X.K (.ref f) = true ∧ Binds X.K fd ps [] ∧ FnOk X.prog X.w X.K X.mg X.base (L2.CX X.prog X.w) j f fd ps (spT (wd X) 2 m) ∧ rOwn C (spT (wd X) 2 m) E x y H Q) ∨ rFnEq X.K x y H Q ∨ rEqDct X.K x y H Q ∨ rEqD X.K x y H Q
  have hop : OpR X (compareOp .Eq) r0 := by
    intro pins s σ H x y u v Q I rx ry h
    rcases h with ⟨C, f, fd, ps, m, h1, h2, h3, F, h⟩ | h | h | h
    · exact op_own F (G.room.mono hj) h1 h2 h3 G.pass pins s σ H x y u v Q I rx ry h
    · exact op_fnEq (by have := G.u64; omega) pins s σ H x y u v Q I rx ry h
    · exact op_eqDct G.u64 pins s σ H x y u v Q I rx ry h
    · exact op_eqD (by have := G.u64; omega) pins s σ H x y u v Q I rx ry h
  refine PE.imp (pe_cmpR hop ha hb (nomark _)) fun σ H Q q' => ?_
  refine tG.bind (rel := relD (wd X)) (k := fun d ρ g1 => (mb ρ g1).bind fun e g2 => eqTab t fs d e g2) q' fun d x H1 f1 ρ g1 s1 hs1 (r1 : Rp _ _ _ _) p1 => ?_
  refine ⟨f1, ρ, g1, s1, hs1, post.bind p1 fun e g2 y H2 f2 _ e2 hs2 (r2 : Rp _ _ _ _) p2 => ?_⟩
  have r1' : Rp (wd X) f2 d x := r1.mono e2.le
  unfold eqTab at p2
  split at p2
  · rename_i c _ c' _ h1 h2
    split at p2
    · rename_i hc
      subst hc
      split at p2
      · rename_i m hm
        obtain ⟨C, f, fd, ps, hC, hs', hf, hb', F⟩ := (q.own _ m hm).ex
        obtain ⟨a1, C1, dx1, vs1, rfl, k1, k2⟩ := rp_ins_at hs2 r1' h1
        obtain ⟨a2, C2, dx2, vs2, rfl, k3, k4⟩ := rp_ins_at hs2 r2 h2
        have k2' : X.mg c = some (.ref C1) := k2
        have k4' : X.mg c = some (.ref C2) := k4
        rw [hC] at k2' k4'
        cases k2'; cases k4'
        exact .inl ⟨C, f, fd, ps, m, hs', hf, hb', F, a1, a2, dx1, dx2, vs1, vs2, rfl, rfl, k1, k3, f2, [d, e], g2, rfl, .cons r1' (.cons r2 .nil), hs2, p2⟩
      · exact p2.elim
    · exact p2.elim
  · rename_i x1 y1 h1 h2
    split at p2
    · rename_i hc
      obtain ⟨rfl, hx⟩ := hc
      obtain ⟨a1, o, hma, hl, hcl⟩ := q.fn.ok _ hx
      have hd : d = .fn x1 := by
        rcases vw_cases d g2 with ⟨i, z, e1, e2', e3⟩ | ⟨i, e1, e2', e3⟩ | ⟨e1, e2'⟩
        · rw [e3] at h1; subst h1 e1
          obtain ⟨a, o, _, _, _, _, ro, _⟩ := hot_at hs2 r1' e2'
          exfalso; cases o with
          | frz _ u => cases u <;> exact ro
          | _ => exact ro
        · rw [e3] at h1; cases h1
        · rw [e2'] at h1; exact h1
      have he : e = .fn x1 := by
        rcases vw_cases e g2 with ⟨i, z, e1, e2', e3⟩ | ⟨i, e1, e2', e3⟩ | ⟨e1, e2'⟩
        · rw [e3] at h2; subst h2 e1
          obtain ⟨a, o, _, _, _, _, ro, _⟩ := hot_at hs2 r2 e2'
          exfalso; cases o with
          | frz _ u => cases u <;> exact ro
          | _ => exact ro
        · rw [e3] at h2; cases h2
        · rw [e2'] at h2; exact h2
      subst hd he
      obtain ⟨a2, rfl, e3⟩ := rv_fn (Z := wd X) (H := H2) ⟨a1, hma⟩ (.inl r1')
      obtain ⟨a3, rfl, e4⟩ := rv_fn (Z := wd X) (H := H2) ⟨a1, hma⟩ (.inl r2)
      have e3' : X.mg x1 = some (.ref a2) := e3
      have e4' : X.mg x1 = some (.ref a3) := e4
      rw [hma] at e3' e4'
      cases e3'; cases e4'
      exact .inr (.inl ⟨a1, o, rfl, rfl, hl, hcl, post_now p2 hs2 (by simp only [Rp])⟩)
    · exact p2.elim
  · exact .inr (.inr (.inl (kEqDct_ok (Z := wd X) E x y d e H2 f2 g2 Q (.inl r1') (.inl r2) hs2 p2)))
  · exact .inr (.inr (.inr (kEq_ok (Z := wd X) E x y d e H2 f2 g2 Q (.inl r1') (.inl r2) hs2 p2)))
end
end TL
end

section
set_option Elab.async false
set_option linter.all false
set_option autoImplicit false
set_option maxRecDepth 100000
/-! TL, part y: calls by keywords alone -/
namespace TL
open PySem PySem.Spec PyProof.Rows L2
variable [TabL]
section
variable {X : Cx} {E : XK} {sc : Scope} {N : List Str} {k j : Nat} {df : Bool} {W : List Kd} {pos : Pos}
theorem pe_callK0 {CX : CXT} {f : Addr} {fd : FuncData} {ps ks : List Str} {sp : Sp} {x : Str} {p : Pos} {kws : List Keyword} {tk : TA} {g : List Value → List Value → List Value} {gV : List V → List V → List V}
    (F : FnOk X.prog X.w X.K X.mg X.base CX k f fd ps sp) (hr : Room k X.A) (hg : Gl X x) (hm : X.mg x = some (.ref f)) (hk : PySem.W.keepIn X.K (.ref f) = true) (hb : KBinds X.K fd ps ks g gV) (hx : Passes CX X E)
    (hkw : L2.PK X kws tk) (hdb : (x == ("__debug__" : Str)) = false) (hall : (backToKw pos (keywordEach kws X.env)).all (·.1.isSome) = true := by rfl) (hks : (backToKw pos (keywordEach kws X.env)).filterMap (·.1) = ks := by rfl)
    (hpl : ((backTo pos (starEach [] X.env)).any (·.1) || (backToKw pos (keywordEach kws X.env)).any (·.1.isNone)) = false := by rfl) :
    PE X (.Call (.Name x p) [] kws pos) (fun σ H Q => tk σ H fun zs H2 => sp (gV [] zs) H2 Q E) := by
  refine ⟨fun pins s σ H Q I h => ?_⟩
  refine wpAny_Call_Name_kw (ld_glob I hg hm ?_ hdb)
  refine PySem.W.callWith_KW0 (h₀ := X.base) I.ok.mod.kin hk hall ?_ hpl
  refine thn (hkw.run pos pins s σ H _ I h) fun ws s2 ⟨zs, H2, I2, rz, q2⟩ => ⟨I2.kIn, ?_⟩
  rw [hks]
  exact run_fnk F hr hb hx I2 .nil rz q2
/-- keywords' values -/
def WX' (X : Cx) (E : XK) (W : List Kd) (kws : List Keyword) (m : M (List D))   : Prop := L2.PK X kws (tA (wd X) E W m)
theorem kw_imp {kws : List Keyword} {t t' : TA} (h : L2.PK X kws t) (i : ∀ σ H Q, t' σ H Q → t σ H Q) : L2.PK X kws t' := ⟨fun pos pins s σ H Q I q => h.run pos pins s σ H Q I (i σ H Q q)⟩
theorem kw_nil : WX' X E W [] mNil := kw_imp pk_nil fun σ H Q q => by
  obtain ⟨f, ρ, g, s, hs, p⟩ := q
  exact p [] H f (Ex.refl H f) hs .nil
theorem kw_cons {nm : Option Str} {e : Expr} {kpos : Pos} {kws : List Keyword} {m : M D} {n : M (List D)} (h : PX X E W e m) (t : WX' X E W kws n) : WX' X E W (⟨nm, e, kpos⟩ :: kws) (mCons m n) := kw_imp (pk_cons h t) fun σ H Q q => by
  refine tG.bind (rel := relD (wd X)) (k := fun d ρ g1 => (n ρ g1).bind fun ds g2 => .ok (d :: ds) g2) q fun d x H1 f1 ρ g1 s1 hs1 (r1 : Rp _ _ _ _) p1 => ?_
  refine ⟨f1, ρ, g1, s1, hs1, post.bind p1 fun ds g2 xs H2 f2 _ e2 hs2 r2 p2 => ?_⟩
  exact p2 _ H2 f2 (Ex.refl _ _) hs2 (.cons (r1.mono e2.le) r2)
def mPerm (perm : List Nat) (m : MF) : MF := fun ds g => m (perm.map fun i => ds.getD i .non) g
def gP (n : Nat) (perm : List Nat) (us ws : List Value) : List Value := if us.length = 0 ∧ ws.length = n then perm.map fun i => ws.getD i .none else []
def gPV (n : Nat) (perm : List Nat) (us ws : List V) : List V := if us.length = 0 ∧ ws.length = n then perm.map fun i => ws.getD i .non else []
theorem gP_rel {n : Nat} {perm : List Nat} {vs : List V} {us : List Value} {zs : List V} {ws : List Value} (h1 : Vals vs us) (h2 : Vals zs ws) : Vals (gPV n perm vs zs) (gP n perm us ws) := by
  have l1 := PySem.Paired.length h1
  have l2 := PySem.Paired.length h2
  unfold gP gPV
  rw [l1, l2]
  split
  · induction perm with
    | nil => exact .nil
    | cons i r ih =>
      refine .cons ?_ ih
      show L2.RelV (zs.getD i .non) (ws.getD i .none)
      by_cases hi : i < zs.length
      · obtain ⟨y, e, q⟩ := getD_pd h2 hi .non
        rw [List.getD_eq_getElem?_getD (l := ws), e]
        exact q
      · rw [List.getD_eq_getElem?_getD, List.getD_eq_getElem?_getD, List.getElem?_eq_none (by omega), List.getElem?_eq_none (by omega)]
        exact rfl
  · exact .nil
/-- a def that may be called by these keywords -/
structure Dk (P : Program) (w : World) (K : PySem.W.Frag) (mg : Str → Option Value) (base : Heap) (k : Nat) (x : Str) (ks : List Str) (perm : List Nat) (m : MF) : Prop where
  ex : ∃ (f : Addr) (fd : FuncData) (ps : List Str), mg x = some (.ref f) ∧ PySem.W.keepIn K (.ref f) = true ∧ KBinds K fd ps ks (gP ks.length perm) (gPV ks.length perm) ∧ FnOk P w K mg base (L2.CX P w) k f fd ps (spF ⟨K, mg, TabL.T⟩ perm.length m)
theorem fx_callK (G : Gd X E sc N k df) {x : Str} {p : Pos} {kws : List Keyword} {ks : List Str} {perm : List Nat} {m : MF} {a : M (List D)} (d : Dk X.prog X.w X.K X.mg X.base j x ks perm m) (ha : WX' X E W kws a) (hn : AN ks.length a) (hj : j ≤ k := by omega) (hg : glB sc x = true := by rfl)
    (hall : (backToKw pos (keywordEach kws X.env)).all (·.1.isSome) = true := by rfl) (hks : (backToKw pos (keywordEach kws X.env)).filterMap (·.1) = ks := by rfl)
    (hpl : ((backTo pos (starEach [] X.env)).any (·.1) || (backToKw pos (keywordEach kws X.env)).any (·.1.isNone)) = false := by rfl) :
    FX X E W (.Call (.Name x p) [] kws pos) (mCall (mPerm perm m) a) := by
  obtain ⟨f, fd, ps, hm, hk, hb, hF⟩ := d.ex
  refine PE.imp (pe_callK0 hF (G.room.mono hj) (G.gl hg).1 hm hk hb G.pass ha (G.gl hg).2.1 hall hks hpl) fun σ H Q q => ?_
  obtain ⟨f0, ρ, g, s, hs, p⟩ := q
  refine ⟨f0, ρ, g, s, hs, postF.bind p fun ds g1 vs H1 f1 he1 e1 hs1 r1 p1 => ?_⟩
  have l1 := hn _ _ _ _ he1
  have l2 := PySem.Paired.length r1
  refine ⟨f1, perm.map fun i => ds.getD i .non, g1, by simp, ?_, hs1, p1⟩
  unfold gPV
  rw [if_pos ⟨rfl, by omega⟩]
  clear hb hF p1 d p
  induction perm with
  | nil => exact .nil
  | cons i r ih =>
    refine .cons ?_ ih
    · show Rp (wd X) f1 (ds.getD i .non) (vs.getD i .non)
      by_cases hi : i < ds.length
      · obtain ⟨y, e, q⟩ := getD_pd r1 hi .non
        rw [List.getD_eq_getElem?_getD (l := vs), e]
        exact q
      · rw [List.getD_eq_getElem?_getD, List.getD_eq_getElem?_getD, List.getElem?_eq_none (by omega), List.getElem?_eq_none (by omega)]
        simp only [Option.getD_none, Rp]
end
section
variable {P : Program} {w : World} {K : PySem.W.Frag} {mg : Str → Option Value} {base : Heap} {x qual : Str} {st : Stmt} {ps N ks : List Str} {k p n : Nat} {b : MS} {Wn : List Kd} {perm : List Nat}
theorem Dd.fnK (d : Dd K mg x qual st ps) (S : FnScope N ps (defScope st)) (hs : scOk (defScope st) = true) (hp : ps.length = perm.length) (hn : N.length = perm.length + n) (h0 : 0 < perm.length)
    (hB : ∀ (kV doc pm : Value) (an : Option Addr) (cdv ct : Value) (ws : List Value), ws.length = ks.length → bindArgs (PySem.W.fnOf x qual (defArgs st) (defBody st) (defScope st) .none kV doc pm an cdv ct) ⟨[], ks.zip ws⟩ = pure (ps.zip (perm.map fun i => ws.getD i .none)))
    (body : ∀ (X : Cx) (E : XK), X.prog = P → X.w = w → X.K = K → X.mg = mg → X.base = base → Gd X E (defScope st) N k true → BX X E [] (W0 perm.length n) (defBody st) Wn b) : Dk P w K mg base (k + 1) x ks perm (mFnF n b) := by
  obtain ⟨f, fd, hm, F, hb⟩ := d.ex
  refine ⟨f, fd, ps, hm, F.kp, ⟨fun s us ws _ hl => ?_, fun h1 h2 => gP_rel h1 h2⟩, fn_okF F rfl S hs hp hn body⟩
  obtain ⟨oc, od, kV, doc, pm, an, cdv, ct, osl, rfl, _⟩ := F.ex
  unfold gP at hl ⊢
  split at hl
  · rename_i hc
    rw [if_pos hc]
    obtain ⟨h1, h2⟩ := hc
    have : us = [] := List.length_eq_zero_iff.mp h1
    subst this
    exact .of_eq (hB kV doc pm an cdv ct ws h2)
  · rename_i hc
    rw [if_neg hc]
    have hl' : ps.length = 0 := hl.symm
    omega
end
section
variable {X : Cx} {E : XK} {sc : Scope} {N : List Str} {k j : Nat} {df : Bool} {W : List Kd} {pos : Pos}
theorem px_eqDct (G : Gd X E sc N k df) {a b : Expr} {ma mb : M D} (ha : VX X E W a ma) (hb : VX X E W b mb) : PX X E W (.Compare a [.Eq] [b] pos) (m2 ma mb kEqDct) := px_cmp (op_eqDct G.u64) kEqDct_ok ha hb
end
/-- an own == -/
structure De (K : PySem.W.Frag) (mg : Str → Option Value) (c qual : Str) (st : Stmt) (ps : List Str) : Prop where
  ex : ∃ (C f : Addr) (fd : FuncData), mg c = some (.ref C) ∧ PySem.W.findIn K (.ref C) "__eq__" = some (some (.ref f)) ∧ PySem.W.isFn K (.ref f) = true ∧ Fun K "__eq__" qual st f fd ∧ Binds K fd ps []
theorem De.eq {P : Program} {w : World} {K : PySem.W.Frag} {mg : Str → Option Value} {base : Heap} {c qual : Str} {st : Stmt} {ps N : List Str} {k n : Nat} {b : MS} {Wn : List Kd} (d : De K mg c qual st ps) (S : FnScope N ps (defScope st)) (hs : scOk (defScope st) = true) (hp : ps.length = 2) (hn : N.length = 2 + n)
    (body : ∀ (X : Cx) (E : XK), X.prog = P → X.w = w → X.K = K → X.mg = mg → X.base = base → Gd X E (defScope st) N k true → BX X E [] (W0 2 n) (defBody st) Wn b) : Eqo P w K mg base (k + 1) c (mFn n b) := by
  obtain ⟨C, f, fd, hm, h1, h2, F, hb⟩ := d.ex
  exact ⟨C, f, fd, ps, hm, h1, h2, hb, fn_ok F rfl S hs hp hn body⟩
theorem Eqo.mono {P : Program} {w : World} {K : PySem.W.Frag} {mg : Str → Option Value} {base : Heap} {c : Str} {m : MF} {j k : Nat} (e : Eqo P w K mg base j c m) (h : j ≤ k) : Eqo P w K mg base k c m := by
  obtain ⟨C, f, fd, ps, h1, h2, h3, h4, F⟩ := e.ex
  exact ⟨C, f, fd, ps, h1, h2, h3, h4, F.mono h⟩
end TL
end

section
set_option Elab.async false
set_option linter.all false
set_option autoImplicit false
set_option maxRecDepth 100000
/-! list(zip(a, b)) of two lists -/
namespace TLzl
open PySem PySem.W PySem.Calls PyProof.Rows PyProof.V PySem.Spec
structure Sx (h : Heap) (z TI TO i1 i2 l1 l2 S : Addr) (xs ys : Array Value) (k : Nat) : Prop where
  ti : IsPair h TI (.ref i1) (.ref i2)
  a1 : h.IsListIter i1 l1 k
  a2 : h.IsListIter i2 l2 k
  b1 : h.IsList l1 xs
  b2 : h.IsList l2 ys
  zz : (∃ a b, IsZip h z TI TO .none ∧ IsPair h TO a b) ∨ ∃ T f oT, IsZipHeld h z TI TO T f ∧ h.get? T = some oT ∧ T ≠ z ∧ T ≠ i1 ∧ T ≠ i2 ∧ T ≠ S
structure Ax (z TI TO i1 i2 l1 l2 S : Addr) : Prop extends ZipApart z TI TO i1 i2 l1 l2 where
  sz : S ≠ z
  sTI : S ≠ TI
  sTO : S ≠ TO
  si1 : S ≠ i1
  si2 : S ≠ i2
  sl1 : S ≠ l1
  sl2 : S ≠ l2
section
variable {prog : Program} {w : World} {A : Around} {E : Value → Shared → Prop} {s : Shared} {z TI TO i1 i2 l1 l2 S : Addr} {xs ys : Array Value} {k : Nat}
theorem Sx.keep {h h' : Heap} (x : Sx h z TI TO i1 i2 l1 l2 S xs ys k) (a : Ax z TI TO i1 i2 l1 l2 S) (hk : ∀ b o, b ≠ S → h.get? b = some o → h'.get? b = some o) : Sx h' z TI TO i1 i2 l1 l2 S xs ys k := by
  refine ⟨hk _ _ a.sTI.symm x.ti, x.a1.at fun o e => hk _ o a.si1.symm e, x.a2.at fun o e => hk _ o a.si2.symm e, ?_, ?_, ?_⟩
  · obtain ⟨o, ho, r⟩ := x.b1; exact ⟨o, hk _ _ a.sl1.symm ho, r⟩
  · obtain ⟨o, ho, r⟩ := x.b2; exact ⟨o, hk _ _ a.sl2.symm ho, r⟩
  · rcases x.zz with ⟨p, q, h1, h2⟩ | ⟨T, f, oT, h1, h2, n1, n2, n3, n4⟩
    · exact .inl ⟨p, q, hk _ _ a.sz.symm h1, hk _ _ a.sTO.symm h2⟩
    · exact .inr ⟨T, f, oT, hk _ _ a.sz.symm h1, hk _ _ n4 h2, n1, n2, n3, n4⟩
theorem item {x y : Value} {Q : Option Value → Shared → Prop} (st : Sx s.heap z TI TO i1 i2 l1 l2 S xs ys k) (a : Ax z TI TO i1 i2 l1 l2 S) (hS : S < s.heap.objs.size) (hx : xs[k]? = some x) (hy : ys[k]? = some y)
    (hQ : ∀ h', Sx h' z TI TO i1 i2 l1 l2 S xs ys (k + 1) → h'.get? s.heap.objs.size = some { cls := .type "tuple", data := .seq #[x, y] } → (∀ b o, b ≠ z → b ≠ TO → b ≠ i1 → b ≠ i2 → s.heap.get? b = some o → h'.get? b = some o) → Q (some (.ref s.heap.objs.size)) { s with heap := h' }) :
    wpAny (model prog w) A (pyNext (.ref z)) Q E s := by
  have lt : ∀ {b : Addr} {o : Obj}, s.heap.get? b = some o → s.heap.objs.size ≠ b := fun e => Nat.ne_of_gt (Heap.lt_size e)
  have li1 : s.heap.objs.size ≠ i1 := by obtain ⟨o, ho, _⟩ := st.a1; exact lt ho
  have li2 : s.heap.objs.size ≠ i2 := by obtain ⟨o, ho, _⟩ := st.a2; exact lt ho
  rcases st.zz with ⟨p, q, h1, h2⟩ | ⟨T, f, oT, h1, h2, n1, n2, n3, n4⟩
  · refine wpAny_pyNext_zip_item a.toZipApart h1 st.ti h2 st.a1 st.a2 st.b1 st.b2 hx hy fun h' z1 z2 z3 z4 z5 z6 z7 => hQ h' ⟨z7 _ _ a.TIz a.TITO a.TIi1 a.TIi2 st.ti, z3, z4, ?_, ?_, .inr ⟨_, false, _, z1, z5, lt h1, li1, li2, Nat.ne_of_gt hS⟩⟩ z5 z7
    · obtain ⟨o, ho, r⟩ := st.b1; exact ⟨o, z7 _ _ a.l1z a.l1TO a.l1i1 a.l1i2 ho, r⟩
    · obtain ⟨o, ho, r⟩ := st.b2; exact ⟨o, z7 _ _ a.l2z a.l2TO a.l2i1 a.l2i2 ho, r⟩
  · refine wpAny_pyNext_zip_item_held a.toZipApart h1 h2 st.ti st.a1 st.a2 st.b1 st.b2 hx hy fun h' z1 z3 z4 z5 z6 z7 => hQ h' ⟨z7 _ _ a.TIz a.TIi1 a.TIi2 st.ti, z3, z4, ?_, ?_, .inr ⟨T, true, oT, z1, z7 _ _ n1 n2 n3 h2, n1, n2, n3, n4⟩⟩ z5 fun b o c1 _ c2 c3 => z7 b o c1 c2 c3
    · obtain ⟨o, ho, r⟩ := st.b1; exact ⟨o, z7 _ _ a.l1z a.l1i1 a.l1i2 ho, r⟩
    · obtain ⟨o, ho, r⟩ := st.b2; exact ⟨o, z7 _ _ a.l2z a.l2i1 a.l2i2 ho, r⟩
theorem done {Q : Option Value → Shared → Prop} (hh : A.handled = none) (st : Sx s.heap z TI TO i1 i2 l1 l2 S xs ys k) (a : Ax z TI TO i1 i2 l1 l2 S) (hend : xs[k]? = none ∨ ys[k]? = none)
    (hQ : ∀ h', (∀ b o, b ≠ z → b ≠ TO → b ≠ i1 → b ≠ i2 → s.heap.get? b = some o → h'.get? b = some o) → Q none { s with heap := h' }) : wpAny (model prog w) A (pyNext (.ref z)) Q E s := by
  rcases st.zz with ⟨p, q, h1, h2⟩ | ⟨T, f, oT, h1, h2, n1, n2, n3, n4⟩
  · exact wpAny_pyNext_zip_end hh a.toZipApart h1 st.ti h2 st.a1 st.a2 st.b1 st.b2 hend hQ
  · exact wpAny_pyNext_zip_end_held hh a.toZipApart h1 h2 st.ti st.a1 st.a2 st.b1 st.b2 hend fun h' k => hQ h' fun b o c1 _ c2 c3 => k b o c1 c2 c3
end
structure Gx (xs ys : Array Value) (lo : Addr) (h : Heap) (as : List Addr) : Prop where
  rise : as.Pairwise (· < ·)
  above : ∀ a ∈ as, lo < a
  pairs : ∀ (j : Nat) (a : Addr), as[j]? = some a → ∃ x y, xs[j]? = some x ∧ ys[j]? = some y ∧ h.get? a = some { cls := .type "tuple", data := .seq #[x, y] }
theorem Gx.there {xs ys : Array Value} {lo : Addr} {h : Heap} {as : List Addr} (g : Gx xs ys lo h as) {a : Addr} (ha : a ∈ as) : a < h.objs.size := by
  obtain ⟨j, hj⟩ := List.mem_iff_getElem?.mp ha
  obtain ⟨x, y, _, _, e⟩ := g.pairs j a hj
  exact Heap.lt_size e
section
variable {prog : Program} {w : World} {A : Around} {s : Shared} {R : Result → Shared → Prop} {z TI TO i1 i2 l1 l2 S : Addr} {xs ys : Array Value}
abbrev four (z TO i1 i2 S : Addr) (h h' : Heap) : Prop := ∀ b o, b ≠ S → b ≠ z → b ≠ TO → b ≠ i1 → b ≠ i2 → h.get? b = some o → h'.get? b = some o
theorem loop (hh : A.handled = none) (a : Ax z TI TO i1 i2 l1 l2 S) (hz : z < S ∧ TO < S ∧ i1 < S ∧ i2 < S) (n : Nat) (hn : n = min xs.size ys.size) (hn2 : n ≤ sizeLine) (res : Value) {h₁ : Heap}
    (hR : ∀ h' tk acc c as, four z TO i1 i2 S h₁ h' → h'.get? S = some { cls := .type "list", dict := none, data := .seq acc c, slots := #[] } → as.length = n → Gx xs ys S h' as →
      acc.toList = as.map Value.ref → R (.ok (.ret res)) { s with heap := h', toks := tk }) :
    ∀ (k i : Nat) (h : Heap) (tk c : Nat) (acc : Array Value) (as : List Addr), n - i = k → i ≤ n → Sx h z TI TO i1 i2 l1 l2 S xs ys i → four z TO i1 i2 S h₁ h →
      h.get? S = some { cls := .type "list", dict := none, data := .seq acc c, slots := #[] } → acc.toList = as.map Value.ref → as.length = i → Gx xs ys S h as →
      codeAny (model prog w) A (.builtin "list.extend.loop" ⟨[.ref S, .ref z, res], []⟩) R { s with heap := h, toks := tk } := by
  intro k
  induction k with
  | zero =>
    intro i h tk c acc as hk hi hst hkeep hS hacc hal hG
    have hin : i = n := by omega
    refine codeAny_builtin PySem.F.entry_extend_loop ?_
    rw [Around.under_plainId PySem.F.plain_extend_loop _]
    show wpAny _ A.in1 (pyNext (.ref z) >>= _) _ _ _
    have hend : xs[i]? = none ∨ ys[i]? = none := by
      rcases Nat.le_total xs.size ys.size with q | q
      · exact .inl (Array.getElem?_eq_none (by omega))
      · exact .inr (Array.getElem?_eq_none (by omega))
    refine wpAny_bind (done (s := { s with heap := h, toks := tk }) (A := A.in1) hh hst a hend fun h' he => ?_)
    refine wpAny_pure (hR h' tk acc c as (fun b o h0 h1 h2 h3 h4 e => he b o h1 h2 h3 h4 (hkeep b o h0 h1 h2 h3 h4 e)) (he S _ a.sz a.sTO a.si1 a.si2 hS) (by omega) ⟨hG.rise, hG.above, fun j b hj => ?_⟩ hacc)
    obtain ⟨x, y, e1, e2, e3⟩ := hG.pairs j b hj
    have hb := hG.above b (List.mem_of_getElem? hj)
    exact ⟨x, y, e1, e2, he b _ (Nat.ne_of_gt (Nat.lt_trans hz.1 hb)) (Nat.ne_of_gt (Nat.lt_trans hz.2.1 hb)) (Nat.ne_of_gt (Nat.lt_trans hz.2.2.1 hb)) (Nat.ne_of_gt (Nat.lt_trans hz.2.2.2 hb)) e3⟩
  | succ k ih =>
    intro i h tk c acc as hk hi hst hkeep hS hacc hal hG
    have hlt : i < n := by omega
    have hx : xs[i]? = some (xs[i]'(by omega)) := Array.getElem?_eq_getElem _
    have hy : ys[i]? = some (ys[i]'(by omega)) := Array.getElem?_eq_getElem _
    have hsz : acc.size = i := by rw [← Array.length_toList, hacc, List.length_map, hal]
    refine codeAny_builtin PySem.F.entry_extend_loop ?_
    rw [Around.under_plainId PySem.F.plain_extend_loop _]
    show wpAny _ A.in1 (pyNext (.ref z) >>= _) _ _ _
    have hSl : S < h.objs.size := Heap.lt_size hS
    refine wpAny_bind (item (s := { s with heap := h, toks := tk }) hst a hSl hx hy fun h' hst' ht hkp => ?_)
    dsimp only at ht hkp ⊢
    have hS' := hkp S _ a.sz a.sTO a.si1 a.si2 hS
    have up : ∀ b o, b ≠ S → h'.get? b = some o → (h'.update S (Obj.mapSeq (·.push (Value.ref h.objs.size)))).get? b = some o := fun b o hb e => (Heap.get?_update_other _ _ (Ne.symm hb)).trans e
    show wpAny _ A.in1 (updateSeq S (·.push (Value.ref h.objs.size)) >>= _) _ _ _
    refine wpAny_bind ?_
    refine wpAny_updateSeq hS' rfl (wpAny_pure ⟨plainId_quiet PySem.F.plain_extend_loop _, ih (i + 1) _ tk _ (acc.push (Value.ref h.objs.size)) (as ++ [h.objs.size]) (by omega) hlt (hst'.keep a up)
      (fun b o h0 h1 h2 h3 h4 e => up b o h0 (hkp b o h1 h2 h3 h4 (hkeep b o h0 h1 h2 h3 h4 e))) (Heap.get?_update_self _ hS' rfl) (by rw [Array.toList_push, hacc, List.map_append]; rfl) (by rw [List.length_append, hal]; rfl) ⟨?_, ?_, ?_⟩⟩) (by rw [hsz]; omega) (by show (acc.push (Value.ref h.objs.size)).size ≤ sizeLine + 1; rw [Array.size_push, hsz]; omega)
    · refine List.pairwise_append.mpr ⟨hG.rise, List.pairwise_singleton _ _, fun b hb b' hb' => ?_⟩
      rw [List.mem_singleton.mp hb']
      exact hG.there hb
    · intro b hb
      rcases List.mem_append.mp hb with hb | hb
      · exact hG.above b hb
      · rw [List.mem_singleton.mp hb]; exact hSl
    · intro j b hj
      rcases Nat.lt_trichotomy j as.length with h1 | h1 | h1
      · rw [List.getElem?_append_left h1] at hj
        obtain ⟨x', y', e1, e2, e3⟩ := hG.pairs j b hj
        have hb := hG.above b (List.mem_of_getElem? hj)
        exact ⟨x', y', e1, e2, up b _ (Nat.ne_of_gt hb) (hkp b _ (Nat.ne_of_gt (Nat.lt_trans hz.1 hb)) (Nat.ne_of_gt (Nat.lt_trans hz.2.1 hb)) (Nat.ne_of_gt (Nat.lt_trans hz.2.2.1 hb)) (Nat.ne_of_gt (Nat.lt_trans hz.2.2.2 hb)) e3)⟩
      · subst h1
        have hb : h.objs.size = b := by simpa using hj
        subst hb
        exact ⟨_, _, by rw [hal]; exact hx, by rw [hal]; exact hy, up _ _ (Nat.ne_of_gt hSl) ht⟩
      · have hnone : (as ++ [h.objs.size])[j]? = none := List.getElem?_eq_none (by rw [List.length_append, List.length_singleton]; omega)
        rw [hnone] at hj; cases hj
end
theorem no_len : typeLookup (.type "zip") "__len__" = pure none := by rw [typeLookup_type, builtinLookup_eq_fast]; kernel_rfl
theorem no_hint : typeLookup (.type "zip") "__length_hint__" = pure none := by rw [typeLookup_type, builtinLookup_eq_fast]; kernel_rfl
section
variable {prog : Program} {w : World} {A : Around} {E : Value → Shared → Prop} {s : Shared} {z TI TO i1 i2 l1 l2 : Addr} {xs ys : Array Value}
theorem extend {R : Result → Shared → Prop} (hh : A.handled = none) {S : Addr} (a : Ax z TI TO i1 i2 l1 l2 S) (hz : z < S ∧ TO < S ∧ i1 < S ∧ i2 < S) (z0 : IsZip s.heap z TI TO .none) (st : Sx s.heap z TI TO i1 i2 l1 l2 S xs ys 0) (n : Nat) (hn : n = min xs.size ys.size) (hn2 : n ≤ sizeLine) (res : Value) (c₀ : Nat)
    (hS : s.heap.get? S = some { cls := .type "list", data := .seq #[] c₀ })
    (hR : ∀ h' tk acc c as, four z TO i1 i2 S s.heap h' → h'.get? S = some { cls := .type "list", dict := none, data := .seq acc c, slots := #[] } → as.length = n → Gx xs ys S h' as →
      acc.toList = as.map Value.ref → R (.ok (.ret res)) { s with heap := h', toks := tk }) :
    wpAny (model prog w) A.in1 (Builtin.List.listExtendWith (.ref S) (.ref z) res)
      (fun fin s' => match fin with | .done f => R (.ok f) s' | .again c' => c'.quiet = true ∧ codeAny (model prog w) A c' R s') (fun e s' => R (.error e) s') s := by
  have hT : s.TypeIs (.ref z) "zip" := ⟨_, z0, rfl⟩
  have key : ∀ (h : Heap) (c₁ tk : Nat), (∀ b o, b ≠ S → s.heap.get? b = some o → h.get? b = some o) → h.get? S = some { cls := .type "list", data := .seq #[] c₁ } →
      codeAny (model prog w) A (.builtin "list.extend.loop" ⟨[.ref S, .ref z, res], []⟩) R { s with heap := h, toks := tk } := fun h c₁ tk hk hS₁ =>
    loop (s := s) (h₁ := s.heap) hh a hz n hn hn2 res hR n 0 h tk c₁ #[] [] (Nat.sub_zero _) (Nat.zero_le _) (st.keep a hk) (fun b o h0 _ _ _ _ e => hk b o h0 e) hS₁ rfl rfl
      ⟨.nil, (fun _ ha => nomatch ha), (fun j b hj => by simp at hj)⟩
  unfold Builtin.List.listExtendWith
  refine wpAny_bind (wpAny_typeOf hT ?_)
  have e1 : Builtin.List.listSameRef (.ref S) (.ref z) = false := by simp [Builtin.List.listSameRef, a.sz]
  have e2 : (Value.type "zip" == Value.type "list") = false := by decide
  have e3 : (Value.type "zip" == Value.type "tuple") = false := by decide
  simp only [e1, e2, e3, Bool.or_false, Bool.false_eq_true, if_false]
  refine wpAny_bind (wpAny_pyIter_zip z0 ?_)
  refine wpAny_bind (wpAny_holding ?_)
  unfold Builtin.List.listLengthHint
  refine wpAny_bind (wpAny_specialOf hT no_len ?_)
  show wpAny _ A.in1 (specialOf (Value.ref z) (Str.ofString "__length_hint__") >>= _) _ _ _
  refine wpAny_bind (wpAny_specialOf hT no_hint ?_)
  refine wpAny_pure ?_
  show wpAny _ A.in1 (rule "list.extend.makes-room" >>= fun _ => Builtin.List.listTouch (.ref S) >>= fun _ => again (.builtin "list.extend.loop" ⟨[.ref S, .ref z, res], []⟩)) _ _ _
  refine wpAny_bind (wpAny_rule (wpAny_bind ?_))
  show wpAny _ A.in1 (updateSeq S (·.push .none) >>= fun _ => updateSeq S (·.pop)) _ _ _
  refine wpAny_bind (wpAny_updateSeq hS rfl ?_)
  have s2 := Heap.get?_update_self (Obj.mapSeq (·.push Value.none)) hS rfl
  refine wpAny_updateSeq (hz := by seq_fits) s2 rfl ?_
  have s3 := Heap.get?_update_self (Obj.mapSeq (·.pop)) s2 rfl
  refine wpAny_pure ⟨plainId_quiet PySem.F.plain_extend_loop _, key _ _ _ (fun b o hb e => ?_) s3⟩
  exact (Heap.get?_update_other _ _ hb.symm).trans ((Heap.get?_update_other _ _ hb.symm).trans e)
theorem init {R : Result → Shared → Prop} (hh : A.handled = none) {S : Addr} (a : Ax z TI TO i1 i2 l1 l2 S) (hz : z < S ∧ TO < S ∧ i1 < S ∧ i2 < S) (z0 : IsZip s.heap z TI TO .none) (st : Sx s.heap z TI TO i1 i2 l1 l2 S xs ys 0) (n : Nat) (hn : n = min xs.size ys.size) (hn2 : n ≤ sizeLine)
    (hS : s.heap.get? S = some { cls := .type "list", data := .seq #[] })
    (hR : ∀ h' tk acc c as, four z TO i1 i2 S s.heap h' → h'.get? S = some { cls := .type "list", dict := none, data := .seq acc c, slots := #[] } → as.length = n → Gx xs ys S h' as →
      acc.toList = as.map Value.ref → R (.ok (.ret .none)) { s with heap := h', toks := tk }) :
    wpAny (model prog w) A.in1 (Builtin.«list.__init__» ⟨[.ref S, .ref z], []⟩)
      (fun fin s' => match fin with | .done f => R (.ok f) s' | .again c' => c'.quiet = true ∧ codeAny (model prog w) A c' R s') (fun e s' => R (.error e) s') s := by
  show wpAny _ A.in1 (Builtin.List.listItems (.ref S) >>= fun old => Builtin.List.listUpdate (.ref S) (fun _ => #[]) >>= fun _ => letGo old.toList.reverse >>= fun _ => Builtin.List.listExtendWith (.ref S) (.ref z) .none) _ _ s
  refine wpAny_bind ?_
  unfold Builtin.List.listItems
  refine wpAny_bind (wpAny_seqItems hS rfl (wpAny_pure ?_))
  show wpAny _ A.in1 (updateSeq S (fun _ => #[]) >>= fun _ => letGo (#[] : Array Value).toList.reverse >>= fun _ => Builtin.List.listExtendWith (.ref S) (.ref z) .none) _ _ s
  refine wpAny_bind (wpAny_updateSeq hS rfl ?_)
  have s2 := Heap.get?_update_self (Obj.mapSeq (fun _ => (#[] : Array Value))) hS rfl
  have oth : ∀ b o, b ≠ S → s.heap.get? b = some o → (s.heap.update S (Obj.mapSeq (fun _ => (#[] : Array Value)))).get? b = some o := fun b o hb e => (Heap.get?_update_other _ _ hb.symm).trans e
  refine wpAny_bind (wpAny_letGo ?_)
  refine extend (n := n) hh a hz (oth _ _ a.sz.symm z0) (st.keep a oth) hn hn2 .none _ s2 fun h' tk acc c as hk hS' hl hG hacc => ?_
  exact hR h' tk acc c as (fun b o h0 h1 h2 h3 h4 e => hk b o h0 h1 h2 h3 h4 (oth b o h0 e)) hS' hl hG hacc
/-- list(zip(a, b)) -/
theorem call_lz {Q : Value → Shared → Prop} (hh : A.handled = none) (D : ZipApart z TI TO i1 i2 l1 l2) (z0 : IsZip s.heap z TI TO .none) (hTI : IsPair s.heap TI (.ref i1) (.ref i2)) (hTO : IsPair s.heap TO .none .none)
    (h1 : s.heap.IsListIter i1 l1 0) (h2 : s.heap.IsListIter i2 l2 0) (hl1 : s.heap.IsList l1 xs) (hl2 : s.heap.IsList l2 ys) (n : Nat) (hn : n = min xs.size ys.size) (hn2 : n ≤ sizeLine)
    (hQ : ∀ h' tk acc c as, (∀ b o, b ≠ z → b ≠ TO → b ≠ i1 → b ≠ i2 → s.heap.get? b = some o → h'.get? b = some o) → h'.get? s.heap.objs.size = some { cls := .type "list", dict := none, data := .seq acc c, slots := #[] } → as.length = n → Gx xs ys s.heap.objs.size h' as →
      acc.toList = as.map Value.ref → Q (.ref s.heap.objs.size) { s with heap := h', toks := tk }) :
    wpAny (model prog w) A (call (.type "list") [.ref z]) Q E s := by
  have lt : ∀ {b : Addr} {o : Obj}, s.heap.get? b = some o → b < s.heap.objs.size := fun e => Heap.lt_size e
  have q1 := lt z0
  have q2 := lt hTI
  have q3 := lt hTO
  have q4 : i1 < s.heap.objs.size := by obtain ⟨o, ho, _⟩ := h1; exact lt ho
  have q5 : i2 < s.heap.objs.size := by obtain ⟨o, ho, _⟩ := h2; exact lt ho
  have q6 : l1 < s.heap.objs.size := by obtain ⟨o, ho, _⟩ := hl1; exact lt ho
  have q7 : l2 < s.heap.objs.size := by obtain ⟨o, ho, _⟩ := hl2; exact lt ho
  refine callType_codes (Q₁ := fun obj s₁ => obj = .ref s.heap.objs.size ∧ s₁ = { s with heap := s.heap.push { cls := .type "list", data := .seq #[] } }) PySem.F.called_list (PySem.F.typeCall_list_1 _) PySem.F.entry_list_init
    (code_list_new _ (And.intro rfl rfl)) fun obj s₁ h₁ => ?_
  obtain ⟨rfl, rfl⟩ := h₁
  have pu : ∀ b o, s.heap.get? b = some o → (s.heap.push { cls := .type "list", data := .seq #[] }).get? b = some o := fun b o e => Heap.get?_push_of_some _ e
  have hS : (s.heap.push { cls := .type "list", data := .seq #[] }).get? s.heap.objs.size = some { cls := .type "list", data := .seq #[] } := Heap.get?_push_size _ rfl
  refine And.intro ⟨_, hS, rfl⟩ (And.intro (PySem.F.args_list_init_2 _ _) (init (A := A.in1) hh (S := s.heap.objs.size) { toZipApart := D, sz := Nat.ne_of_gt q1, sTI := Nat.ne_of_gt q2, sTO := Nat.ne_of_gt q3, si1 := Nat.ne_of_gt q4, si2 := Nat.ne_of_gt q5, sl1 := Nat.ne_of_gt q6, sl2 := Nat.ne_of_gt q7 } ⟨q1, q3, q4, q5⟩ (pu _ _ z0) ⟨pu _ _ hTI, h1.at fun o e => pu _ o e, h2.at fun o e => pu _ o e, ?_, ?_, .inl ⟨_, _, pu _ _ z0, pu _ _ hTO⟩⟩ n hn hn2 hS fun h' tk acc c as hk hS' hl hG hacc => ?_))
  · obtain ⟨o, ho, r⟩ := hl1; exact ⟨o, pu _ _ ho, r⟩
  · obtain ⟨o, ho, r⟩ := hl2; exact ⟨o, pu _ _ ho, r⟩
  · exact ⟨rfl, hQ h' tk acc c as (fun b o c1 c2 c3 c4 e => hk b o (Nat.ne_of_lt (lt e)) c1 c2 c3 c4 (pu b o e)) hS' hl hG hacc⟩
end
end TLzl
end

section
set_option Elab.async false
set_option linter.all false
set_option autoImplicit false
set_option maxRecDepth 100000
set_option maxHeartbeats 1000000
/-! list(zip(a, b)), on the abstract heap -/
namespace TLzl
open PySem PySem.Spec PyProof.Rows L2
def putP : Hp → List Addr → List (V × V) → Hp
  | H, a :: as, p :: ps => putP (upd H a (.tup [p.1, p.2])) as ps
  | H, _, _ => H
theorem putP_off {b : Addr} : ∀ (as : List Addr) (ps : List (V × V)) (H : Hp), b ∉ as → putP H as ps b = H b
  | [], _, _, _ => rfl
  | _ :: _, [], _, _ => rfl
  | a :: as, p :: ps, H, h => by
    unfold putP
    rw [putP_off as ps _ (fun z => h (by simp [z])), upd_ne (fun z => h (by simp [z]))]
theorem putP_at : ∀ (as : List Addr) (ps : List (V × V)) (H : Hp), as.length = ps.length → as.Nodup → Paired (fun (t : Addr) (p : V × V) => putP H as ps t = some (.tup [p.1, p.2])) as ps
  | [], [], _, _, _ => .nil
  | [], _ :: _, _, h, _ => by cases h
  | _ :: _, [], _, h, _ => by cases h
  | a :: as, p :: ps, H, h, hn => by
    have hn' := List.nodup_cons.mp hn
    refine .cons ?_ (putP_at as ps (upd H a (.tup [p.1, p.2])) (Nat.succ.inj h) hn'.2)
    unfold putP
    rw [putP_off as ps _ hn'.1, upd_same]
theorem laid {X : Cx} {pins : List (Addr × Obj)} {σ : L2.St} {H : Hp} {s : Shared} {h' : Heap} {tk : Nat} {ps : List (V × V)} {xs ys : Array Value} {acc : Array Value} {c : Nat} {as : List Addr} {S : Addr} (I : Inv X pins σ H s) (hS0 : s.heap.objs.size ≤ S) (hz : ps.length ≤ sizeLine)
    (hk : ∀ b o, s.heap.get? b = some o → h'.get? b = some o) (hS : h'.get? S = some { cls := .type "list", dict := none, data := .seq acc c, slots := #[] }) (hl : as.length = ps.length) (hG : Gx xs ys S h' as) (hacc : acc.toList = as.map Value.ref)
    (rel : ∀ (j : Nat) (p : V × V), ps[j]? = some p → ∃ x y, xs[j]? = some x ∧ ys[j]? = some y ∧ RelV p.1 x ∧ RelV p.2 y) :
    ∃ H' : Hp, (∀ b o, H b = some o → H' b = some o) ∧ H S = none ∧ (∀ t ∈ as, H t = none) ∧ S ∉ as ∧ H' S = some (.lst (as.map V.ref)) ∧ Paired (fun (t : Addr) (q : V × V) => H' t = some (.tup [q.1, q.2])) as ps ∧ Inv X pins σ H' { s with heap := h', toks := tk } := by
  have hSn : S ∉ as := fun z => Nat.lt_irrefl _ (hG.above _ z)
  have nd : as.Nodup := List.Pairwise.imp (fun {a b} (h : a < b) => Nat.ne_of_lt h) hG.rise
  have new : ∀ t ∈ as, H t = none := fun t ht => I.hok.fresh (Nat.le_trans hS0 (Nat.le_of_lt (hG.above t ht)))
  have newS : H S = none := I.hok.fresh hS0
  have atP := putP_at as ps (upd H S (.lst (as.map V.ref))) hl nd
  have off : ∀ b, b ∉ as → b ≠ S → putP (upd H S (.lst (as.map V.ref))) as ps b = H b := fun b h1 h2 => by rw [putP_off as ps _ h1, upd_ne h2]
  have low : ∀ b o, s.heap.get? b = some o → b ∉ as ∧ b ≠ S := fun b o e => ⟨fun z => absurd (Heap.lt_size e) (Nat.not_lt.mpr (Nat.le_trans hS0 (Nat.le_of_lt (hG.above b z)))), fun z => absurd (Heap.lt_size e) (Nat.not_lt.mpr (z ▸ hS0))⟩
  have kp : ∀ b u, H b = some u → (putP (upd H S (.lst (as.map V.ref))) as ps) b = some u := fun b u e => by
    rw [off b (fun z => by rw [new b z] at e; cases e) (fun z => by rw [z, newS] at e; cases e)]
    exact e
  have eS : putP (upd H S (.lst (as.map V.ref))) as ps S = some (.lst (as.map V.ref)) := by rw [putP_off as ps _ hSn, upd_same]
  refine ⟨putP (upd H S (.lst (as.map V.ref))) as ps, kp, newS, new, hSn, eS, atP, ?_⟩
  refine I.call' (ch := []) rfl ⟨fun b o q _ _ _ => hk b o q, fun b o q _ _ _ => ⟨o.slots, hk b o q⟩, fun b o q n _ => ?_, fun b o q _ => ⟨o, hk b o q⟩, fun b xs q => kp b _ q, fun b o u q => kp b _ q, fun b ps q => ⟨#[], by rw [kp b _ q]; simp⟩⟩ (fun b u q => ?_) I.bare fun b z => by simp at z
  · obtain ⟨z1, z2⟩ := low b o q
    rw [off b z1 z2]
    exact n
  · by_cases hb : b ∈ as
    · obtain ⟨j, pk, e1, e2, e3⟩ := LiI.paired_ix atP hb
      rw [e3] at q
      cases q
      obtain ⟨x, y, f1, f2, f3⟩ := hG.pairs j b e1
      obtain ⟨x', y', g1, g2, g3, g4⟩ := rel j pk e2
      rw [f1] at g1; rw [f2] at g2
      cases g1; cases g2
      exact ⟨by show 2 ≤ sizeLine; decide, [x, y], .cons g3 (.cons g4 .nil), ⟨_, f3, rfl, _, rfl⟩⟩
    · by_cases hb2 : b = S
      · rw [hb2] at q ⊢
        rw [eS] at q
        cases q
        refine ⟨by rw [List.length_map]; omega, acc.toList, c, by rw [hacc]; exact LiI.vals_refs as, ?_⟩
        rw [Array.toArray_toList]
        exact hS
      · rw [off b hb hb2] at q
        exact (I.hok b u q).stay (fun d v _ y => hk d v y) (fun d y => kp d _ y) fun d xs y => kp d _ y
def rLZ (K : PySem.W.Frag) : List V → Hp → VK → Prop := fun vs H Q => ∃ (a b : Addr) (xs ys : List V), vs = [.ref a, .ref b] ∧ SqL K H a xs ∧ SqL K H b ys ∧ (xs.zip ys).length ≤ sizeLine ∧
  ∀ (H' : Hp) (p : Addr) (ts : List Addr), (∀ b o, H b = some o → H' b = some o) → H p = none → (∀ t ∈ ts, H t = none) → p ∉ ts → H' p = some (.lst (ts.map V.ref)) → Paired (fun (t : Addr) (q : V × V) => H' t = some (.tup [q.1, q.2])) ts (xs.zip ys) → Q (.ref p) H'
theorem pe_lZip {X : Cx} {e e2 : Expr} {ta : TA} {p p2 pos pos2 : Pos} (hc : X.calm = true) (hgl : Gl X "list") (hml : X.mg "list" = none) (hg : Gl X "zip") (hm : X.mg "zip" = none) (ha : PA X [e, e2] ta)
    (hdl : (("list" : Str) == ("__debug__" : Str)) = false := by decide) (hnl : ("list" : Str) ≠ "__name__" := by decide)
    (hs : starEach [e, e2] X.env = (false, eval e X.env) :: starEach [e2] X.env := by rfl) (hpl : (backTo pos (starEach [e2] X.env)).any (·.1) = false := by rfl)
    (hs1 : starEach [.Call (.Name "zip" p) [e, e2] [] pos] X.env = (false, eval (.Call (.Name "zip" p) [e, e2] [] pos) X.env) :: starEach [] X.env := by rfl) :
    PE X (.Call (.Name "list" p2) [.Call (.Name "zip" p) [e, e2] [] pos] [] pos2) (fun σ H Q => ta σ H fun vs H1 => rLZ X.K vs H1 Q) := by
  refine ⟨fun pins s σ H Q I h => wpAny_Call_Name_kw (ld_blt I hgl hml PyProof.Rows.boot_list ?_ hnl hdl)⟩
  refine PyProof.Rows.callWith_type1 ?_ hs1 rfl
  rw [hs1]; show wpAny _ _ (spliced ((false, eval (.Call (.Name "zip" p) [e, e2] [] pos) X.env) :: backTo pos2 (starEach [] X.env))) _ _ s
  refine Calls.spliced_cons (Call_ (ld_blt I hg hm PyProof.Rows.boot_zip (PyProof.Rows.callWith_type1 (thn (ha.run pos pins s σ H _ I h) fun us s1 ⟨vs, H1, I1, r1, q1⟩ => ?_) hs hpl)))
  obtain ⟨a, b, xs, ys, ex, hqx, hqy, hn, q⟩ := q1
  subst ex
  cases r1 with
  | cons r rr =>
    cases rr with
    | cons r' rr =>
      cases rr
      cases r
      cases r'
      obtain ⟨its, rv, p1, _⟩ := I1.list hqx
      obtain ⟨its2, rv2, p2', _⟩ := I1.list hqy
      refine call_zip_2 p1.isList p2'.isList fun h' hz hTI hTO h1 h2 hsz hk => Calls.spliced_nil ?_
      have l1 := PySem.Paired.length rv
      have l2 := PySem.Paired.length rv2
      have b1 : h'.IsList a its.toArray := by obtain ⟨o, ho, r⟩ := p1.isList; exact ⟨o, hk _ _ ho, r⟩
      have b2 : h'.IsList b its2.toArray := by obtain ⟨o, ho, r⟩ := p2'.isList; exact ⟨o, hk _ _ ho, r⟩
      refine call_lz (s := { s1 with heap := h' }) (n := (xs.zip ys).length) (I1.ok.hd hc) (PySem.W.ktu_apart s1.heap.objs.size a b p1.lt p2'.lt) hz hTI hTO h1 h2 b1 b2 (by rw [List.length_zip, l1, l2]; simp) hn fun h'' tk acc c as hk2 hS hl hG hacc => ?_
      have hkk : ∀ b o, s1.heap.get? b = some o → h''.get? b = some o := fun b o e => by
        have := Heap.lt_size e
        exact hk2 b o (Nat.ne_of_lt (Nat.lt_of_lt_of_le this (Nat.le_add_right _ _))) (Nat.ne_of_lt (Nat.lt_of_lt_of_le this (Nat.le_add_right _ _))) (Nat.ne_of_lt this) (Nat.ne_of_lt (Nat.lt_of_lt_of_le this (Nat.le_add_right _ _))) (hk b o e)
      obtain ⟨H', z1, z2, z3, z4, z5, z6, J⟩ := laid (tk := tk) (ps := xs.zip ys) I1 (S := h'.objs.size) (by omega) hn hkk hS hl hG hacc fun j pr hj => by
        rw [List.getElem?_zip_eq_some] at hj
        obtain ⟨u, e1, e2⟩ := LiI.paired_get rv hj.1
        obtain ⟨v, e3, e4⟩ := LiI.paired_get rv2 hj.2
        exact ⟨u, v, by simpa using e1, by simpa using e3, e2, e4⟩
      exact ⟨.ref _, H', J, rfl, q H' _ as z1 z2 z3 z4 z5 z6⟩
end TLzl
end

section
set_option Elab.async false
set_option linter.all false
set_option autoImplicit false
set_option maxRecDepth 100000
namespace TL
open PySem PySem.Spec PyProof.Rows L2
variable [TabL]
section
variable {X : Cx} {E : XK} {sc : Scope} {N : List Str} {k j : Nat} {df : Bool} {W : List Kd} {pos : Pos}
def kLZip (d e : D) (g : List D) : R D := match d, e with
  | .lst xs, .lst ys => if (zipD xs ys).length ≤ 16777216 then .ok (.lst (zipD xs ys)) g else .no
  | _, _ => .no
def mLZip (a : M (List D)) : M D := fun ρ g => (a ρ g).bind fun ds g' => match ds with | [d, e] => kLZip d e g' | _ => .no
theorem zip_pd2 {Z : Wd} {f : Fz} {H' : Hp} : ∀ {xs ys : List D} {vs ws : List V} {ts : List Addr}, Paired (Rp Z f) xs vs → Paired (Rp Z f) ys ws → Paired (fun (t : Addr) (q : V × V) => H' t = some (.tup [q.1, q.2])) ts (vs.zip ws) → (∀ t ∈ ts, ∀ o, H' t = some o → f.F t = some o) → Paired (Rp Z f) (zipD xs ys) (ts.map V.ref)
  | [], _, _, _, _, .nil, _, h, _ => by simp at h; cases h; exact .nil
  | _ :: _, [], _, _, _, .cons _ _, .nil, h, _ => by simp at h; cases h; exact .nil
  | x :: xs, y :: ys, _, _, ts, .cons r1 t1, .cons r2 t2, h, hf => by
    cases h with
    | @cons a _ as _ h1 h2 =>
      refine .cons ?_ (zip_pd2 t1 t2 h2 fun t ht => hf t (by simp [ht]))
      simp only [Rp]
      exact ⟨a, _, rfl, .inl (hf a (by simp) _ h1), rpL_iff.mpr (.cons r1 (.cons r2 .nil))⟩
theorem pair_has2 {H' : Hp} : ∀ {ts : List Addr} {ws : List (V × V)}, Paired (fun (t : Addr) (q : V × V) => H' t = some (.tup [q.1, q.2])) ts ws → ∀ {t : Addr}, t ∈ ts → ∃ q : V × V, H' t = some (.tup [q.1, q.2])
  | _, _, .nil, t, h => by simp at h
  | _, _, .cons r rr, t, h => by
    rcases List.mem_cons.mp h with rfl | h
    · exact ⟨_, r⟩
    · exact pair_has2 rr h
theorem fx_lZip (G : Gd X E sc N k df) (hl : X.mg "list" = none) (hm : X.mg "zip" = none) {p p2 pos2 : Pos} {e e2 : Expr} {ma : M (List D)} (ha : AX X E W [e, e2] ma) (hg : glB sc "zip" = true := by rfl) (hg2 : glB sc "list" = true := by rfl) (hs : starEach [e, e2] X.env = (false, eval e X.env) :: starEach [e2] X.env := by rfl) (hpl : (backTo pos (starEach [e2] X.env)).any (·.1) = false := by rfl)
    (hs1 : starEach [.Call (.Name "zip" p) [e, e2] [] pos] X.env = (false, eval (.Call (.Name "zip" p) [e, e2] [] pos) X.env) :: starEach [] X.env := by rfl) :
    FX X E W (.Call (.Name "list" p2) [.Call (.Name "zip" p) [e, e2] [] pos] [] pos2) (mLZip ma) := PE.imp (TLzl.pe_lZip G.calm (G.gl hg2).1 hl (G.gl hg).1 hm ha (G.gl hg2).2.1 (G.gl hg2).2.2 hs hpl hs1) fun σ H Q q => by
  obtain ⟨f, ρ, g, s, hs, p⟩ := q
  refine ⟨f, ρ, g, s, hs, postF.bind p fun ds g1 vs H1 f1 _ e1 hs1 r1 p1 => ?_⟩
  split at p1
  · rename_i d e'
    cases r1 with
    | cons r1 rr =>
      cases rr with
      | cons r2 rr =>
        cases rr
        unfold kLZip at p1
        split at p1
        · rename_i xs ys
          split at p1
          · rename_i hlen
            simp only [Rp] at r1 r2
            obtain ⟨a, us, rfl, ea, pa⟩ := r1
            obtain ⟨b, ws, rfl, eb, pb⟩ := r2
            have pa := rpL_iff.mp pa
            have pb := rpL_iff.mp pb
            have l1 := PySem.Paired.length pa
            have l2 := PySem.Paired.length pb
            refine ⟨a, b, us, ws, rfl, .of (hs1.fr _ _ ea), .of (hs1.fr _ _ eb), ?_, fun H' q' ts k1 k2 k3 k4 k5 k6 => ?_⟩
            · rw [sl_eq, List.length_zip, ← l1, ← l2]
              rw [zipD_len] at hlen
              exact hlen
            · obtain ⟨f', z1, z2, z3, z4, z5⟩ := laid_many (Z := wd X) hs1 k1 k2 k3 k4 (fun t ht o e => by
                obtain ⟨q, hq⟩ := pair_has2 k6 ht
                rw [hq] at e; cases e; exact ctB_nt rfl)
              exact p1 q' (.lst (ts.map V.ref)) H' f' z1 z2 ⟨New.of k2, k5, z3, z4, zip_pd2 (L2.Paired.mapP pa fun _ _ z => z.mono z1.le) (L2.Paired.mapP pb fun _ _ z => z.mono z1.le) k6 z5, rfl⟩
          · exact p1.elim
        · exact p1.elim
  · exact p1.elim
end
/-! ### defs with lambdas -/
def lamQ (qual : Str) : Str := (qual ++ ".<locals>.") ++ "<lambda>"
/-- where a lambda stands -/
structure Lm (X : Cx) (q : Str) : Prop where
  ex : ∃ (c P : Addr), LamX.TabB X.base X.mg c P ∧ X.env.code = .ref c ∧ X.env.qual ++ "<lambda>" = q ∧ (P, q) ∈ TabL.T ∧ ∀ p ∈ TabL.T, p.1 = P → p.2 = q
structure Ld (K : PySem.W.Frag) (mg : Str → Option Value) (base : Heap) (x q : Str) : Prop where
  ex : ∃ (f c P : Addr) (oc : Value) (od : Option Addr) (fd : FuncData) (osl : Array (Option Value)), mg x = some (.ref f) ∧ K.lookup f = some ⟨oc, od, .func fd, osl⟩ ∧ fd.code = .ref c ∧ LamX.TabB base mg c P ∧ (P, q) ∈ TabL.T ∧ ∀ p ∈ TabL.T, p.1 = P → p.2 = q
theorem px_metL {X : Cx} {E : XK} {sc : Scope} {N : List Str} {k : Nat} {df : Bool} {W : List Kd} {pos : Pos} (G : Gd X E sc N k df) {x a t0 : Str} {l : List (Str × Str × Str)} {es : List Str} {q : Str} {params : Arguments} {body : Expr} {scope : Scope} {p lpos : Pos} {m : M D} {k' : Nat} (md : MetD X.K X.mg x a t0 l es) (L : Lm X q)
    (hb : ∀ (A : Around) (outer : List Env) (s : Shared) (H : Hp) (E' : XK) (f c' : Addr), Room k' (A.deeper (LamX.lamEnv X scope s.heap.objs.size f c')) → PX (LamX.lamCx X A outer s H E' scope f c') E' W body m)
    (hk : k' + 2 ≤ k := by omega) (hL : LamX.lamSB sc scope = true := by rfl) (hdef : defaultsOf params X.env = ([], []) := by rfl)
    (hbind : ∀ (q : Str) (cl : List (Str × Addr)) (pm cv ctv : Value), bindArgs (PySem.W.kla_fn "<lambda>" q params body scope cl pm cv ctv) ⟨[], []⟩ = pure [] := by intros; rfl) (hg : glB sc x = true := by rfl) :
    PX X E W (.Call (.Name x p) [.Lambda params body scope lpos] [] pos) (mMet es t0 l m) := by
  obtain ⟨c, P, TB, h1, h2, h3, h4⟩ := L.ex
  exact px_met G md TB h1 h2 h3 h4 hb hk hL hdef hbind hg
section
variable {P : Program} {w : World} {K : PySem.W.Frag} {mg : Str → Option Value} {base : Heap} {x qual c : Str} {st : Stmt} {ps N : List Str} {k p n : Nat} {b : MS} {Wn : List Kd}
theorem Dd.fnL (d : Dd K mg x qual st ps) (l : Ld K mg base x (lamQ qual)) (S : FnScope N ps (defScope st)) (hs : scOk (defScope st) = true) (hp : ps.length = p) (hn : N.length = p + n)
    (body : ∀ (X : Cx) (E : XK), X.prog = P → X.w = w → X.K = K → X.mg = mg → X.base = base → Gd X E (defScope st) N k true → Lm X (lamQ qual) → BX X E [] (W0 p n) (defBody st) Wn b) : Df P w K mg base (k + 1) x p (mFn n b) := by
  obtain ⟨f, fd, hm, F, hb⟩ := d.ex
  obtain ⟨f', c', P', oc', od', fd', osl', hm', lk', hc', TB, hT, hu⟩ := l.ex
  rw [hm] at hm'; cases hm'
  have kp := F.kp
  obtain ⟨oc, od, kV, doc, pm, an, cdv, ct, osl, rfl, lk, hcd⟩ := F.ex
  rw [lk] at lk'
  cases lk'
  have hcv : cdv = .ref c' := hc'
  subst hcv
  refine ⟨f, _, ps, hp, hm, kp, hb, fn_of lk hcd S (fun vs H Q E h => ?_) (fun A outer s H vs Q E hr h => ?_)⟩
  · obtain ⟨f, ds, g, h1, h2, _⟩ := h
    rw [hp, ← PySem.Paired.length h2, h1]
  · refine ⟨_, body _ E rfl rfl rfl rfl rfl (gd_of rfl S hs hr) ⟨c', P', TB, rfl, rfl, hT, hu⟩, ?_⟩
    obtain ⟨f', ds, g, h1, h2, h3, h4⟩ := h
    refine ⟨⟨H, f', none⟩, f', ds ++ List.replicate n D.non, g, start_ss hn h1 h2 h3, ?_⟩
    have h4 : post (relD ⟨K, mg, TabL.T⟩) ⟨K, mg, TabL.T⟩ E H f' (b (ds ++ List.replicate n .non) g).fn Q := h4
    cases hb : b (ds ++ List.replicate n .non) g with
    | nx ρ g' => rw [hb] at h4; exact fun σ' H' f2 l s' => h4 .non H' f2 s'.ex s'.hs (by simp only [Rp])
    | rt d g' => rw [hb] at h4; exact fun v H' f2 e hs r => h4 v H' f2 e hs r
    | ex x g' => rw [hb] at h4; exact h4
    | ro _ _ => rw [hb] at h4; exact h4.elim
    | bk _ _ => rw [hb] at h4; exact h4.elim
    | ct _ _ => rw [hb] at h4; exact h4.elim
    | no => rw [hb] at h4; exact h4.elim
theorem Df.drop {P : Program} {w : World} {K : PySem.W.Frag} {mg : Str → Option Value} {base : Heap} {k p : Nat} {x : Str} {m : MF} (d : Df P w K mg base k x p m) : Df P w K mg base k x p (mDrop m) := by
  obtain ⟨f, fd, ps, h1, h2, h3, h4, F⟩ := d.ex
  exact ⟨f, fd, ps, h1, h2, h3, h4, F.imp fun _ _ _ _ q => spT_drop q⟩
end
end TL
end

section
set_option Elab.async false
set_option linter.all false
set_option autoImplicit false
set_option maxRecDepth 100000
/-! TL: a comprehension over what may be hot, the hot things standing still -/
namespace TL
open PySem PySem.Spec PyProof.Rows L2
variable [TabL]
mutual
def eqD : D → D → Bool
  | .non, .non => true
  | .bl a, .bl b => a == b
  | .int a, .int b => a == b
  | .str a, .str b => a == b
  | .lst a, .lst b => eqDL a b
  | .tup a, .tup b => eqDL a b
  | .dct a, .dct b => eqDK a b
  | .ins c a, .ins c' b => c == c' && eqDF a b
  | .fn a, .fn b => a == b
  | .hot a, .hot b => a == b
  | .gv a, .gv b => a == b
  | .exc c a, .exc c' b => c == c' && eqDF a b
  | .lam q a, .lam q' b => q == q' && a == b
  | _, _ => false
def eqDL : List D → List D → Bool
  | [], [] => true
  | a :: r, b :: t => eqD a b && eqDL r t
  | _, _ => false
def eqDK : List (Key × D) → List (Key × D) → Bool
  | [], [] => true
  | (q, a) :: r, (q', b) :: t => decide (q = q') && (eqD a b && eqDK r t)
  | _, _ => false
def eqDF : List (Str × D) → List (Str × D) → Bool
  | [], [] => true
  | (q, a) :: r, (q', b) :: t => decide (q = q') && (eqD a b && eqDF r t)
  | _, _ => false
end
mutual
theorem eqD_ok : ∀ a b : D, eqD a b = true → a = b
  | a, b, h => by
    cases a <;> cases b <;> simp only [eqD, Bool.false_eq_true, Bool.and_eq_true, beq_iff_eq] at h <;> first | rfl | (rw [h]) | (rw [eqDL_ok _ _ h]) | (rw [eqDK_ok _ _ h]) | (rw [h.1, eqDF_ok _ _ h.2]) | (rw [h.1, h.2])
theorem eqDL_ok : ∀ a b : List D, eqDL a b = true → a = b
  | [], b, h => by cases b <;> simp [eqDL] at h ⊢
  | x :: r, b, h => by
    cases b with
    | nil => simp [eqDL] at h
    | cons y t =>
      simp only [eqDL, Bool.and_eq_true] at h
      rw [eqD_ok _ _ h.1, eqDL_ok _ _ h.2]
theorem eqDK_ok : ∀ a b : List (Key × D), eqDK a b = true → a = b
  | [], b, h => by cases b <;> simp [eqDK] at h ⊢
  | (q, x) :: r, b, h => by
    cases b with
    | nil => simp [eqDK] at h
    | cons y t =>
      obtain ⟨q', y⟩ := y
      simp only [eqDK, Bool.and_eq_true, decide_eq_true_eq] at h
      rw [h.1, eqD_ok _ _ h.2.1, eqDK_ok _ _ h.2.2]
theorem eqDF_ok : ∀ a b : List (Str × D), eqDF a b = true → a = b
  | [], b, h => by cases b <;> simp [eqDF] at h ⊢
  | (q, x) :: r, b, h => by
    cases b with
    | nil => simp [eqDF] at h
    | cons y t =>
      obtain ⟨q', y⟩ := y
      simp only [eqDF, Bool.and_eq_true, decide_eq_true_eq] at h
      rw [h.1, eqD_ok _ _ h.2.1, eqDF_ok _ _ h.2.2]
end
mutual
theorem eqD_rf : ∀ a : D, eqD a a = true
  | .non | .bl _ | .int _ | .str _ | .fn _ | .hot _ | .gv _ => by simp [eqD]
  | .lst xs => by simp only [eqD]; exact eqDL_rf xs
  | .tup xs => by simp only [eqD]; exact eqDL_rf xs
  | .dct xs => by simp only [eqD]; exact eqDK_rf xs
  | .ins c xs => by simp only [eqD, beq_self_eq_true, Bool.true_and]; exact eqDF_rf xs
  | .exc c xs => by simp only [eqD, beq_self_eq_true, Bool.true_and]; exact eqDF_rf xs
  | .lam q xs => by simp only [eqD, beq_self_eq_true, Bool.and_self]
theorem eqDL_rf : ∀ a : List D, eqDL a a = true
  | [] => by simp [eqDL, eqDK, eqDF]
  | x :: r => by simp only [eqDL, eqD_rf x, eqDL_rf r, Bool.and_self]
theorem eqDK_rf : ∀ a : List (Key × D), eqDK a a = true
  | [] => by simp [eqDL, eqDK, eqDF]
  | (q, x) :: r => by simp only [eqDK, eqD_rf x, eqDK_rf r, Bool.and_self, decide_true]
theorem eqDF_rf : ∀ a : List (Str × D), eqDF a a = true
  | [] => by simp [eqDL, eqDK, eqDF]
  | (q, x) :: r => by simp only [eqDF, eqD_rf x, eqDF_rf r, Bool.and_self, decide_true]
end
def compLg (k : KT) (c : M Bool) (e : M D) : List D → List D → List D → R (List D)
  | [], _, g => .ok [] g
  | d :: ds, ρ, g => match k d ρ g with
    | none => .no
    | some ρ1 => (c ρ1 g).nox.bind fun t g1 => if eqDL g1 g = true then (if t = true then
        (e ρ1 g1).nox.bind fun y g2 => if eqDL g2 g1 = true then (compLg k c e ds ρ g2).bind fun ys g3 => .ok (y :: ys) g3 else .no
      else compLg k c e ds ρ g1) else .no
def mCompG (mi : M (List D)) (k : KT) (c : M Bool) (e : M D) : M D := fun ρ g => (mi ρ g).bind fun ds g' => (compLg k c e ds ρ g').bind kList
theorem compLg_nox {k : KT} {c : M Bool} {e : M D} : ∀ {ds : List D} {ρ g : List D} {x : Exc} {g' : List D}, compLg k c e ds ρ g ≠ .ex x g'
  | [], ρ, g, x, g', h => by simp [compLg] at h
  | d :: ds, ρ, g, x, g', h => by
    simp only [compLg] at h
    cases hk : k d ρ g with
    | none => rw [hk] at h; cases h
    | some ρ1 =>
      rw [hk] at h
      dsimp only at h
      cases hc : c ρ1 g with
      | ok t g1 =>
        rw [hc] at h
        simp only [R.nox, R.bind] at h
        split at h
        · cases t with
          | false => rw [if_neg (by decide)] at h; exact compLg_nox h
          | true =>
            rw [if_pos rfl] at h
            cases he : e ρ1 g1 with
            | ok y g2 =>
              rw [he] at h
              simp only [R.nox, R.bind] at h
              split at h
              · cases hr : compLg k c e ds ρ g2 with
                | ok a g3 => rw [hr] at h; cases h
                | ex x' g3 => exact compLg_nox hr
                | no => rw [hr] at h; cases h
              · cases h
            | ex _ _ => rw [he] at h; cases h
            | no => rw [he] at h; cases h
        · cases h
      | ex _ _ => rw [hc] at h; cases h
      | no => rw [hc] at h; cases h
/-- as long as P, and the hot things stand still -/
def ItPg (Z : Wd) (P : Hp → Fz → Prop) (g : List D) (J : It) (ds : List D) (f : Fz) : Prop :=
  ∀ H' f', Le f f' → P H' f' → Hs Z H' f' g → ∀ i, (i < ds.length → J.go i H' ∧ ∀ x H'', J.yld i H' x H'' → ∃ f'', Ex H' f' H'' f'' ∧ Hs Z H'' f'' g ∧ Rp Z f'' (ds.getD i .non) x) ∧ (ds.length ≤ i → J.stop i H')
def postIpg (Z : Wd) (E : XK) (P : Hp → Fz → Prop) (H : Hp) (f : Fz) (r : R (List D)) (Q : It → Hp → Prop) : Prop :=
  match r with
  | .ok ds g' => ∀ J H' f', Ex H f H' f' → Hs Z H' f' g' → ItPg Z P g' J ds f' → Q J H'
  | .ex x g' => pEx Z E H f x g'
  | .no => False
def tIpg (Z : Wd) (E : XK) (W : List Kd) (m : M (List D)) : TI := fun σ H Q => ∃ f ρ g, Sr Z W σ ρ H f ∧ Hs Z H f g ∧ postIpg Z E (Ex H f) H f (m ρ g) Q
def JXg (X : Cx) (E : XK) (W : List Kd) (tg e : Expr) (m : M (List D)) : Prop := PI X tg e (tIpg (wd X) E W m)
def compWishG (Z : Wd) (E : XK) (H0 : Hp) (f0 : Fz) (k : KT) (c : M Bool) (e : M D) (Dd : Addr) (Q : VK) (ds : List D) (ρ : List D) (acc : List D) (H : Hp) (f : Fz) (g : List D) : Prop :=
  Ex H0 f0 H f ∧ Hs Z H f g ∧ f.F Dd = none ∧ Dd ∉ f.e ∧ (∃ vs, H Dd = some (.lst vs) ∧ Paired (Rp Z f) acc vs) ∧ postF Z E H0 f0 ((compLg k c e ds ρ g).bind fun ys g' => kList (acc ++ ys) g') Q
theorem lc_runG {Z : Wd} {E : XK} {W Wt : List Kd} {T vs : List Nat} {k : KT} {c : M Bool} {e : M D} {wi : TI} {g0 : TG} {tt : TT} {te : TE} {mi : M (List D)} {σ : L2.St} {H : Hp} {Q : VK} (hT : ∀ i ∈ T, i ∈ vs)
    (hi : ∀ σ H R, tIpg Z E W mi σ H R → wi σ H R) (hg : ∀ v σ H Q, tGt Z (Wwipe W vs) Wt T k v σ H Q → g0 v σ H Q) (ht : ∀ σ H Q, tT Z EN Wt c σ H Q → tt σ H Q) (he : ∀ σ H Q, tE Z EN Wt e σ H Q → te σ H Q)
    (q : tF Z E W (mCompG mi k c e) σ H Q) : tLc wi g0 tt te vs σ H Q := by
  obtain ⟨f, ρ, g, s, hs, p⟩ := q
  refine hi _ _ _ ⟨f, ρ, g, s, hs, ?_⟩
  have p0 : postF Z E H f ((mi ρ g).bind fun ds g' => (compLg k c e ds ρ g').bind kList) Q := p
  cases hr : mi ρ g with
  | ex x g' => rw [hr] at p0; exact p0
  | no => rw [hr] at p0; exact p0
  | ok ds g1 =>
    rw [hr] at p0
    have p1 : postF Z E H f ((compLg k c e ds ρ g1).bind kList) Q := p0
    intro J H1 f1 ex1 hs1 it Dd hD
    have s1 := s.ext ex1
    have n1 := hs1.free hD
    have hD0 : New H Dd := new_back ex1 (New.of hD) n1.2
    have hown : ∀ (i : Nat) (b : Addr), (W[i]? = some .ow ∨ W[i]? = some .lk) → σ[i]? = some (some (.ref b)) → b ≠ Dd := fun i b h1 h2 => by
      rcases h1 with h1 | h1
      · obtain ⟨b', o', e1, _, _, h, _⟩ := s1.slot i .ow h1
        rw [h2] at e1; cases e1
        exact ne_of_none h hD
      · obtain ⟨b', o', e1, _, _, h, _⟩ := s1.slot i .lk h1
        rw [h2] at e1; cases e1
        exact ne_of_none h hD
    refine ⟨fun i m H' => i + m = ds.length ∧ ∃ f' acc, Le f1 f' ∧ Sr Z W σ ρ H' f' ∧ compWishG Z E H f k c e Dd Q (ds.drop i) ρ acc H' f' g1,
      ⟨ds.length, by omega, f1, [], Le.refl _, s1.ext (Ex.laid hs1 hD), ex1.trans (Ex.laid hs1 hD), hs1.laid hD, n1.1, n1.2, ⟨[], upd_same, .nil⟩, ?_⟩, ?_⟩
    · simpa using p1
    rintro i m H2 ⟨hm, f2, acc, l2, s2, ex2, hs2, nF, nh, ⟨vs2, hDl, hacc⟩, p2⟩
    have hit := it H2 f2 l2 ex2 hs2 i
    by_cases hlt : i < ds.length
    · obtain ⟨hgo, hyl⟩ := hit.1 hlt
      refine .inr ⟨hgo, fun H' => ∃ m', m' < m ∧ i + 1 + m' = ds.length ∧ ∃ f' acc, Le f1 f' ∧ Sr Z W σ ρ H' f' ∧ compWishG Z E H f k c e Dd Q (ds.drop (i + 1)) ρ acc H' f' g1, fun H' ⟨m', a1, a2, r⟩ => ⟨m', a1, a2, r⟩, fun x H3 hx => ?_⟩
      obtain ⟨f3, ex3, hs3, rx⟩ := hyl x H3 hx
      have hd : ds.getD i .non = ds[i] := by simp [List.getD_eq_getElem?_getD, hlt]
      rw [hd] at rx
      rw [List.drop_eq_getElem_cons hlt] at p2
      simp only [compLg] at p2
      have s3 := s2.ext ex3
      have kD3 := ex3.keep Dd _ hDl (ctB_nt rfl) nh
      cases hk : k ds[i] ρ g1 with
      | none => rw [hk] at p2; exact p2.elim
      | some ρ1 =>
        rw [hk] at p2
        dsimp only at p2
        refine hg _ _ _ _ ⟨B0, f3, ρ, g1, _, ρ1, ss0 (wipe_sr s3 vs) hs3, rx, hk, fun σ4 H4 f4 fx4 ex4 s4 => ⟨(wipe_fix fx4 hT).trans (wipe_wipe σ vs), ?_⟩⟩
        have exA := (ex2.trans ex3).trans ex4
        have lA : Le f1 f4 := l2.trans (ex3.le.trans ex4.le)
        have srA := s3.ext ex4
        obtain ⟨hD4, nF4, nh4⟩ := ex4.keep Dd _ kD3.1 (ctB_nt rfl) kD3.2.2
        have nF4 := nF4 rfl (kD3.2.1 rfl nF)
        have hacc4 := L2.Paired.mapP hacc fun _ _ z => z.mono (ex3.le.trans ex4.le)
        -- the test
        refine ht _ _ _ ⟨f4, ρ1, g1, s4.sr, s4.hs, ?_⟩
        cases hc : c ρ1 g1 with
        | ex x' g' => rw [hc] at p2; exact p2.elim
        | no => rw [hc] at p2; exact p2.elim
        | ok t g3 =>
          rw [hc] at p2
          simp only [R.nox, R.bind] at p2
          by_cases hg3 : eqDL g3 g1 = true
          case neg => rw [if_neg hg3] at p2; exact p2.elim
          rw [if_pos hg3] at p2
          have hg3 := eqDL_ok _ _ hg3
          subst hg3
          intro b H5 f5 ex5 hs5 hb
          cases hb
          obtain ⟨hD5, nF5, nh5⟩ := ex5.keep Dd _ hD4 (ctB_nt rfl) nh4
          have nF5 := nF5 rfl nF4
          have hacc5 := L2.Paired.mapP hacc4 fun _ _ z => z.mono ex5.le
          cases t with
          | false =>
            rw [if_neg (by decide)] at p2 ⊢
            exact ⟨m - 1, by omega, by omega, f5, acc, lA.trans ex5.le, srA.ext ex5, exA.trans ex5, hs5, nF5, nh5, ⟨_, hD5, hacc5⟩, p2⟩
          | true =>
            rw [if_pos rfl] at p2 ⊢
            refine he _ _ _ ⟨f5, ρ1, g3, s4.sr.ext ex5, hs5, ?_⟩
            cases hee : e ρ1 g3 with
            | ex x' g' => rw [hee] at p2; exact p2.elim
            | no => rw [hee] at p2; exact p2.elim
            | ok y g4 =>
              rw [hee] at p2
              simp only [R.nox, R.bind] at p2
              by_cases hg4 : eqDL g4 g3 = true
              case neg => rw [if_neg hg4] at p2; exact p2.elim
              rw [if_pos hg4] at p2
              have hg4 := eqDL_ok _ _ hg4
              subst hg4
              intro v H6 f6 ex6 hs6 rv
              obtain ⟨hD6, nF6, nh6⟩ := ex6.keep Dd _ hD5 (ctB_nt rfl) nh5
              have nF6 := nF6 rfl nF5
              have hacc6 := L2.Paired.mapP hacc5 fun _ _ z => z.mono ex6.le
              -- what is behind
              have p3 : postF Z E H f ((compLg k c e (ds.drop (i + 1)) ρ g4).bind fun ys g' => kList ((acc ++ [y]) ++ ys) g') Q := by
                cases hrest : compLg k c e (ds.drop (i + 1)) ρ g4 with
                | ok ys g5 =>
                  rw [hrest] at p2
                  show postF Z E H f (kList ((acc ++ [y]) ++ ys) g5) Q
                  rw [List.append_assoc]
                  exact p2
                | ex x' g5 => exact absurd hrest compLg_nox
                | no => rw [hrest] at p2; exact p2.elim
              have hlen : acc.length < 16777216 := by
                cases hrest : compLg k c e (ds.drop (i + 1)) ρ g4 with
                | ok ys g5 =>
                  rw [hrest] at p3
                  simp only [R.bind, kList] at p3
                  split at p3
                  · rename_i z; simp at z; omega
                  · exact p3.elim
                | ex x' g5 => exact absurd hrest compLg_nox
                | no => rw [hrest] at p3; exact p3.elim
              have hla := PySem.Paired.length hacc6
              refine ⟨_, hD6, by rw [sl_eq]; omega, m - 1, by omega, by omega, f6, acc ++ [y], (lA.trans ex5.le).trans ex6.le, ?_⟩
              exact ⟨sr_upd ((srA.ext ex5).ext ex6) hown, ex_upd ((exA.trans ex5).trans ex6) hD0, hs_upd hs6 nF6 nh6 (fun u e => by rw [hD6] at e; cases e; rfl), nF6, nh6, ⟨_, upd_same, pd_app hacc6 (.cons rv .nil)⟩, p3⟩
    · refine .inl ⟨hit.2 (by omega), ?_⟩
      rw [List.drop_eq_nil_of_le (by omega)] at p2
      simp only [compLg, R.bind, List.append_nil] at p2
      unfold kList at p2
      split at p2
      · exact p2 Dd (.lst vs2) H2 f2 ex2 hs2 ⟨hD0, hDl, nF, nh, hacc, rfl⟩
      · exact p2.elim
section
variable {X : Cx} {E : XK} {WL W Wt Wn : List Kd} {T : List Nat} {pos : Pos}
theorem fx_lcG {elt tg iter : Expr} {ifs : List Expr} {scope : Scope} {own : List (Str × Nat)} {mi : M (List D)} {k : KT} {c : M Bool} {e : M D} (hc : X.calm = true) (hN : X.N.Nodup) (hi : JXg X E W tg iter mi) (ok : BlkOk X.N X.env.scope scope own) (hT : ∀ i ∈ T, i ∈ own.map (·.2))
    (hg : ∀ (s : Shared) (H : Hp) (C : Addr) (cl : List (Str × Addr)) (fp : List Addr), GX (X.blk s H scope (compEnvC scope cl C X.env) fp) (Wwipe W (own.map (·.2))) Wt T tg k)
    (ht : ∀ (s : Shared) (H : Hp) (C : Addr) (cl : List (Str × Addr)) (fp : List Addr), TX' (X.blk s H scope (compEnvC scope cl C X.env) fp) EN Wt ifs c)
    (he : ∀ (s : Shared) (H : Hp) (C : Addr) (cl : List (Str × Addr)) (fp : List Addr), PX (X.blk s H scope (compEnvC scope cl C X.env) fp) EN Wt elt e) (hs : ∀ x, foldedSetIterable iter X.env x = pure x := by intro _; rfl) :
    FX X E W (.ListComp elt [⟨tg, iter, ifs, 0⟩] scope pos) (mCompG mi k c e) :=
  PE.imp (pe_lc (g := tGt (wd X) (Wwipe W (own.map fun (q : Str × Nat) => q.2)) Wt T k) (tt := tT (wd X) EN Wt c) (te := tE (wd X) EN Wt e) hc hN hi ok (fun s H C cl fp => hg s H C cl fp) (fun s H C cl fp => ht s H C cl fp) (fun s H C cl fp => he s H C cl fp) hs) fun σ H Q q =>
    lc_runG hT (fun _ _ _ h => h) (fun _ _ _ _ h => h) (fun _ _ _ h => h) (fun _ _ _ h => h) q
end
def kZipG (d e : D) (g : List D) : R (List D) := match vw g d, vw g e with
  | .lst xs, .lst ys => .ok (zipD xs ys) g
  | .tup xs, .tup ys => .ok (zipD xs ys) g
  | _, _ => .no
def mZipG (a : M (List D)) : M (List D) := fun ρ g => (a ρ g).bind fun ds g' => match ds with | [d, e] => kZipG d e g' | _ => .no
theorem it_zipG {Z : Wd} {P : Hp → Fz → Prop} {f : Fz} {g : List D} {a b : Addr} {d e : D} {ds es : List D} (r : Rp Z f d (.ref a)) (r' : Rp Z f e (.ref b)) (h : vw g d = .lst ds) (h' : vw g e = .lst es) : ItPg Z P g (Itz Z.K a b) (zipD ds es) f := fun H' f' l _ hs i => by
  obtain ⟨a', vs, q, hH, p⟩ := see_lst' hs (r.mono l) h
  cases q
  obtain ⟨b', ws, q, hH', p'⟩ := see_lst' hs (r'.mono l) h'
  cases q
  have hl := PySem.Paired.length p
  have hl' := PySem.Paired.length p'
  rw [zipD_len]
  refine ⟨fun hi => ?_, fun hi => ⟨vs, ws, .of hH, .of hH', by omega⟩⟩
  obtain ⟨y, h1, h2⟩ := getD_pd p (i := i) (by omega) .non
  obtain ⟨y', h1', h2'⟩ := getD_pd p' (i := i) (by omega) .non
  refine ⟨⟨vs, ws, y, y', .of hH, .of hH', h1, h1'⟩, fun x H'' q => ?_⟩
  obtain ⟨T, u, u', rfl, hT, rfl, q, q'⟩ := q
  have := q vs (.of hH)
  rw [h1] at this; cases this
  have := q' ws (.of hH')
  rw [h1'] at this; cases this
  obtain ⟨f2, e1, e2, e3⟩ := frz_pair hs hT (xs := [ds.getD i .non, es.getD i .non]) (vs := [y, y']) (.cons h2 (.cons h2' .nil))
  exact ⟨f2, e1, e2, by rw [zipD_at (by omega) (by omega)]; exact e3⟩
theorem it_zipTG {Z : Wd} {P : Hp → Fz → Prop} {f : Fz} {g : List D} {a b : Addr} {d e : D} {ds es : List D} (r : Rp Z f d (.ref a)) (r' : Rp Z f e (.ref b)) (h : vw g d = .tup ds) (h' : vw g e = .tup es) : ItPg Z P g (RZ.ItzT Z.K a b) (zipD ds es) f := fun H' f' l _ hs i => by
  obtain ⟨a', vs, q, hH, p⟩ := see_tup' hs (r.mono l) h
  cases q
  obtain ⟨b', ws, q, hH', p'⟩ := see_tup' hs (r'.mono l) h'
  cases q
  have hl := PySem.Paired.length p
  have hl' := PySem.Paired.length p'
  rw [zipD_len]
  refine ⟨fun hi => ?_, fun hi => ⟨vs, ws, hH, hH', by omega⟩⟩
  obtain ⟨y, h1, h2⟩ := getD_pd p (i := i) (by omega) .non
  obtain ⟨y', h1', h2'⟩ := getD_pd p' (i := i) (by omega) .non
  refine ⟨⟨vs, ws, y, y', hH, hH', h1, h1'⟩, fun x H'' q => ?_⟩
  obtain ⟨T, u, u', rfl, hT, rfl, q, q'⟩ := q
  have := q vs hH
  rw [h1] at this; cases this
  have := q' ws hH'
  rw [h1'] at this; cases this
  obtain ⟨f2, e1, e2, e3⟩ := frz_pair hs hT (xs := [ds.getD i .non, es.getD i .non]) (vs := [y, y']) (.cons h2 (.cons h2' .nil))
  exact ⟨f2, e1, e2, by rw [zipD_at (by omega) (by omega)]; exact e3⟩
section
variable {X : Cx} {E : XK} {sc : Scope} {N : List Str} {k : Nat} {df : Bool} {WL W Wn : List Kd} {pos : Pos} {elts : List Expr} {kk : Nat} {tpos : Pos}
theorem jx_zipG (G : Gd X E sc N k df) (hm : X.mg "zip" = none) {p : Pos} {e e2 : Expr} {ma : M (List D)} (ha : AX X E W [e, e2] ma) (hg : glB sc "zip" = true := by rfl) (hs : starEach [e, e2] X.env = (false, eval e X.env) :: starEach [e2] X.env := by rfl) (hpl : (backTo pos (starEach [e2] X.env)).any (·.1) = false := by rfl) :
    JXg X E W (.Tuple elts kk tpos) (.Call (.Name "zip" p) [e, e2] [] pos) (mZipG ma) := PI.imp (RZ.pi_zipA (G.gl hg).1 hm ha hs hpl) fun σ H Q q => by
  obtain ⟨f, ρ, g, s, hs, p⟩ := q
  refine ⟨f, ρ, g, s, hs, ?_⟩
  have p : postIpg (wd X) E (Ex H f) H f ((ma ρ g).bind fun ds g' => match ds with | [d, e] => kZipG d e g' | _ => .no) Q := p
  cases hr : ma ρ g with
  | ex x g' => rw [hr] at p; exact p
  | no => rw [hr] at p; exact p
  | ok ds g1 =>
    rw [hr] at p
    simp only [R.bind] at p
    intro vs H1 f1 e1 hs1 r1
    split at p
    · rename_i d e
      cases r1 with
      | cons r1 rr =>
        cases rr with
        | cons r2 rr =>
          cases rr
          unfold kZipG at p
          split at p
          · rename_i xs ys hx hy
            obtain ⟨a, vs, rfl, h1, h2⟩ := see_lst' hs1 r1 hx
            obtain ⟨b, ws, rfl, h1', h2'⟩ := see_lst' hs1 r2 hy
            exact ⟨a, b, vs, ws, rfl, .inl ⟨.of h1, .of h1', p _ H1 f1 e1 hs1 (it_zipG r1 r2 hx hy)⟩⟩
          · rename_i xs ys hx hy
            obtain ⟨a, vs, rfl, h1, h2⟩ := see_tup' hs1 r1 hx
            obtain ⟨b, ws, rfl, h1', h2'⟩ := see_tup' hs1 r2 hy
            exact ⟨a, b, vs, ws, rfl, .inr ⟨h1, h1', p _ H1 f1 e1 hs1 (it_zipTG r1 r2 hx hy)⟩⟩
          · exact p.elim
    · exact p.elim
end
end TL
end

section
set_option Elab.async false
set_option linter.all false
set_option autoImplicit false
set_option maxRecDepth 100000
/-! TL, the head's side: from what the head's Hook tells to what the derivations ask -/
namespace TL
open PySem PySem.Spec PyProof.Rows L2 He
variable [TabL]
section
variable {K : PySem.W.Frag} {mg : Str → Option Value} {h : Heap} {x qual c : Str} {st : Stmt} {f : Addr} {fd : FuncData} {ps : List Str}
theorem fun_of (F : FunD K x qual (defArgs st) (defBody st) (defScope st) [] [] f fd) : Fun K x qual st f fd := by
  obtain ⟨oc, od, dV, kV, doc, pm, an, cdv, ct, osl, rfl, lk, hcd, hD, hK⟩ := F.ex
  rcases hD with ⟨_, rfl⟩ | ⟨e, _⟩
  · exact ⟨⟨oc, od, kV, doc, pm, an, cdv, ct, osl, rfl, lk, hcd⟩, F.kp⟩
  · exact absurd rfl e
/-- what a def's parameters ask -/
def Arity (x qual : Str) (st : Stmt) (ps : List Str) : Prop := ∀ (kV doc pm : Value) (an : Option Addr) (cdv ct : Value) (us : List Value), us.length = ps.length → bindArgs (PySem.W.fnOf x qual (defArgs st) (defBody st) (defScope st) .none kV doc pm an cdv ct) ⟨us, []⟩ = pure (ps.zip us)
variable {fa : List Fa} {fn : List DefD}
theorem dd_ok (X : K.In h) (G : h.Ns mainGlobals mg) (s : SaysD fa fn K) (hd : dd x st ∈ fn) (hg : Fa.glo x ∈ fa) (ar : Arity x x st ps) : Dd K mg x x st ps := by
  obtain ⟨fd, F⟩ := s.defs hd
  exact ⟨_, fd, glo_ok X G (s.facts hg), fun_of F, FunD.bindsN F ar⟩
theorem di_ok (X : K.In h) (G : h.Ns mainGlobals mg) (s : SaysD fa fn K) (hd : dm c "__init__" qual st ∈ fn) (hg : Fa.glo c ∈ fa) (hm : Fa.mkr c ∈ fa) (ar : Arity "__init__" qual st ps) : Di K mg c qual st ps := by
  obtain ⟨fd, F⟩ := s.defs hd
  exact ⟨_, _, fd, glo_ok X G (s.facts hg), mkr_ok (s.facts hm), fun_of F, FunD.bindsN F ar⟩
theorem de_ok (X : K.In h) (G : h.Ns mainGlobals mg) (s : SaysD fa fn K) (hd : dm c "__eq__" qual st ∈ fn) (hg : Fa.glo c ∈ fa) (hm : Fa.meth c "__eq__" ∈ fa) (ar : Arity "__eq__" qual st ps) : De K mg c qual st ps := by
  obtain ⟨fd, F⟩ := s.defs hd
  have m := meth_ok (s.facts hm)
  exact ⟨_, _, fd, glo_ok X G (s.facts hg), m.1, m.2, fun_of F, FunD.bindsN F ar⟩
theorem kl_ok (X : K.In h) (G : h.Ns mainGlobals mg) (s : SaysD fa fn K) {fld : Str} (hg : Fa.glo c ∈ fa) (hc : Fa.cls c ∈ fa) (hn : Fa.noat c fld ∈ fa) : Kl K mg c [fld] :=
  ⟨_, glo_ok X G (s.facts hg), cls_ok (s.facts hc), fun f hf => by rw [List.mem_singleton.mp hf]; exact noat_ok (s.facts hn)⟩
theorem ki_ok (X : K.In h) (G : h.Ns mainGlobals mg) (s : SaysD fa fn K) {ks : List Str} {tb : Str → Str → Bool} (hg : ∀ c ∈ ks, Fa.glo c ∈ fa ∧ Fa.cls c ∈ fa) (b : kiB K ks tb = true) : KI K mg ks tb := by
  unfold kiB at b
  simp only [Bool.and_eq_true, List.all_eq_true, decide_eq_true_eq] at b
  obtain ⟨⟨b1, b2⟩, b3⟩ := b
  refine ⟨fun c hc => ?_, fun c hc c' hc' C C' e e' => ?_, b2, b3⟩
  · obtain ⟨⟨⟨⟨q1, q2⟩, q3⟩, q4⟩, _⟩ := b1 c hc
    exact ⟨_, glo_ok X G (s.facts (hg c hc).1), cls_ok (s.facts (hg c hc).2), q1, q2, q3, q4⟩
  · obtain ⟨_, q5⟩ := b1 c hc
    rw [glo_ok X G (s.facts (hg c hc).1)] at e
    rw [glo_ok X G (s.facts (hg c' hc').1)] at e'
    cases e; cases e'
    exact q5 c' hc'
theorem kf_ok (X : K.In h) (G : h.Ns mainGlobals mg) (s : SaysD fa fn K) {fs : List Str} (hg : ∀ c ∈ fs, Fa.glo c ∈ fa) (b : kfB K fs = true) : KFn K mg fs := by
  refine ⟨fun x hx => ?_, by decide +kernel⟩
  have q := List.all_eq_true.mp b x hx
  cases e : K.lookup (ga K x) with
  | none => rw [e] at q; cases q
  | some o =>
    rw [e] at q
    exact ⟨_, o, glo_ok X G (s.facts (hg x hx)), e, of_decide_eq_true q⟩
theorem cstr_ok (X : K.In h) (G : h.Ns mainGlobals mg) (s : SaysD fa fn K) {z : Str} (hg : Fa.str x z ∈ fa) : Cst K mg x (.str z) := by
  obtain ⟨t, e⟩ := str_ok X G (s.facts hg)
  exact cst_str e
theorem ctup_ok (X : K.In h) (G : h.Ns mainGlobals mg) (s : SaysD fa fn K) {zs : List Str} (hg : Fa.glo x ∈ fa) (b : tupB K x (zs.map Dv.str) = true) : Cst K mg x (.tup (zs.map D.str)) := by
  refine ⟨.ref (ga K x), .ref (ga K x), glo_ok X G (s.facts hg), rfl, fun f => ?_⟩
  simp only [Rp]
  refine ⟨_, zs.map V.str, rfl, .inr ?_, rpL_iff.mpr (strs_pd zs)⟩
  have q := tupB_ok b (fun _ => none)
  rw [List.map_map] at q
  have e : (Dv.v K ∘ Dv.str) = V.str := rfl
  rw [e] at q
  rcases q with q | ⟨o, its, n, q⟩
  · rcases q with q | ⟨_, q⟩ <;> cases q
  · exact ⟨o, its, n, q⟩
/-! own errors -/
theorem oexO_ok {C : Addr} {o : Obj} (q : oexO K C o = true) : ∃ nm q N bs bm sn sub ab col dd k0 k1 k2 k3 k5, o = excClassObj nm q C N bs bm true sn sub ab col dd k0 k1 k2 k3 k5 "ValueError.__new__" ∧ PySem.HandSPX.refsVE bm = true := by
  obtain ⟨oc, dd, dt, sl⟩ := o
  cases oc with
  | type T =>
    cases dt with
    | cls cd =>
      simp only [oexO, Bool.and_eq_true, decide_eq_true_eq] at q
      obtain ⟨rfl, q⟩ := q
      split at q
      · rename_i D bm k0 k1 k2 k3 n k5 hm hs
        simp only [Bool.and_eq_true, decide_eq_true_eq, Bool.not_eq_true'] at q
        obtain ⟨⟨⟨⟨rfl, rfl⟩, hd⟩, hdel⟩, hv⟩ := q
        obtain ⟨nm, bs, mro, ns, qn, hdc, sn, sub, ab, col, del⟩ := cd
        simp only at hm hd hdel
        subst hm hd hdel
        have e : sl = #[k0, k1, k2, k3, some (.builtin "ValueError.__new__"), k5] := by
          obtain ⟨l⟩ := sl
          simp only at hs
          rw [hs]
        subst e
        exact ⟨nm, qn, ns, bs, bm, sn, sub, ab, col, dd, k0, k1, k2, k3, k5, rfl, hv⟩
      · cases q
    | _ => cases q
  | _ => cases q
theorem oexB_ok {C : Addr} (q : oexB K C = true) : OexC K C := by
  unfold oexB at q
  simp only [Bool.and_eq_true, decide_eq_true_eq] at q
  obtain ⟨⟨⟨⟨q1, q2⟩, q3⟩, q4⟩, q5⟩ := q
  cases e : K.lookup C with
  | none => rw [e] at q1; cases q1
  | some o =>
    rw [e] at q1
    obtain ⟨nm, q, N, bs, bm, sn, sub, ab, col, dd, k0, k1, k2, k3, k5, rfl, hv⟩ := oexO_ok q1
    exact ⟨⟨nm, q, N, bs, bm, sn, sub, ab, col, dd, k0, k1, k2, k3, k5, e, hv⟩, q2, q3, q4, q5⟩
def eciB (K : PySem.W.Frag) (c fld : Str) : Bool := oexB K (ga K c) && decide (PySem.W.findIn K (.ref (ga K c)) "__init__" = some (some (.ref (ma K (ga K c) "__init__")))) && decide (PySem.W.typeIn K (.ref (ma K (ga K c) "__init__")) = some (.type "function")) && decide (PySem.W.findIn K (.ref (ga K c)) fld = some none)
theorem eci_ok (X : K.In h) (G : h.Ns mainGlobals mg) (s : SaysD fa fn K) {fld par : Str} (hd : dm c "__init__" qual st ∈ fn) (hg : Fa.glo c ∈ fa) (b : eciB K c fld = true) (ar : Arity "__init__" qual st ["self", par]) : Eci K mg c fld par qual st := by
  obtain ⟨fd, F⟩ := s.defs hd
  unfold eciB at b
  simp only [Bool.and_eq_true, decide_eq_true_eq] at b
  obtain ⟨⟨⟨b1, b2⟩, b3⟩, b4⟩ := b
  exact ⟨_, _, fd, glo_ok X G (s.facts hg), oexB_ok b1, b2, b3, FunD.bindsN F ar, fun_of F, b4⟩
/-! met(lambda: ..) -/
def metB (K : PySem.W.Frag) (l : List (Str × Str × Str)) (es : List Str) : Bool :=
  (l.all fun p => xfB K (ga K p.1) && decide (PySem.W.findIn K (.ref (ga K p.1)) p.2.2 = some none)) &&
  es.all fun c => l.all fun q => decide (PySem.W.exmOne K (.ref (ga K c)) (.ref (ga K q.1)) = some (decide (c = q.1)))
theorem fcs_ok (X : K.In h) (G : h.Ns mainGlobals mg) (s : SaysD fa fn K) {sg : Scope} : ∀ {l : List (Str × Str × Str)}, (∀ p ∈ l, Fa.glo p.1 ∈ fa ∧ xfB K (ga K p.1) = true ∧ PySem.W.findIn K (.ref (ga K p.1)) p.2.2 = some none ∧ glB sg p.1 = true) → Paired (FcM K mg sg) l (l.map fun p => (ga K p.1, p.2))
  | [], _ => .nil
  | p :: l, hl => by
    obtain ⟨a1, a2, a3, a4⟩ := hl p (by simp)
    exact .cons ⟨glo_ok X G (s.facts a1), rfl, xfB_ok a2, a3, a4⟩ (fcs_ok X G s fun q hq => hl q (by simp [hq]))
theorem met_ok (X : K.In h) (G : h.Ns mainGlobals mg) (s : SaysD fa fn K) {sg : Scope} {Ng : List Str} {a t0 e : Str} {l : List (Str × Str × Str)} {es : List Str} {ie j kk : Nat} {h₀ : ExceptHandler} {hds : List ExceptHandler} {p1 p2 p3 p4 p5 p8 : Pos}
    (hd : dd x st ∈ fn) (hg : Fa.glo x ∈ fa) (b : metB K l es = true) (hl : (l.all fun p => glB sg p.1) = true) (hgl : ∀ c, c ∈ es ∨ c ∈ l.map (·.1) → Fa.glo c ∈ fa) (ar : Arity x x st [a]) (S : FnScope Ng [a] (defScope st))
    (e1 : defScope st = sg) (e2 : Ng[0]? = some a) (e3 : visB sg a = true) (e4 : scOk sg = true) (e5 : Ng[ie]? = some e) (e6 : locB false sg e = true) (e7 : 1 < Ng.length)
    (hb : defBody st = [.Try [.Return (some (.Tuple [.Constant (.str t0) j p5, .Call (.Name a p1) [] [] p2] kk p4)) p3] (h₀ :: hds) [] [] p8]) (HM : HdM e (h₀ :: hds) l) : MetD K mg x a t0 l es := by
  obtain ⟨fd, F⟩ := s.defs hd
  unfold metB at b
  simp only [Bool.and_eq_true, List.all_eq_true, decide_eq_true_eq] at b hl
  obtain ⟨b1, b2⟩ := b
  refine ⟨_, st, fd, sg, Ng, e, ie, j, kk, h₀, hds, l.map fun p => (ga K p.1, p.2), p1, p2, p3, p4, p5, p8, glo_ok X G (s.facts hg), fun_of F, FunD.bindsN F ar, e1, S, e2, e3, e4, S.nd, e5, e6, e7, hb, HM, fcs_ok X G s fun p hp => ⟨hgl _ (.inr (List.mem_map.mpr ⟨p, hp, rfl⟩)), (b1 p hp).1, (b1 p hp).2, hl p hp⟩, fun c hc q hq Cx Cq m1 m2 => ?_⟩
  rw [glo_ok X G (s.facts (hgl c (.inl hc)))] at m1
  rw [glo_ok X G (s.facts (hgl q.1 (.inr (List.mem_map.mpr ⟨q, hq, rfl⟩))))] at m2
  cases m1; cases m2
  exact b2 c hc q hq
theorem ld_ok (X : K.In h) (G : h.Ns mainGlobals mg) (s : SaysD fa fn K) {base : Heap} (hd : dd x st ∈ fn) (hg : Fa.glo x ∈ fa) (TB : LamX.TabB base mg (cT K (x, none)).1 (cT K (x, none)).2) (hT : ((cT K (x, none)).2, lamQ x) ∈ TabL.T) (hu : ∀ p ∈ TabL.T, p.1 = (cT K (x, none)).2 → p.2 = lamQ x) : Ld K mg base x (lamQ x) := by
  obtain ⟨fd, F⟩ := s.defs hd
  obtain ⟨oc, od, kV, doc, pm, an, cdv, ct, osl, e, lk, hcd⟩ := (fun_of F).ex
  obtain ⟨c, rfl⟩ := codeIn_ref hcd
  have hc : fd.code = .ref c := by rw [e]
  have hcc : codeOf K (x, none) = c := codeOf_eq lk hc
  refine ⟨_, c, (cT K (x, none)).2, oc, od, fd, osl, glo_ok X G (s.facts hg), lk, hc, ?_, hT, hu⟩
  rw [← hcc]
  exact TB
end
end TL
end

section
set_option Elab.async false
set_option linter.all false
set_option autoImplicit false
set_option maxRecDepth 100000
set_option maxHeartbeats 2000000
/-! TX, part m: exceptions and lambdas as trees: made -/
namespace TL
open PySem PySem.Spec PyProof.Rows L2
variable [TabL]
section
variable {Z : Wd} {E : XK} {H H1 : Hp} {f f1 : Fz} {g : List D} {a : Addr} {o : HO}
theorem Ex.laidF (hs : Hs Z H f g) (ha : H a = none) : Ex H f (upd H a o) (TL.frz f a o) :=
  ⟨frz_le (hs.free ha).1, fun b u hb _ n => ⟨by rw [upd_ne (ne_of_none hb ha)]; exact hb, fun _ z => by
    show upd f.F a o b = none
    rw [upd_ne (ne_of_none hb ha)]; exact z, n⟩⟩
theorem Hs.laidF (hs : Hs Z H f g) (ha : H a = none) (nt : Nt o) : Hs Z (upd H a o) (TL.frz f a o) g := by
  have fr := hs.free ha
  refine ⟨fun b u e => ?_, fun b u e => ?_, tabs_upd hs.tab (fun o e => by rw [ha] at e; cases e), hs.len, fun b hb => ?_, fun i x hx nd => ?_, hs.nd⟩
  · have e : upd f.F a o b = some u := e
    by_cases hb : b = a
    · subst hb
      rw [upd_same] at e ⊢; exact e
    · rw [upd_ne hb] at e ⊢
      exact hs.fr b u e
  · have e : upd f.F a o b = some u := e
    by_cases hb : b = a
    · subst hb
      rw [upd_same] at e; cases e; exact nt
    · rw [upd_ne hb] at e
      exact hs.nt b u e
  · obtain ⟨o', e, nt⟩ := hs.lv b hb
    exact ⟨o', by rw [upd_ne (ne_of_none e ha)]; exact e, nt⟩
  · obtain ⟨b, u, e1, e2, e3, e4, e5⟩ := hs.hot i x hx nd
    have hb : b ≠ a := ne_of_none e3 ha
    refine ⟨b, u, e1, ?_, by rw [upd_ne hb]; exact e3, rpO_mono (frz_le fr.1) e4, e5⟩
    show upd f.F a o b = none
    rw [upd_ne hb]; exact e2
theorem nt_exo {e C : Addr} {d : Option Addr} : Nt (exo e C d) := fun ps => exo_tbl
theorem nt_exd {e : Addr} {fs : List (Str × V)} : Nt (exd e fs) := fun ps z => by
  have z' : HO.ext _ = HO.tbl ps := z
  cases z'
theorem nt_ExO {cls : Value} {a : Addr} : Nt (ExO cls a) := fun ps z => by
  have z' : HO.ext _ = HO.tbl ps := z
  cases z'
/-- a new exception with its dict, frozen -/
theorem post_exc {c : Str} {C dx : Addr} {fs : List (Str × D)} {ws : List (Str × V)} {Q : VK} (hs : Hs Z H f g) (hm : Z.mg c = some (.ref C)) (p : post (relD Z) Z E H f (.ok (.exc c fs) g) Q) (r : Paired (PF Z f) fs ws) (ha : H a = none) (hd : H dx = none) (ne : dx ≠ a) :
    Q (.ref a) (upd (upd H dx (exd dx ws)) a (exo a C (some dx))) := by
  have e1 := Ex.laidF (o := exd dx ws) hs hd
  have s1 := hs.laidF (o := exd dx ws) hd nt_exd
  have ha1 : upd H dx (exd dx ws) a = none := by rw [upd_ne (Ne.symm ne)]; exact ha
  have e2 := Ex.laidF (o := exo a C (some dx)) s1 ha1
  have s2 := s1.laidF (o := exo a C (some dx)) ha1 nt_exo
  refine p (.ref a) _ _ (e1.trans e2) s2 ?_
  show Rp Z _ (.exc c fs) (.ref a)
  simp only [Rp]
  refine ⟨a, C, rfl, hm, .inl ⟨dx, ws, upd_same, ?_, ?_⟩⟩
  · show upd (upd f.F dx (exd dx ws)) a (exo a C (some dx)) dx = _
    rw [upd_ne ne, upd_same]
  · exact rpF_iff.mpr (L2.Paired.mapP r fun _ _ q => ⟨q.1, q.2.mono (e1.trans e2).le⟩)
end
/-! ### made by place -/
def spIn (C : Addr) (fs : List Str) : Sp := fun vs H Q E => ∃ a ys, vs = .ref a :: ys ∧ ys.length = fs.length ∧ H a = some (exo a C none) ∧ ∀ dx, H dx = none → dx ≠ a → Q .non (upd (upd H dx (exd dx (fs.zip ys).reverse)) a (exo a C (some dx)))
structure Ev (P : Program) (w : World) (K : PySem.W.Frag) (mg : Str → Option Value) (base : Heap) (k : Nat) (c : Str) (fs ps : List Str) : Prop where
  ex : ∃ (C fI : Addr) (fd : FuncData), mg c = some (.ref C) ∧ OexC K C ∧ PySem.W.findIn K (.ref C) "__init__" = some (some (.ref fI)) ∧ PySem.W.typeIn K (.ref fI) = some (.type "function") ∧ Binds K fd ("self" :: ps) [] ∧ FnOk P w K mg base (L2.CX P w) k fI fd ("self" :: ps) (spIn C fs)
def gK (perm : List Nat) (us ws : List Value) : List Value := us ++ perm.map fun i => ws.getD i .none
def gKV (perm : List Nat) (us ws : List V) : List V := us ++ perm.map fun i => ws.getD i .non
theorem gK_rel {perm : List Nat} {vs : List V} {us : List Value} {zs : List V} {ws : List Value} (h1 : Vals vs us) (h2 : Vals zs ws) : Vals (gKV perm vs zs) (gK perm us ws) := by
  unfold gK gKV
  refine h1.append ?_
  induction perm with
  | nil => exact .nil
  | cons i r ih =>
    refine .cons ?_ ih
    show L2.RelV (zs.getD i .non) (ws.getD i .none)
    by_cases hi : i < zs.length
    · obtain ⟨y, e, q⟩ := getD_pd h2 hi .non
      rw [List.getD_eq_getElem?_getD (l := ws), e]
      exact q
    · have l2 := PySem.Paired.length h2
      rw [List.getD_eq_getElem?_getD, List.getD_eq_getElem?_getD, List.getElem?_eq_none (by omega), List.getElem?_eq_none (by omega)]
      exact rfl
/-- the same by keywords -/
structure Evk (P : Program) (w : World) (K : PySem.W.Frag) (mg : Str → Option Value) (base : Heap) (k : Nat) (c : Str) (fs ps ks : List Str) (perm : List Nat) : Prop where
  ex : ∃ (C fI : Addr) (fd : FuncData), mg c = some (.ref C) ∧ OexC K C ∧ PySem.W.findIn K (.ref C) "__init__" = some (some (.ref fI)) ∧ PySem.W.typeIn K (.ref fI) = some (.type "function") ∧ KBn K fd ("self" :: ps) 1 ks (gK perm) (gKV perm) ∧ FnOk P w K mg base (L2.CX P w) k fI fd ("self" :: ps) (spIn C fs)
def kExc (c : Str) (fs : List Str) (ds g : List D) : R D := if ds.length = fs.length ∧ ds.length ≤ 900 then .ok (.exc c (fs.zip ds).reverse) g else .no
theorem pd_zipF {Z : Wd} {f : Fz} : ∀ {fs : List Str} {ds : List D} {vs : List V}, Paired (Rp Z f) ds vs → Paired (PF Z f) (fs.zip ds) (fs.zip vs)
  | [], _, _, _ => by simp only [List.zip_nil_left]; exact .nil
  | _ :: _, _, _, .nil => by simp only [List.zip_nil_right]; exact .nil
  | x :: fs, _, _, .cons r t => by
    simp only [List.zip_cons_cons]
    exact .cons ⟨rfl, r⟩ (pd_zipF t)
section
variable {X : Cx} {E : XK} {sc : Scope} {N : List Str} {k j : Nat} {df : Bool} {W : List Kd} {pos : Pos}
theorem px_exc (G : Gd X E sc N k df) {c : Str} {fs ps : List Str} {p : Pos} {e : Expr} {es : List Expr} {m : M (List D)} (ev : Ev X.prog X.w X.K X.mg X.base j c fs ps) (ha : AX X E W (e :: es) m) (hj : j + 1 ≤ k := by omega) (hg : glB sc c = true := by rfl)
    (he : starEach (e :: es) X.env = (false, eval e X.env) :: starEach es X.env := by rfl) (hpl : (backTo pos (starEach es X.env)).any (·.1) = false := by rfl) : PX X E W (.Call (.Name c p) (e :: es) [] pos) (mL m (kExc c fs)) := by
  obtain ⟨C, fI, fd, hm, T, iC, tI, hb, hF⟩ := ev.ex
  have hx : Passes (L2.CX X.prog X.w) X (fun _ _ _ => False) := passes_call G.takes fun _ _ _ _ z => z.elim
  refine PE.imp (pe_oexV T iC tI hF (G.room.mono hj) hb hx (G.gl hg).1 hm ha (G.gl hg).2.1 he hpl) fun σ H Q q => ?_
  refine tG.bind (rel := relL (wd X)) (k := fun ds _ g1 => kExc c fs ds g1) q fun ds vs H1 f1 ρ g1 s1 hs1 r1 p1 => ?_
  unfold kExc at p1
  split at p1
  · rename_i hl
    have l1 : vs.length = ds.length := (PySem.Paired.length r1).symm
    refine ⟨by rw [l1]; omega, fun a hn => ⟨a, vs, rfl, by rw [l1]; exact hl.1, upd_same, fun dx hdx hne => ⟨rfl, ?_⟩⟩⟩
    rw [upd_ne hne] at hdx
    have eq : upd (upd (upd H1 a (exo a C none)) dx (exd dx (fs.zip vs).reverse)) a (exo a C (some dx)) = upd (upd H1 dx (exd dx (fs.zip vs).reverse)) a (exo a C (some dx)) := by
      funext b
      by_cases h2 : b = a
      · rw [h2, upd_same, upd_same]
      · rw [upd_ne h2, upd_ne h2]
        by_cases h1 : b = dx
        · rw [h1, upd_same, upd_same]
        · rw [upd_ne h1, upd_ne h1, upd_ne h2]
    rw [eq]
    exact post_exc (Z := wd X) hs1 hm p1 (pd_rev (pd_zipF r1)) hn hdx hne
  · exact p1.elim
/-- by keywords, given in the order that perm tells -/
def kExcK (c : Str) (fs : List Str) (n : Nat) (perm : List Nat) (ds g : List D) : R D := if ds.length = n ∧ perm.length = fs.length then .ok (.exc c (fs.zip (perm.map fun i => ds.getD i .non)).reverse) g else .no
theorem permD {Z : Wd} {f : Fz} {ds : List D} {vs : List V} (r : Paired (Rp Z f) ds vs) : ∀ (perm : List Nat), Paired (Rp Z f) (perm.map fun i => ds.getD i .non) (perm.map fun i => vs.getD i .non)
  | [] => .nil
  | i :: perm => by
    refine .cons ?_ (permD r perm)
    show Rp Z f (ds.getD i .non) (vs.getD i .non)
    by_cases hi : i < ds.length
    · obtain ⟨y, e, q⟩ := getD_pd r hi .non
      rw [List.getD_eq_getElem?_getD (l := vs), e]
      exact q
    · have l2 := PySem.Paired.length r
      rw [List.getD_eq_getElem?_getD, List.getD_eq_getElem?_getD, List.getElem?_eq_none (by omega), List.getElem?_eq_none (by omega)]
      simp only [Option.getD_none, Rp]
theorem px_excK (G : Gd X E sc N k df) {c : Str} {fs ps ks : List Str} {perm : List Nat} {p : Pos} {kws : List Keyword} {m : M (List D)} (ev : Evk X.prog X.w X.K X.mg X.base j c fs ps ks perm) (ha : WX' X E W kws m) (hj : j + 1 ≤ k := by omega) (hg : glB sc c = true := by rfl)
    (hall : (backToKw pos (keywordEach kws X.env)).all (·.1.isSome) = true := by rfl) (hks : (backToKw pos (keywordEach kws X.env)).filterMap (·.1) = ks := by rfl)
    (hpl : ((backTo pos (starEach [] X.env)).any (·.1) || (backToKw pos (keywordEach kws X.env)).any (·.1.isNone)) = false := by rfl) : PX X E W (.Call (.Name c p) [] kws pos) (mL m (kExcK c fs ks.length perm)) := by
  obtain ⟨C, fI, fd, hm, T, iC, tI, hb, hF⟩ := ev.ex
  have hx : Passes (L2.CX X.prog X.w) X (fun _ _ _ => False) := passes_call G.takes fun _ _ _ _ z => z.elim
  refine PE.imp (pe_oexK T iC tI hF (G.room.mono hj) hb hx (G.gl hg).1 hm ha hall hks (G.gl hg).2.1 hpl) fun σ H Q q => ?_
  refine tG.bind (rel := relL (wd X)) (k := fun ds _ g1 => kExcK c fs ks.length perm ds g1) q fun ds vs H1 f1 ρ g1 s1 hs1 r1 p1 => ?_
  unfold kExcK at p1
  split at p1
  · rename_i hl
    have l1 : vs.length = ds.length := (PySem.Paired.length r1).symm
    refine ⟨by rw [l1]; exact hl.1, fun a hn => ⟨a, perm.map fun i => vs.getD i .non, rfl, by rw [List.length_map]; exact hl.2, upd_same, fun dx hdx hne => ⟨rfl, ?_⟩⟩⟩
    rw [upd_ne hne] at hdx
    generalize hys : (perm.map fun i => vs.getD i .non) = ys
    have eq : upd (upd (upd H1 a (exo a C none)) dx (exd dx (fs.zip ys).reverse)) a (exo a C (some dx)) = upd (upd H1 dx (exd dx (fs.zip ys).reverse)) a (exo a C (some dx)) := by
      funext b
      by_cases h2 : b = a
      · rw [h2, upd_same, upd_same]
      · rw [upd_ne h2, upd_ne h2]
        by_cases h1 : b = dx
        · rw [h1, upd_same, upd_same]
        · rw [upd_ne h1, upd_ne h1, upd_ne h2]
    rw [eq]
    refine post_exc (Z := wd X) hs1 hm p1 (pd_rev (pd_zipF ?_)) hn hdx hne
    rw [← hys]
    exact permD r1 perm
  · exact p1.elim
/-! ### the base's -/
structure Ev0 (K : PySem.W.Frag) (mg : Str → Option Value) (c : Str) : Prop where
  ex : ∃ (C : Addr) (bmB : List Value) (B newId initId : String), ExcBaseFacts B newId initId bmB ∧ PySem.W.excIn K C bmB newId = true ∧ mg c = some (.ref C) ∧ PySem.W.keepIn K (.ref C) = true
theorem px_exc0 (G : Gd X E sc N k df) {c : Str} {p : Pos} (ev : Ev0 X.K X.mg c) (hg : glB sc c = true := by rfl) : PX X E W (.Call (.Name c p) [] [] pos) (mC (.exc c [])) := by
  obtain ⟨C, bmB, B, newId, initId, F, q, gC, kC⟩ := ev.ex
  refine PE.imp (pe_exc0 F q gC kC (G.gl hg).1 (G.gl hg).2.1) fun σ H Q q => ?_
  obtain ⟨f, ρ, g, s, hs, p⟩ := q
  intro a ha
  refine p (.ref a) _ _ (Ex.laidF (o := ExO (.ref C) a) hs ha) (hs.laidF (o := ExO (.ref C) a) ha nt_ExO) ?_
  show Rp (wd X) _ (.exc c []) (.ref a)
  simp only [Rp]
  exact ⟨a, C, rfl, gC, .inr ⟨trivial, upd_same⟩⟩
end
end TL
end

section
set_option Elab.async false
set_option linter.all false
set_option autoImplicit false
set_option maxRecDepth 100000
set_option maxHeartbeats 2000000
/-! TX, part n: isinstance of exceptions; lambdas made and called -/
namespace TL
open PySem PySem.Spec PyProof.Rows L2
variable [TabL]
structure KXc (K : PySem.W.Frag) (mg : Str → Option Value) (xs : List Str) (bs : List String) (fx : Str → List Str) (tx : Str → Cl → Bool) : Prop where
  cls : ∀ c ∈ xs, ∃ C, mg c = some (.ref C) ∧ ExcC K C ∧ XfC K C ∧ (∀ T ∈ bs, PySem.W.kitOne K (.ref C) (.type T) = some (tx c (.bt T))) ∧ (∀ g ∈ fx c, PySem.W.findIn K (.ref C) g = some none)
  two : ∀ c ∈ xs, ∀ c' ∈ xs, ∀ C C', mg c = some (.ref C) → mg c' = some (.ref C') → PySem.W.kitOne K (.ref C) (.ref C') = some (tx c (.own c'))
def cxOk (xs : List Str) (bs : List String) : Cl → Bool
  | .bt T => decide (T ∈ bs)
  | .own c => decide (c ∈ xs)
theorem cxOk_own {xs : List Str} {bs : List String} {c : Str} (h : c ∈ xs) : cxOk xs bs (.own c) = true := decide_eq_true h
def kIsX (xs : List Str) (tx : Str → Cl → Bool) (cl : Cl) (d : D) (g : List D) : R D := match d with
  | .exc c _ => if c ∈ xs then .ok (.bl (tx c cl)) g else .no
  | _ => .no
section
variable {X : Cx} {E : XK} {sc : Scope} {N : List Str} {k j : Nat} {df : Bool} {W : List Kd} {pos : Pos} {xs : List Str} {bs : List String} {fx : Str → List Str} {tx : Str → Cl → Bool}
theorem nx_err (G : Gd X E sc N k df) {x : Str} (ki : KXc X.K X.mg xs bs fx tx) (hk : x ∈ xs) (hg : glB sc x = true := by rfl) : NX X (.Name x pos) (.own x) := by
  obtain ⟨C, e, _⟩ := ki.cls x hk
  exact ⟨.ref C, .ref C, .own x C e, pe_glob (G.gl hg).1 e rfl (G.gl hg).2.1⟩
theorem px_isX (G : Gd X E sc N k df) (ki : KXc X.K X.mg xs bs fx tx) (hm : X.mg "isinstance" = none) {p : Pos} {e t : Expr} {m : M D} {c : Cl} (he : PX X E W e m) (ht : NX X t c) (hc : cxOk xs bs c = true := by rfl) (hg : glB sc "isinstance" = true := by rfl)
    (he1 : starEach [e, t] X.env = (false, eval e X.env) :: starEach [t] X.env := by rfl) (he2 : starEach [t] X.env = (false, eval t X.env) :: starEach [] X.env := by rfl) :
    PX X E W (.Call (.Name "isinstance" p) [e, t] [] pos) (m1 m (kIsX xs tx c)) := by
  obtain ⟨v, u, h1, h2⟩ := ht
  refine PE.imp (pe_callB call_isX (G.gl hg).1 hm boot_isi (pa_cons he (pa_cons h2 pa_nil he2) he1) (G.gl hg).2.2 (G.gl hg).2.1 he1 (by rw [he2]; rfl)) fun σ H Q q => ?_
  refine tG.bind (rel := relD (wd X)) (k := fun d _ g1 => kIsX xs tx c d g1) q fun d x H1 f1 ρ g1 s1 hs1 (r1 : Rp _ _ _ _) p1 => ?_
  unfold kIsX at p1
  split at p1
  · rename_i nm fs
    split at p1
    · rename_i hk
      simp only [Rp] at r1
      obtain ⟨a, C, rfl, mC, e⟩ := r1
      obtain ⟨C', mC', hC, _, hb, _⟩ := ki.cls nm hk
      have mC : X.mg nm = some (.ref C) := mC
      rw [mC] at mC'; cases mC'
      refine ⟨a, C, v, u, tx nm c, rfl, ?_, hC, h1.c, ?_, p1 _ H1 f1 (Ex.refl _ _) hs1 (by simp only [Rp])⟩
      · rcases e with ⟨d, ws, e1, e2, _⟩ | ⟨_, e2⟩
        · exact .inl ⟨some d, hs1.fr _ _ e1, fun dx z => by cases z; exact ⟨ws, hs1.fr _ _ e2⟩⟩
        · exact .inr (hs1.fr _ _ e2)
      · cases h1 with
        | bt T => exact hb T (of_decide_eq_true hc)
        | own c' C' hm' => exact ki.two nm hk c' (of_decide_eq_true hc) _ _ mC hm'
    · exact p1.elim
  · exact p1.elim
/-! ### lambdas -/
/-- the shape of what tells fields of what it is handed -/
theorem px_lamV (G : Gd X E sc N k df) {q : Str} {fs : List Str} {params : Arguments} {body : Expr} {scope : Scope} (L : Lm X q) (hdef : defaultsOf params X.env = ([], []) := by rfl) (hfree : scope.names.all (fun y => !decide (y.2 = .free)) = true := by rfl)
    (hcl : cloFrom X.env.cells scope.names [] = [] := by rfl) (R : ∀ c, LamR ⟨q, params, body, scope, c⟩ fs) : PX X E W (.Lambda params body scope pos) (mC (.lam q fs)) := by
  obtain ⟨c, P, TB, h1, h2, h3, h4⟩ := L.ex
  subst h2
  refine PE.imp (pe_lamV (T := TabL.T) TB h1 h3 h4 hdef hfree hcl) fun σ H Q q => ?_
  obtain ⟨f, ρ, g, s, hs, p⟩ := q
  refine ⟨hs.tab, fun a c' H1 eN T1 ha e1 e2 ne => ?_⟩
  have nl : Nt (LamO a ⟨X.env.qual ++ "<lambda>", params, body, scope, c'⟩) := fun ps => lamO_ne ps
  have nc : Nt (LamX.CodeO c' (X.env.qual ++ "<lambda>")) := fun ps => LamX.codeO_ne ps
  generalize hL : (⟨X.env.qual ++ "<lambda>", params, body, scope, c'⟩ : LF) = Lf at e1 nl
  have fa := hs.free ha
  have ctl : ctB (LamO a Lf) = false := rfl
  have ctc : ctB (LamX.CodeO c' (X.env.qual ++ "<lambda>")) = false := rfl
  -- what is frozen from here on
  have le : Le f ⟨upd (upd f.F c' (LamX.CodeO c' (X.env.qual ++ "<lambda>"))) a (LamO a Lf), f.e⟩ := ⟨fun b o e => by
    have hb : b ≠ a := fun z => by rw [z, fa.1] at e; cases e
    show upd (upd f.F c' _) a _ b = some o
    rw [upd_ne hb]
    by_cases hc : b = c'
    · subst hc
      have := eN b o (hs.fr b o e) (hs.nt b o e)
      rw [e2] at this
      rw [upd_same]; exact this
    · rw [upd_ne hc]; exact e, fun _ _ e => e⟩
  have ex : Ex H f H1 ⟨upd (upd f.F c' (LamX.CodeO c' (X.env.qual ++ "<lambda>"))) a (LamO a Lf), f.e⟩ := ⟨le, fun b o hb nt n => ⟨eN b o hb nt, fun ct z => by
    show upd (upd f.F c' _) a _ b = none
    have h1 : b ≠ a := fun y => by rw [y, ha] at hb; cases hb
    have h2 : b ≠ c' := fun y => by
      have := eN b o hb nt
      rw [y, e2] at this
      cases this
      rw [ctc] at ct; cases ct
    rw [upd_ne h1, upd_ne h2]; exact z, n⟩⟩
  have hs' : Hs (wd X) H1 ⟨upd (upd f.F c' (LamX.CodeO c' (X.env.qual ++ "<lambda>"))) a (LamO a Lf), f.e⟩ g := by
    refine ⟨fun b o e => ?_, fun b o e => ?_, T1, hs.len, fun b hb => ?_, fun i x hx nd => ?_, hs.nd⟩
    · have e : upd (upd f.F c' _) a _ b = some o := e
      by_cases h1 : b = a
      · subst h1; rw [upd_same] at e; cases e; exact e1
      · rw [upd_ne h1] at e
        by_cases h2 : b = c'
        · subst h2; rw [upd_same] at e; cases e; exact e2
        · rw [upd_ne h2] at e
          exact eN b o (hs.fr b o e) (hs.nt b o e)
    · have e : upd (upd f.F c' _) a _ b = some o := e
      by_cases h1 : b = a
      · subst h1; rw [upd_same] at e; cases e; exact nl
      · rw [upd_ne h1] at e
        by_cases h2 : b = c'
        · subst h2; rw [upd_same] at e; cases e; exact nc
        · rw [upd_ne h2] at e
          exact hs.nt b o e
    · obtain ⟨o, e, nt⟩ := hs.lv b hb
      exact ⟨o, eN b o e nt, nt⟩
    · obtain ⟨b, o, q1, q2, q3, q4, q5⟩ := hs.hot i x hx nd
      refine ⟨b, o, q1, ?_, eN b o q3 (rpO_nt q4), rpO_mono le q4, q5⟩
      show upd (upd f.F c' _) a _ b = none
      have h1 : b ≠ a := fun y => by rw [y, ha] at q3; cases q3
      have h2 : b ≠ c' := fun y => by
        have := eN b o q3 (rpO_nt q4)
        rw [y, e2] at this
        cases this
        have := rpO_ct q4
        rw [ctc] at this; cases this
      rw [upd_ne h1, upd_ne h2]; exact q2
  refine p (.ref a) H1 _ ex hs' ?_
  show Rp (wd X) _ (.lam (X.env.qual ++ "<lambda>") fs) (.ref a)
  simp only [Rp]
  refine ⟨a, Lf, rfl, upd_same, ?_, by rw [← hL], by rw [← hL]; exact R c'⟩
  have hc' : Lf.c = c' := by rw [← hL]
  have hq' : Lf.qual = X.env.qual ++ "<lambda>" := by rw [← hL]
  rw [hc', hq']
  show upd (upd f.F c' _) a _ c' = _
  rw [upd_ne ne, upd_same]
/-- what a lambda tells of an exception -/
def kLamF (xs : List Str) (fx : Str → List Str) (fs : List Str) (e : D) (g : List D) : R D := match e with
  | .exc c as => if c ∈ xs ∧ (∀ q ∈ fs, q ∈ fx c) ∧ (fs.length ≤ 900 ∧ fs ≠ []) ∧ (∀ q ∈ fs, (as.lookup q).isSome) then .ok (.lst (fs.map fun q => (as.lookup q).getD .non)) g else .no
  | _ => .no
def mCallL (xs : List Str) (fx : Str → List Str) (i : Nat) (m : M D) : M D := fun ρ g => match ρ.getD i .non with
  | .lam q fs => (m ρ g).bind fun e g1 => kLamF xs fx fs e g1
  | _ => .no
theorem lookX_pd {Z : Wd} {f : Fz} {n : Str} : ∀ {fs : List (Str × D)} {ws : List (Str × V)}, Paired (PF Z f) fs ws → (fs.lookup n).isSome = true → ∃ v, ws.lookup n = some v ∧ Rp Z f ((fs.lookup n).getD .non) v
  | _, _, .nil, h => by simp at h
  | (a, x) :: fs, (b, y) :: ws, .cons q t, h => by
    obtain ⟨q1, q2⟩ := q
    have q1 : a = b := q1
    subst q1
    simp only [List.lookup_cons] at h ⊢
    by_cases e : (n == a) = true
    · rw [e]; exact ⟨y, rfl, q2⟩
    · have e : (n == a) = false := by simpa using e
      rw [e] at h ⊢
      exact lookX_pd t h
theorem lamL_pd {Z : Wd} {f : Fz} {as : List (Str × D)} {ws : List (Str × V)} (r : Paired (PF Z f) as ws) : ∀ {fs : List Str}, (∀ q ∈ fs, (as.lookup q).isSome = true) → ∃ us, fs.map (fun q => ws.lookup q) = us.map some ∧ Paired (Rp Z f) (fs.map fun q => (as.lookup q).getD .non) us
  | [], _ => ⟨[], rfl, .nil⟩
  | q :: fs, h => by
    obtain ⟨us, e, p⟩ := lamL_pd r fun x hx => h x (List.mem_cons_of_mem _ hx)
    obtain ⟨v, e1, p1⟩ := lookX_pd r (h q (List.mem_cons_self ..))
    exact ⟨v :: us, by simp only [List.map_cons, e1, e], .cons p1 p⟩
theorem fx_callL (G : Gd X E sc N k df) (ki : KXc X.K X.mg xs bs fx tx) (i : Nat) {y : Str} {p : Pos} {e : Expr} {m : M D} (he : PX X E W e m) (hN : N[i]? = some y := by rfl) (hv : visB sc y = true := by rfl) (hW : W[i]? = some .sh := by rfl) (hk : 1 ≤ k := by omega)
    (h1 : (y == ("__debug__" : Str)) = false := by decide) (h2 : (y == ("__classdict__" : Str)) = false := by decide) (hs : starEach [e] X.env = (false, eval e X.env) :: starEach [] X.env := by rfl) (hpl : (backTo pos (starEach [] X.env)).any (·.1) = false := by rfl) :
    FX X E W (.Call (.Name y p) [e] [] pos) (mCallL xs fx i m) := by
  have hx : Passes (L2.CX X.prog X.w) X (fun _ _ _ => False) := passes_call G.takes fun _ _ _ _ z => z.elim
  refine PE.imp (pe_callLV (i := i) (fun f A outer s H us vs Q hr e0 r h => lam_sp f A outer s H us vs Q hr e0 r h) (G.room.mono hk) hx (by rw [G.N_]; exact hN) (by rw [G.sc_]; exact vis_of hv) (pa_cons he pa_nil hs) h1 h2 hs hpl) fun σ H Q q => ?_
  obtain ⟨f, ρ, g, s, hss, p⟩ := q
  obtain ⟨v, e1, r1⟩ := s.slot i .sh hW
  unfold mCallL at p
  split at p
  · rename_i q fs hd
    rw [hd] at r1
    have r1' := r1
    simp only [Rp] at r1
    obtain ⟨a, L, rfl, f1, f2, f3, hR⟩ := r1
    refine ⟨a, e1, ⟨L, hss.fr _ _ f1⟩, f, ρ, g, s, hss, postF.bind p fun d g1 x H1 f1' he1 ex1 hs1 rx p1 => ?_⟩
    have rx : Rp (wd X) f1' d x := rx
    unfold kLamF at p1
    split at p1
    · rename_i cN as _
      split at p1
      · rename_i hc
        obtain ⟨c1, c2, ⟨c3, c5⟩, c4⟩ := hc
        simp only [Rp] at rx
        obtain ⟨b, C, rfl, mC, e⟩ := rx
        obtain ⟨C', mC', hC, hXf, _, hno⟩ := ki.cls cN c1
        have mC : X.mg cN = some (.ref C) := mC
        rw [mC] at mC'; cases mC'
        have lf : f1'.F a = some (LamO a L) := ex1.le.F _ _ f1
        have lc : f1'.F L.c = some (LamX.CodeO L.c L.qual) := ex1.le.F _ _ f2
        rcases e with ⟨d, ws, q1, q2, q3⟩ | ⟨q1, q2⟩
        · obtain ⟨us, u1, u2⟩ := lamL_pd (rpF_iff.mp q3) c4
          have ul : us.length = fs.length := by
            have := congrArg List.length u1
            simpa using this.symm
          refine ⟨a, b, C, d, L, fs, ws, us, rfl, hs1.fr _ _ lf, hs1.fr _ _ lc, hR, hs1.fr _ _ q1, hs1.fr _ _ q2, hXf, fun n hn => hno n (c2 n hn), u1, by rw [ul, sizeLine_eq]; omega, fun l hl => ?_⟩
          exact p1 l (.lst us) _ f1' (Ex.laid hs1 hl) (hs1.laid hl) (Nw.laid hs1 hl u2)
        · subst q1
          cases fs with
          | cons n r => exact absurd (c4 n (List.mem_cons_self ..)) (by simp)
          | nil => exact absurd rfl c5
      · exact p1.elim
    · exact p1.elim
  · exact p.elim
end
end TL
end

section
set_option Elab.async false
set_option linter.all false
set_option autoImplicit false
set_option maxRecDepth 100000
set_option maxHeartbeats 2000000
/-! TX, part h: the head's side of own exceptions -/
namespace TL
open PySem PySem.Spec PyProof.Rows L2 He
variable [TabL]
section
variable {P : Program} {w : World} {K : PySem.W.Frag} {mg : Str → Option Value} {base : Heap} {h : Heap} {x qual c : Str} {st : Stmt} {ps fs : List Str} {k : Nat}
structure Evi (K : PySem.W.Frag) (mg : Str → Option Value) (c qual : Str) (st : Stmt) (fs ps : List Str) : Prop where
  ex : ∃ (C fI : Addr) (fd : FuncData), mg c = some (.ref C) ∧ OexC K C ∧ PySem.W.findIn K (.ref C) "__init__" = some (some (.ref fI)) ∧ PySem.W.typeIn K (.ref fI) = some (.type "function") ∧ Fun K "__init__" qual st fI fd ∧ Binds K fd ("self" :: ps) [] ∧ ∀ fld ∈ fs, PySem.W.findIn K (.ref C) fld = some none
theorem init_two {sc : Scope} {C fI : Addr} {fd : FuncData} {f1 f2 p1 p2 : Str} {q1 q2 q3 q4 r1 r2 r3 r4 : Pos} (F : Fun K x qual st fI fd) (hsc : defScope st = sc) (S : FnScope ["self", p1, p2] ["self", p1, p2] (defScope st)) (hs : scOk sc = true) (v0 : visB sc "self" = true) (v1 : visB sc p1 = true) (v2 : visB sc p2 = true)
    (hb : defBody st = [.Assign [.Attribute (.Name "self" q1) f1 q2] (.Name p1 q3) q4, .Assign [.Attribute (.Name "self" r1) f2 r2] (.Name p2 r3) r4]) (T : OexC K C) (n1 : PySem.W.findIn K (.ref C) f1 = some none) (n2 : PySem.W.findIn K (.ref C) f2 = some none) :
    FnOk P w K mg base (L2.CX P w) (k + 1) fI fd ["self", p1, p2] (spIn C [f1, f2]) := by
  refine F.okX S (fun vs H Q E h => ?_) (fun cdv A outer s H vs Q E hr h => ?_)
  · obtain ⟨a, ys, rfl, hl, _⟩ := h
    match ys, hl with
    | [_, _], _ => rfl
  · have G := gd_of (P := P) (w := w) (K := K) (mg := mg) (base := base) (E := E) (outer := outer) (H := H) hsc S hs hr
    obtain ⟨a, ys, rfl, hl, ha, q⟩ := h
    match ys, hl with
    | [y1, y2], _ =>
      rw [hb]
      refine ⟨_, pss_cons (ps_ost (G.name 0 rfl v0) (G.name 1 rfl v1)) (pss_one (ps_ost (G.name 0 rfl v0) (G.name 2 rfl v2))), ?_⟩
      refine ⟨y1, rfl, .ref a, rfl, a, C, rfl, T, n1, .inl ⟨ha, fun dx h1 h2 => ?_⟩⟩
      refine ⟨y2, rfl, .ref a, rfl, a, C, rfl, T, n2, .inr ⟨dx, [(f1, y1)], upd_same, ?_, by simp, ?_⟩⟩
      · rw [upd_ne h2, upd_same]
      · have eq : upd (upd (upd H dx (exd dx [(f1, y1)])) a (exo a C (some dx))) dx (exd dx [(f2, y2), (f1, y1)]) = upd (upd H dx (exd dx [(f2, y2), (f1, y1)])) a (exo a C (some dx)) := by
          funext b
          by_cases e1 : b = dx
          · rw [e1, upd_same, upd_ne h2, upd_same]
          · rw [upd_ne e1]
            by_cases e2 : b = a
            · rw [e2, upd_same, upd_same]
            · rw [upd_ne e2, upd_ne e2, upd_ne e1, upd_ne e1]
        show Q .non _
        rw [eq]
        exact q dx h1 h2
theorem spI1_of {C : Addr} {fld : Str} {fI : Addr} {fd : FuncData} {ps : List Str} {CX : CXT} (F : FnOk P w K mg base CX k fI fd ps (spI1 C fld)) : FnOk P w K mg base CX k fI fd ps (spIn C [fld]) := F.imp fun vs H Q E q => by
  obtain ⟨a, ys, rfl, hl, ha, q⟩ := q
  match ys, hl with
  | [y], _ => exact ⟨a, y, rfl, ha, q⟩
def BindK (qual : Str) (st : Stmt) (ps ks : List Str) (perm : List Nat) : Prop := ∀ (kV doc pm : Value) (an : Option Addr) (cdv ct : Value) (us ws : List Value), us.length = 1 → ws.length = ks.length →
  bindArgs (PySem.W.fnOf "__init__" qual (defArgs st) (defBody st) (defScope st) .none kV doc pm an cdv ct) ⟨us, ks.zip ws⟩ = pure ((("self" : Str) :: ps).zip (us ++ perm.map fun i => ws.getD i .none))
theorem kbn_of {fI : Addr} {fd : FuncData} {ks : List Str} {perm : List Nat} (F : Fun K "__init__" qual st fI fd) (hB : BindK qual st ps ks perm) : KBn K fd ("self" :: ps) 1 ks (gK perm) (gKV perm) := by
  refine ⟨fun s us ws _ l1 l2 => ?_, fun h1 h2 => gK_rel h1 h2⟩
  obtain ⟨oc, od, kV, doc, pm, an, cdv, ct, osl, rfl, _⟩ := F.ex
  exact .of_eq (hB kV doc pm an cdv ct us ws l1 l2)
section
variable {f1 f2 p1 p2 : Str} {q1 q2 q3 q4 r1 r2 r3 r4 : Pos} {ks : List Str} {perm : List Nat}
theorem Evi.e1 (h : Evi K mg c qual st [f1] [p1]) (S : FnScope ["self", p1] ["self", p1] (defScope st)) (hs : scOk (defScope st) = true) (v0 : visB (defScope st) "self" = true) (v1 : visB (defScope st) p1 = true)
    (hb : defBody st = [.Assign [.Attribute (.Name "self" q1) f1 q2] (.Name p1 q3) q4]) (hB : BindK qual st [p1] ks perm) : Ev P w K mg base (k + 1) c [f1] [p1] ∧ Evk P w K mg base (k + 1) c [f1] [p1] ks perm := by
  obtain ⟨C, fI, fd, hm, T, i1, i2, F, B, no⟩ := h.ex
  have ok := spI1_of (init_one (P := P) (w := w) (mg := mg) (base := base) (k := k) F rfl S hs v0 v1 hb T (no f1 (by simp)))
  exact ⟨⟨C, fI, fd, hm, T, i1, i2, B, ok⟩, ⟨C, fI, fd, hm, T, i1, i2, kbn_of F hB, ok⟩⟩
theorem Evi.e2 (h : Evi K mg c qual st [f1, f2] [p1, p2]) (S : FnScope ["self", p1, p2] ["self", p1, p2] (defScope st)) (hs : scOk (defScope st) = true) (v0 : visB (defScope st) "self" = true) (v1 : visB (defScope st) p1 = true) (v2 : visB (defScope st) p2 = true)
    (hb : defBody st = [.Assign [.Attribute (.Name "self" q1) f1 q2] (.Name p1 q3) q4, .Assign [.Attribute (.Name "self" r1) f2 r2] (.Name p2 r3) r4]) (hB : BindK qual st [p1, p2] ks perm) :
    Ev P w K mg base (k + 1) c [f1, f2] [p1, p2] ∧ Evk P w K mg base (k + 1) c [f1, f2] [p1, p2] ks perm := by
  obtain ⟨C, fI, fd, hm, T, i1, i2, F, B, no⟩ := h.ex
  have ok := init_two (P := P) (w := w) (mg := mg) (base := base) (k := k) F rfl S hs v0 v1 v2 hb T (no f1 (by simp)) (no f2 (by simp))
  exact ⟨⟨C, fI, fd, hm, T, i1, i2, B, ok⟩, ⟨C, fI, fd, hm, T, i1, i2, kbn_of F hB, ok⟩⟩
end
variable {fa : List Fa} {fn : List DefD}
theorem evi_ok (X : K.In h) (G : h.Ns mainGlobals mg) (s : SaysD fa fn K) (hd : dm c "__init__" qual st ∈ fn) (hg : Fa.glo c ∈ fa) (b : eviB K c fs = true) (ar : Arity "__init__" qual st ("self" :: ps)) : Evi K mg c qual st fs ps := by
  obtain ⟨fd, F⟩ := s.defs hd
  unfold eviB at b
  simp only [Bool.and_eq_true, decide_eq_true_eq, List.all_eq_true] at b
  obtain ⟨⟨⟨b1, b2⟩, b3⟩, b4⟩ := b
  exact ⟨_, _, fd, glo_ok X G (s.facts hg), oexB_ok b1, b2, b3, fun_of F, FunD.bindsN F ar, b4⟩
/-! the classes among one another -/
theorem nodB_ok : ∀ {l : List Nat}, nodB l = true → l.Nodup
  | [], _ => List.nodup_nil
  | a :: r, h => by
    simp only [nodB, Bool.and_eq_true, List.all_eq_true] at h
    refine List.nodup_cons.mpr ⟨fun z => ?_, nodB_ok h.2⟩
    have := h.1 a z
    simp at this
def txX (d : Str) (bt : String → Bool) (c : Str) : Cl → Bool
  | .own c' => decide (c' = c) || decide (c' = d)
  | .bt T => bt T
theorem clsIn_some {C : Addr} {cd : ClassData} (h : PySem.W.clsIn K C = some cd) : (PySem.W.clsIn K C).isSome = true := by rw [h]; rfl
theorem inj_of : ∀ {l : List Str} {f : Str → Nat}, (l.map f).Nodup → ∀ {a b : Str}, a ∈ l → b ∈ l → f a = f b → a = b
  | [], _, _, _, _, h, _, _ => by simp at h
  | x :: l, f, nd, a, b, ha, hb, e => by
    simp only [List.map_cons, List.nodup_cons] at nd
    rcases List.mem_cons.mp ha with rfl | ha' <;> rcases List.mem_cons.mp hb with rfl | hb'
    · rfl
    · exact absurd (List.mem_map.mpr ⟨b, hb', e.symm⟩) nd.1
    · exact absurd (List.mem_map.mpr ⟨a, ha', e⟩) nd.1
    · exact inj_of nd.2 ha' hb' e
theorem kx_ok (X : K.In h) (G : h.Ns mainGlobals mg) (s : SaysD fa fn K) {xs : List Str} {bs : List String} {fx : Str → List Str} {bt : String → Bool} {d : Str} (hd : d ∈ xs) (hg : ∀ c ∈ xs, Fa.glo c ∈ fa) (b : kxB K xs bs fx bt d = true) : KXc K mg xs bs fx (txX d bt) := by
  unfold kxB at b
  simp only [Bool.and_eq_true, List.all_eq_true, decide_eq_true_eq] at b
  obtain ⟨⟨b0, bn⟩, b1⟩ := b
  unfold excB0 at b0
  simp only [Bool.and_eq_true, decide_eq_true_eq] at b0
  have nd := nodB_ok bn
  have mro : ∀ c ∈ xs, ∃ cd, PySem.W.clsIn K (ga K c) = some cd ∧ cd.mro = mroX (ga K c) (ga K d) := fun c hc => by
    have := (b1 c hc).1.1.1.2
    unfold mroB at this
    cases e : PySem.W.clsIn K (ga K c) with
    | none => rw [e] at this; cases this
    | some cd => rw [e] at this; exact ⟨cd, rfl, of_decide_eq_true this⟩
  have sub : ∀ c ∈ xs, ∀ u, PySem.W.subIn K (.ref (ga K c)) u = some ((mroX (ga K c) (ga K d)).contains u) := fun c hc u => by
    obtain ⟨cd, e1, e2⟩ := mro c hc
    show PySem.W.mroIn K (ga K c) u = _
    unfold PySem.W.mroIn
    rw [e1, Option.bind_some, e2, if_neg (by simp [mroX])]
  refine ⟨fun c hc => ?_, fun c hc c' hc' C C' e e' => ?_⟩
  · obtain ⟨⟨⟨⟨q1, q2⟩, q3⟩, q4⟩, q5⟩ := b1 c hc
    unfold excB at q1
    simp only [Bool.and_eq_true, decide_eq_true_eq] at q1
    obtain ⟨⟨⟨⟨⟨a1, a2⟩, a3⟩, a4⟩, a5⟩, a6⟩ := q1
    refine ⟨_, glo_ok X G (s.facts (hg c hc)), ⟨a1, a2, a3, a4, a5, b0.1, b0.2, a6⟩, ⟨a1, a2, a3, a4⟩, fun T hT => ?_, q5⟩
    obtain ⟨t1, t2⟩ := q4 T hT
    unfold PySem.W.kitOne
    rw [if_neg (by intro z; have := beq_iff_eq.mp z; cases this)]
    show (if PySem.W.kitMeta T = true then PySem.W.subIn K (.ref (ga K c)) (.type T) else none) = _
    rw [if_pos t1, sub c hc]
    congr 1
    unfold mroX
    show (Value.ref (ga K c) :: _).contains (.type T) = bt T
    rw [List.contains_cons]
    split
    · rw [t2]; rfl
    · rw [List.contains_cons, t2]; rfl
  · rw [glo_ok X G (s.facts (hg c hc))] at e
    rw [glo_ok X G (s.facts (hg c' hc'))] at e'
    cases e; cases e'
    unfold PySem.W.kitOne
    by_cases hcc : c' = c
    · subst hcc
      rw [if_pos (by simp)]
      simp [txX]
    · have hne : ga K c ≠ ga K c' := fun z => hcc (inj_of nd hc' hc z.symm)
      rw [if_neg (by intro z; have := beq_iff_eq.mp z; exact hne (Value.ref.inj this))]
      obtain ⟨cd', e1', _⟩ := mro c' hc'
      show (if ((PySem.W.clsIn K (ga K c')).isSome && PySem.W.typeIn K (.ref (ga K c')) == some (.type "type")) = true then PySem.W.subIn K (.ref (ga K c)) (.ref (ga K c')) else none) = _
      rw [if_pos (by rw [e1', (b1 c' hc').1.1.2]; rfl), sub c hc]
      congr 1
      have ve : PySem.HandSPX.veTail.contains (.ref (ga K c')) = false := by
        simp [PySem.HandSPX.veTail]
      have n1 : ((Value.ref (ga K c')) == Value.ref (ga K c)) = false := beq_eq_false_iff_ne.mpr fun z => hne (Value.ref.inj z).symm
      unfold mroX
      show (Value.ref (ga K c) :: _).contains (.ref (ga K c')) = (decide (c' = c) || decide (c' = d))
      rw [List.contains_cons, n1, Bool.false_or]
      by_cases hcd : c' = d
      · subst hcd
        rw [if_neg hne, List.contains_cons]
        simp
      · have hnd : ga K c' ≠ ga K d := fun z => hcd (inj_of nd hc' hd z)
        have n2 : ((Value.ref (ga K c')) == Value.ref (ga K d)) = false := beq_eq_false_iff_ne.mpr fun z => hnd (Value.ref.inj z)
        split
        · rw [ve]; simp [hcc, hcd]
        · rw [List.contains_cons, n2, ve]; simp [hcc, hcd]
theorem tabNd_ok {ns : List Str} (b : tabNd K ns = true) {x y : Str} (hx : x ∈ ns) (hy : y ∈ ns) (e : (cT K (x, none)).2 = (cT K (y, none)).2) : x = y := inj_of (f := fun x => (cT K (x, none)).2) (nodB_ok b) hx hy e
theorem ev0_ok (X : K.In h) (G : h.Ns mainGlobals mg) (s : SaysD fa fn K) (hg : Fa.glo c ∈ fa) (b : ev0B K c = true) : Ev0 K mg c := by
  unfold ev0B at b
  rw [Bool.and_eq_true] at b
  exact ⟨_, _, _, _, _, PySem.F.excBase_ValueError, b.1, glo_ok X G (s.facts hg), b.2⟩
end
end TL
end

section
set_option Elab.async false
set_option linter.all false
set_option autoImplicit false
set_option maxRecDepth 100000
/-! TX: a list unpacked into names -/
namespace TL
open PySem PySem.Spec PyProof.Rows L2
variable [TabL]
section
variable {X : Cx} {W W1 Wn : List Kd} {T T' : List Nat} {pos : Pos}
def kLstT (n : Nat) (k : KTs) : KT := fun d ρ g => match vw g d with | .lst ds => if ds.length = n then k ds ρ g else none | _ => none
theorem gx_lst {es : List Expr} {kk : Nat} {k : KTs} {n : Nat} (hc : X.calm = true) (h : GXs X W Wn T es k) (hn : (assignEach es X.env).length = n := by rfl) (hst : (assignEach es X.env).findIdx? (·.1) = none := by rfl) :
    GX X W Wn T (.Tuple es kk pos) (kLstT n k) := PG.imp (pg_lst hc h hn hst) fun v σ H Q q => by
  obtain ⟨B, f, ρ, g, d, ρ', s, r, e, p⟩ := q
  simp only [kLstT] at e
  split at e
  · rename_i ds hd
    split at e
    · rename_i hl
      obtain ⟨a, vs, rfl, h1, h2⟩ := see_lst' s.hs r hd
      exact ⟨a, vs, rfl, .inl (.inl h1), by rw [← PySem.Paired.length h2]; exact hl, B, f, ρ, g, ds, ρ', s, h2, e, p⟩
    · cases e
  · cases e
end
end TL
end

section
set_option Elab.async false
set_option linter.all false
set_option autoImplicit false
set_option maxRecDepth 100000
namespace TL
open PySem PySem.Spec PyProof.Rows L2
variable [TabL]
structure Lds (K : PySem.W.Frag) (mg : Str → Option Value) (base : Heap) : Prop where
  l_Lmade_a : Ld K mg base "_law_made_a" (lamQ "_law_made_a")
  l_Lmade_b : Ld K mg base "_law_made_b" (lamQ "_law_made_b")
  l_Lmade_c : Ld K mg base "_law_made_c" (lamQ "_law_made_c")
  l_Lmade_d : Ld K mg base "_law_made_d" (lamQ "_law_made_d")
abbrev txC : Str → Cl → Bool := txX "DealError" btC
theorem bt_ValueError : bootBuiltins "ValueError" = some (.type "ValueError") := by kernel_rfl
theorem bt_LookupError : bootBuiltins "LookupError" = some (.type "LookupError") := by kernel_rfl
theorem bt_ArithmeticError : bootBuiltins "ArithmeticError" = some (.type "ArithmeticError") := by kernel_rfl
theorem bt_TypeError : bootBuiltins "TypeError" = some (.type "TypeError") := by kernel_rfl
structure Wl (K : PySem.W.Frag) (mg : Str → Option Value) : Prop where
  b_ArithmeticError : mg "ArithmeticError" = none
  b_LookupError : mg "LookupError" = none
  b_TypeError : mg "TypeError" = none
  b_ValueError : mg "ValueError" = none
  b_all : mg "all" = none
  b_any : mg "any" = none
  b_bool : mg "bool" = none
  b_dict : mg "dict" = none
  b_enumerate : mg "enumerate" = none
  b_int : mg "int" = none
  b_isinstance : mg "isinstance" = none
  b_len : mg "len" = none
  b_list : mg "list" = none
  b_min : mg "min" = none
  b_range : mg "range" = none
  b_sorted : mg "sorted" = none
  b_str : mg "str" = none
  b_tuple : mg "tuple" = none
  b_zip : mg "zip" = none
  ki : KI K mg ksC tbC
  kf : KFn K mg fsC
  d_Ldraw : Dd K mg "_law_draw" "_law_draw" s_Ldraw ["stream", "many"]
  d_Lmixed : Dd K mg "_law_mixed" "_law_mixed" s_Lmixed ["stream", "some"]
  d_Lstart : Dd K mg "_law_start" "_law_start" s_Lstart ["script"]
  d_Lmade_a : Dd K mg "_law_made_a" "_law_made_a" s_Lmade_a ["x", "y", "z"]
  d_Lmade_b : Dd K mg "_law_made_b" "_law_made_b" s_Lmade_b ["x", "y", "z"]
  d_Lmade_c : Dd K mg "_law_made_c" "_law_made_c" s_Lmade_c ["x", "y", "z"]
  d_Lmade_d : Dd K mg "_law_made_d" "_law_made_d" s_Lmade_d ["x", "y", "z"]
  d_Lkinds_a : Dd K mg "_law_kinds_a" "_law_kinds_a" s_Lkinds_a ["e"]
  d_Lkinds_b : Dd K mg "_law_kinds_b" "_law_kinds_b" s_Lkinds_b ["e"]
  d_Lkinds_c : Dd K mg "_law_kinds_c" "_law_kinds_c" s_Lkinds_c ["e"]
  d_Lkinds_d : Dd K mg "_law_kinds_d" "_law_kinds_d" s_Lkinds_d ["e"]
  d_Lkinds : Dd K mg "_law_kinds" "_law_kinds" s_Lkinds ["e"]
  d_Lis_own : Dd K mg "_law_is_own" "_law_is_own" s_Lis_own ["e", "at"]
  d_Lsame : Dd K mg "_law_same" "_law_same" s_Lsame ["found", "due"]
  d_Lare_these : Dd K mg "_law_are_these" "_law_are_these" s_Lare_these ["found", "due"]
  d_law : Dd K mg "law" "law" s_law ["script"]
  kx : KXc K mg xsC bsC fxC txC
  ev0_DealError : Ev0 K mg "DealError"
  v_AsksOn : Evi K mg "AsksOn" "AsksOn.__init__" s_AsksOn ["many"] ["many"]
  v_BadAllotment : Evi K mg "BadAllotment" "BadAllotment.__init__" s_BadAllotment ["thing"] ["thing"]
  v_BadAsk : Evi K mg "BadAsk" "BadAsk.__init__" s_BadAsk ["thing"] ["thing"]
  v_BadAsker : Evi K mg "BadAsker" "BadAsker.__init__" s_BadAsker ["thing"] ["thing"]
  v_BadBounds : Evi K mg "BadBounds" "BadBounds.__init__" s_BadBounds ["thing"] ["thing"]
  v_BadCrossing : Evi K mg "BadCrossing" "BadCrossing.__init__" s_BadCrossing ["thing"] ["thing"]
  v_BadDealing : Evi K mg "BadDealing" "BadDealing.__init__" s_BadDealing ["thing"] ["thing"]
  v_BadDeed : Evi K mg "BadDeed" "BadDeed.__init__" s_BadDeed ["thing"] ["thing"]
  v_BadDepth : Evi K mg "BadDepth" "BadDepth.__init__" s_BadDepth ["thing"] ["thing"]
  v_BadDraw : Evi K mg "BadDraw" "BadDraw.__init__" s_BadDraw ["thing"] ["thing"]
  v_BadForm : Evi K mg "BadForm" "BadForm.__init__" s_BadForm ["thing"] ["thing"]
  v_BadGivers : Evi K mg "BadGivers" "BadGivers.__init__" s_BadGivers ["index"] ["index"]
  v_BadGoods : Evi K mg "BadGoods" "BadGoods.__init__" s_BadGoods ["index"] ["index"]
  v_BadHouses : Evi K mg "BadHouses" "BadHouses.__init__" s_BadHouses ["thing"] ["thing"]
  v_BadKind : Evi K mg "BadKind" "BadKind.__init__" s_BadKind ["thing"] ["thing"]
  v_BadKnown : Evi K mg "BadKnown" "BadKnown.__init__" s_BadKnown ["thing"] ["thing"]
  v_BadLetting : Evi K mg "BadLetting" "BadLetting.__init__" s_BadLetting ["thing"] ["thing"]
  v_BadLies : Evi K mg "BadLies" "BadLies.__init__" s_BadLies ["thing"] ["thing"]
  v_BadLot : Evi K mg "BadLot" "BadLot.__init__" s_BadLot ["index"] ["index"]
  v_BadLots : Evi K mg "BadLots" "BadLots.__init__" s_BadLots ["thing"] ["thing"]
  v_BadLottery : Evi K mg "BadLottery" "BadLottery.__init__" s_BadLottery ["fault"] ["fault"]
  v_BadMarket : Evi K mg "BadMarket" "BadMarket.__init__" s_BadMarket ["thing"] ["thing"]
  v_BadName : Evi K mg "BadName" "BadName.__init__" s_BadName ["thing"] ["thing"]
  v_BadNeeds : Evi K mg "BadNeeds" "BadNeeds.__init__" s_BadNeeds ["index"] ["index"]
  v_BadNotice : Evi K mg "BadNotice" "BadNotice.__init__" s_BadNotice ["thing"] ["thing"]
  v_BadNumber : Evi K mg "BadNumber" "BadNumber.__init__" s_BadNumber ["thing"] ["thing"]
  v_BadOrder : Evi K mg "BadOrder" "BadOrder.__init__" s_BadOrder ["index"] ["index"]
  v_BadPairing : Evi K mg "BadPairing" "BadPairing.__init__" s_BadPairing ["thing"] ["thing"]
  v_BadPairings : Evi K mg "BadPairings" "BadPairings.__init__" s_BadPairings ["index"] ["index"]
  v_BadPaper : Evi K mg "BadPaper" "BadPaper.__init__" s_BadPaper ["thing"] ["thing"]
  v_BadPapers : Evi K mg "BadPapers" "BadPapers.__init__" s_BadPapers ["index"] ["index"]
  v_BadPeople : Evi K mg "BadPeople" "BadPeople.__init__" s_BadPeople ["index"] ["index"]
  v_BadPlace : Evi K mg "BadPlace" "BadPlace.__init__" s_BadPlace ["thing"] ["thing"]
  v_BadQuestion : Evi K mg "BadQuestion" "BadQuestion.__init__" s_BadQuestion ["thing"] ["thing"]
  v_BadRanks : Evi K mg "BadRanks" "BadRanks.__init__" s_BadRanks ["thing"] ["thing"]
  v_BadResult : Evi K mg "BadResult" "BadResult.__init__" s_BadResult ["thing"] ["thing"]
  v_BadRing : Evi K mg "BadRing" "BadRing.__init__" s_BadRing ["thing"] ["thing"]
  v_BadRow : Evi K mg "BadRow" "BadRow.__init__" s_BadRow ["index"] ["index"]
  v_BadRule : Evi K mg "BadRule" "BadRule.__init__" s_BadRule ["thing"] ["thing"]
  v_BadSession : Evi K mg "BadSession" "BadSession.__init__" s_BadSession ["thing"] ["thing"]
  v_BadSides : Evi K mg "BadSides" "BadSides.__init__" s_BadSides ["thing"] ["thing"]
  v_BadSteps : Evi K mg "BadSteps" "BadSteps.__init__" s_BadSteps ["thing"] ["thing"]
  v_BadStock : Evi K mg "BadStock" "BadStock.__init__" s_BadStock ["thing"] ["thing"]
  v_BadTable : Evi K mg "BadTable" "BadTable.__init__" s_BadTable ["fault"] ["fault"]
  v_BadText : Evi K mg "BadText" "BadText.__init__" s_BadText ["line", "sign"] ["line", "sign"]
  v_BadThings : Evi K mg "BadThings" "BadThings.__init__" s_BadThings ["thing"] ["thing"]
  v_BadTown : Evi K mg "BadTown" "BadTown.__init__" s_BadTown ["thing"] ["thing"]
  v_BadWish : Evi K mg "BadWish" "BadWish.__init__" s_BadWish ["thing"] ["thing"]
  v_BadWishes : Evi K mg "BadWishes" "BadWishes.__init__" s_BadWishes ["thing"] ["thing"]
  v_HasTie : Evi K mg "HasTie" "HasTie.__init__" s_HasTie ["one", "other"] ["one", "other"]
  v_InUse : Evi K mg "InUse" "InUse.__init__" s_InUse ["question"] ["question"]
  v_IsWatched : Evi K mg "IsWatched" "IsWatched.__init__" s_IsWatched ["question"] ["question"]
  v_NoBetterRow : Evi K mg "NoBetterRow" "NoBetterRow.__init__" s_NoBetterRow ["thing"] ["thing"]
  v_NoCount : Evi K mg "NoCount" "NoCount.__init__" s_NoCount ["thing"] ["thing"]
  v_NoFirm : Evi K mg "NoFirm" "NoFirm.__init__" s_NoFirm ["ring"] ["ring"]
  v_NoPerson : Evi K mg "NoPerson" "NoPerson.__init__" s_NoPerson ["thing"] ["thing"]
  v_NoRule : Evi K mg "NoRule" "NoRule.__init__" s_NoRule ["thing"] ["thing"]
  v_NoTie : Evi K mg "NoTie" "NoTie.__init__" s_NoTie ["one", "other"] ["one", "other"]
  v_NotFirm : Evi K mg "NotFirm" "NotFirm.__init__" s_NotFirm ["pairing"] ["pairing"]
  v_NotNow : Evi K mg "NotNow" "NotNow.__init__" s_NotNow ["why"] ["why"]
  v_NotWatched : Evi K mg "NotWatched" "NotWatched.__init__" s_NotWatched ["question"] ["question"]
  v_Stays : Evi K mg "Stays" "Stays.__init__" s_Stays ["one", "other"] ["one", "other"]
  v_TurnsRound : Evi K mg "TurnsRound" "TurnsRound.__init__" s_TurnsRound ["person", "ring"] ["person", "ring"]
  v_WouldChange : Evi K mg "WouldChange" "WouldChange.__init__" s_WouldChange ["question", "why"] ["question", "why"]
theorem ev_AsksOn {P : Program} {w : World} {K : PySem.W.Frag} {mg : Str → Option Value} {base : Heap} (A : Wl K mg) : Ev P w K mg base 1 "AsksOn" ["many"] ["many"] ∧ Evk P w K mg base 1 "AsksOn" ["many"] ["many"] ["many"] [0] := A.v_AsksOn.e1 ⟨rfl, rfl, rfl, by decide +kernel, rfl, by decide +kernel, by decide +kernel⟩ rfl rfl rfl rfl (fun _ _ _ _ _ _ us ws h1 h2 => match us, ws, h1, h2 with | [_], [_], _, _ => rfl)
theorem ev_BadAllotment {P : Program} {w : World} {K : PySem.W.Frag} {mg : Str → Option Value} {base : Heap} (A : Wl K mg) : Ev P w K mg base 1 "BadAllotment" ["thing"] ["thing"] ∧ Evk P w K mg base 1 "BadAllotment" ["thing"] ["thing"] ["thing"] [0] := A.v_BadAllotment.e1 ⟨rfl, rfl, rfl, by decide +kernel, rfl, by decide +kernel, by decide +kernel⟩ rfl rfl rfl rfl (fun _ _ _ _ _ _ us ws h1 h2 => match us, ws, h1, h2 with | [_], [_], _, _ => rfl)
theorem ev_BadAsk {P : Program} {w : World} {K : PySem.W.Frag} {mg : Str → Option Value} {base : Heap} (A : Wl K mg) : Ev P w K mg base 1 "BadAsk" ["thing"] ["thing"] ∧ Evk P w K mg base 1 "BadAsk" ["thing"] ["thing"] ["thing"] [0] := A.v_BadAsk.e1 ⟨rfl, rfl, rfl, by decide +kernel, rfl, by decide +kernel, by decide +kernel⟩ rfl rfl rfl rfl (fun _ _ _ _ _ _ us ws h1 h2 => match us, ws, h1, h2 with | [_], [_], _, _ => rfl)
theorem ev_BadAsker {P : Program} {w : World} {K : PySem.W.Frag} {mg : Str → Option Value} {base : Heap} (A : Wl K mg) : Ev P w K mg base 1 "BadAsker" ["thing"] ["thing"] ∧ Evk P w K mg base 1 "BadAsker" ["thing"] ["thing"] ["thing"] [0] := A.v_BadAsker.e1 ⟨rfl, rfl, rfl, by decide +kernel, rfl, by decide +kernel, by decide +kernel⟩ rfl rfl rfl rfl (fun _ _ _ _ _ _ us ws h1 h2 => match us, ws, h1, h2 with | [_], [_], _, _ => rfl)
theorem ev_BadBounds {P : Program} {w : World} {K : PySem.W.Frag} {mg : Str → Option Value} {base : Heap} (A : Wl K mg) : Ev P w K mg base 1 "BadBounds" ["thing"] ["thing"] ∧ Evk P w K mg base 1 "BadBounds" ["thing"] ["thing"] ["thing"] [0] := A.v_BadBounds.e1 ⟨rfl, rfl, rfl, by decide +kernel, rfl, by decide +kernel, by decide +kernel⟩ rfl rfl rfl rfl (fun _ _ _ _ _ _ us ws h1 h2 => match us, ws, h1, h2 with | [_], [_], _, _ => rfl)
theorem ev_BadCrossing {P : Program} {w : World} {K : PySem.W.Frag} {mg : Str → Option Value} {base : Heap} (A : Wl K mg) : Ev P w K mg base 1 "BadCrossing" ["thing"] ["thing"] ∧ Evk P w K mg base 1 "BadCrossing" ["thing"] ["thing"] ["thing"] [0] := A.v_BadCrossing.e1 ⟨rfl, rfl, rfl, by decide +kernel, rfl, by decide +kernel, by decide +kernel⟩ rfl rfl rfl rfl (fun _ _ _ _ _ _ us ws h1 h2 => match us, ws, h1, h2 with | [_], [_], _, _ => rfl)
theorem ev_BadDealing {P : Program} {w : World} {K : PySem.W.Frag} {mg : Str → Option Value} {base : Heap} (A : Wl K mg) : Ev P w K mg base 1 "BadDealing" ["thing"] ["thing"] ∧ Evk P w K mg base 1 "BadDealing" ["thing"] ["thing"] ["thing"] [0] := A.v_BadDealing.e1 ⟨rfl, rfl, rfl, by decide +kernel, rfl, by decide +kernel, by decide +kernel⟩ rfl rfl rfl rfl (fun _ _ _ _ _ _ us ws h1 h2 => match us, ws, h1, h2 with | [_], [_], _, _ => rfl)
theorem ev_BadDeed {P : Program} {w : World} {K : PySem.W.Frag} {mg : Str → Option Value} {base : Heap} (A : Wl K mg) : Ev P w K mg base 1 "BadDeed" ["thing"] ["thing"] ∧ Evk P w K mg base 1 "BadDeed" ["thing"] ["thing"] ["thing"] [0] := A.v_BadDeed.e1 ⟨rfl, rfl, rfl, by decide +kernel, rfl, by decide +kernel, by decide +kernel⟩ rfl rfl rfl rfl (fun _ _ _ _ _ _ us ws h1 h2 => match us, ws, h1, h2 with | [_], [_], _, _ => rfl)
theorem ev_BadDepth {P : Program} {w : World} {K : PySem.W.Frag} {mg : Str → Option Value} {base : Heap} (A : Wl K mg) : Ev P w K mg base 1 "BadDepth" ["thing"] ["thing"] ∧ Evk P w K mg base 1 "BadDepth" ["thing"] ["thing"] ["thing"] [0] := A.v_BadDepth.e1 ⟨rfl, rfl, rfl, by decide +kernel, rfl, by decide +kernel, by decide +kernel⟩ rfl rfl rfl rfl (fun _ _ _ _ _ _ us ws h1 h2 => match us, ws, h1, h2 with | [_], [_], _, _ => rfl)
theorem ev_BadDraw {P : Program} {w : World} {K : PySem.W.Frag} {mg : Str → Option Value} {base : Heap} (A : Wl K mg) : Ev P w K mg base 1 "BadDraw" ["thing"] ["thing"] ∧ Evk P w K mg base 1 "BadDraw" ["thing"] ["thing"] ["thing"] [0] := A.v_BadDraw.e1 ⟨rfl, rfl, rfl, by decide +kernel, rfl, by decide +kernel, by decide +kernel⟩ rfl rfl rfl rfl (fun _ _ _ _ _ _ us ws h1 h2 => match us, ws, h1, h2 with | [_], [_], _, _ => rfl)
theorem ev_BadForm {P : Program} {w : World} {K : PySem.W.Frag} {mg : Str → Option Value} {base : Heap} (A : Wl K mg) : Ev P w K mg base 1 "BadForm" ["thing"] ["thing"] ∧ Evk P w K mg base 1 "BadForm" ["thing"] ["thing"] ["thing"] [0] := A.v_BadForm.e1 ⟨rfl, rfl, rfl, by decide +kernel, rfl, by decide +kernel, by decide +kernel⟩ rfl rfl rfl rfl (fun _ _ _ _ _ _ us ws h1 h2 => match us, ws, h1, h2 with | [_], [_], _, _ => rfl)
theorem ev_BadGivers {P : Program} {w : World} {K : PySem.W.Frag} {mg : Str → Option Value} {base : Heap} (A : Wl K mg) : Ev P w K mg base 1 "BadGivers" ["index"] ["index"] ∧ Evk P w K mg base 1 "BadGivers" ["index"] ["index"] ["index"] [0] := A.v_BadGivers.e1 ⟨rfl, rfl, rfl, by decide +kernel, rfl, by decide +kernel, by decide +kernel⟩ rfl rfl rfl rfl (fun _ _ _ _ _ _ us ws h1 h2 => match us, ws, h1, h2 with | [_], [_], _, _ => rfl)
theorem ev_BadGoods {P : Program} {w : World} {K : PySem.W.Frag} {mg : Str → Option Value} {base : Heap} (A : Wl K mg) : Ev P w K mg base 1 "BadGoods" ["index"] ["index"] ∧ Evk P w K mg base 1 "BadGoods" ["index"] ["index"] ["index"] [0] := A.v_BadGoods.e1 ⟨rfl, rfl, rfl, by decide +kernel, rfl, by decide +kernel, by decide +kernel⟩ rfl rfl rfl rfl (fun _ _ _ _ _ _ us ws h1 h2 => match us, ws, h1, h2 with | [_], [_], _, _ => rfl)
theorem ev_BadHouses {P : Program} {w : World} {K : PySem.W.Frag} {mg : Str → Option Value} {base : Heap} (A : Wl K mg) : Ev P w K mg base 1 "BadHouses" ["thing"] ["thing"] ∧ Evk P w K mg base 1 "BadHouses" ["thing"] ["thing"] ["thing"] [0] := A.v_BadHouses.e1 ⟨rfl, rfl, rfl, by decide +kernel, rfl, by decide +kernel, by decide +kernel⟩ rfl rfl rfl rfl (fun _ _ _ _ _ _ us ws h1 h2 => match us, ws, h1, h2 with | [_], [_], _, _ => rfl)
theorem ev_BadKind {P : Program} {w : World} {K : PySem.W.Frag} {mg : Str → Option Value} {base : Heap} (A : Wl K mg) : Ev P w K mg base 1 "BadKind" ["thing"] ["thing"] ∧ Evk P w K mg base 1 "BadKind" ["thing"] ["thing"] ["thing"] [0] := A.v_BadKind.e1 ⟨rfl, rfl, rfl, by decide +kernel, rfl, by decide +kernel, by decide +kernel⟩ rfl rfl rfl rfl (fun _ _ _ _ _ _ us ws h1 h2 => match us, ws, h1, h2 with | [_], [_], _, _ => rfl)
theorem ev_BadKnown {P : Program} {w : World} {K : PySem.W.Frag} {mg : Str → Option Value} {base : Heap} (A : Wl K mg) : Ev P w K mg base 1 "BadKnown" ["thing"] ["thing"] ∧ Evk P w K mg base 1 "BadKnown" ["thing"] ["thing"] ["thing"] [0] := A.v_BadKnown.e1 ⟨rfl, rfl, rfl, by decide +kernel, rfl, by decide +kernel, by decide +kernel⟩ rfl rfl rfl rfl (fun _ _ _ _ _ _ us ws h1 h2 => match us, ws, h1, h2 with | [_], [_], _, _ => rfl)
theorem ev_BadLetting {P : Program} {w : World} {K : PySem.W.Frag} {mg : Str → Option Value} {base : Heap} (A : Wl K mg) : Ev P w K mg base 1 "BadLetting" ["thing"] ["thing"] ∧ Evk P w K mg base 1 "BadLetting" ["thing"] ["thing"] ["thing"] [0] := A.v_BadLetting.e1 ⟨rfl, rfl, rfl, by decide +kernel, rfl, by decide +kernel, by decide +kernel⟩ rfl rfl rfl rfl (fun _ _ _ _ _ _ us ws h1 h2 => match us, ws, h1, h2 with | [_], [_], _, _ => rfl)
theorem ev_BadLies {P : Program} {w : World} {K : PySem.W.Frag} {mg : Str → Option Value} {base : Heap} (A : Wl K mg) : Ev P w K mg base 1 "BadLies" ["thing"] ["thing"] ∧ Evk P w K mg base 1 "BadLies" ["thing"] ["thing"] ["thing"] [0] := A.v_BadLies.e1 ⟨rfl, rfl, rfl, by decide +kernel, rfl, by decide +kernel, by decide +kernel⟩ rfl rfl rfl rfl (fun _ _ _ _ _ _ us ws h1 h2 => match us, ws, h1, h2 with | [_], [_], _, _ => rfl)
theorem ev_BadLot {P : Program} {w : World} {K : PySem.W.Frag} {mg : Str → Option Value} {base : Heap} (A : Wl K mg) : Ev P w K mg base 1 "BadLot" ["index"] ["index"] ∧ Evk P w K mg base 1 "BadLot" ["index"] ["index"] ["index"] [0] := A.v_BadLot.e1 ⟨rfl, rfl, rfl, by decide +kernel, rfl, by decide +kernel, by decide +kernel⟩ rfl rfl rfl rfl (fun _ _ _ _ _ _ us ws h1 h2 => match us, ws, h1, h2 with | [_], [_], _, _ => rfl)
theorem ev_BadLots {P : Program} {w : World} {K : PySem.W.Frag} {mg : Str → Option Value} {base : Heap} (A : Wl K mg) : Ev P w K mg base 1 "BadLots" ["thing"] ["thing"] ∧ Evk P w K mg base 1 "BadLots" ["thing"] ["thing"] ["thing"] [0] := A.v_BadLots.e1 ⟨rfl, rfl, rfl, by decide +kernel, rfl, by decide +kernel, by decide +kernel⟩ rfl rfl rfl rfl (fun _ _ _ _ _ _ us ws h1 h2 => match us, ws, h1, h2 with | [_], [_], _, _ => rfl)
theorem ev_BadLottery {P : Program} {w : World} {K : PySem.W.Frag} {mg : Str → Option Value} {base : Heap} (A : Wl K mg) : Ev P w K mg base 1 "BadLottery" ["fault"] ["fault"] ∧ Evk P w K mg base 1 "BadLottery" ["fault"] ["fault"] ["fault"] [0] := A.v_BadLottery.e1 ⟨rfl, rfl, rfl, by decide +kernel, rfl, by decide +kernel, by decide +kernel⟩ rfl rfl rfl rfl (fun _ _ _ _ _ _ us ws h1 h2 => match us, ws, h1, h2 with | [_], [_], _, _ => rfl)
theorem ev_BadMarket {P : Program} {w : World} {K : PySem.W.Frag} {mg : Str → Option Value} {base : Heap} (A : Wl K mg) : Ev P w K mg base 1 "BadMarket" ["thing"] ["thing"] ∧ Evk P w K mg base 1 "BadMarket" ["thing"] ["thing"] ["thing"] [0] := A.v_BadMarket.e1 ⟨rfl, rfl, rfl, by decide +kernel, rfl, by decide +kernel, by decide +kernel⟩ rfl rfl rfl rfl (fun _ _ _ _ _ _ us ws h1 h2 => match us, ws, h1, h2 with | [_], [_], _, _ => rfl)
theorem ev_BadName {P : Program} {w : World} {K : PySem.W.Frag} {mg : Str → Option Value} {base : Heap} (A : Wl K mg) : Ev P w K mg base 1 "BadName" ["thing"] ["thing"] ∧ Evk P w K mg base 1 "BadName" ["thing"] ["thing"] ["thing"] [0] := A.v_BadName.e1 ⟨rfl, rfl, rfl, by decide +kernel, rfl, by decide +kernel, by decide +kernel⟩ rfl rfl rfl rfl (fun _ _ _ _ _ _ us ws h1 h2 => match us, ws, h1, h2 with | [_], [_], _, _ => rfl)
theorem ev_BadNeeds {P : Program} {w : World} {K : PySem.W.Frag} {mg : Str → Option Value} {base : Heap} (A : Wl K mg) : Ev P w K mg base 1 "BadNeeds" ["index"] ["index"] ∧ Evk P w K mg base 1 "BadNeeds" ["index"] ["index"] ["index"] [0] := A.v_BadNeeds.e1 ⟨rfl, rfl, rfl, by decide +kernel, rfl, by decide +kernel, by decide +kernel⟩ rfl rfl rfl rfl (fun _ _ _ _ _ _ us ws h1 h2 => match us, ws, h1, h2 with | [_], [_], _, _ => rfl)
theorem ev_BadNotice {P : Program} {w : World} {K : PySem.W.Frag} {mg : Str → Option Value} {base : Heap} (A : Wl K mg) : Ev P w K mg base 1 "BadNotice" ["thing"] ["thing"] ∧ Evk P w K mg base 1 "BadNotice" ["thing"] ["thing"] ["thing"] [0] := A.v_BadNotice.e1 ⟨rfl, rfl, rfl, by decide +kernel, rfl, by decide +kernel, by decide +kernel⟩ rfl rfl rfl rfl (fun _ _ _ _ _ _ us ws h1 h2 => match us, ws, h1, h2 with | [_], [_], _, _ => rfl)
theorem ev_BadNumber {P : Program} {w : World} {K : PySem.W.Frag} {mg : Str → Option Value} {base : Heap} (A : Wl K mg) : Ev P w K mg base 1 "BadNumber" ["thing"] ["thing"] ∧ Evk P w K mg base 1 "BadNumber" ["thing"] ["thing"] ["thing"] [0] := A.v_BadNumber.e1 ⟨rfl, rfl, rfl, by decide +kernel, rfl, by decide +kernel, by decide +kernel⟩ rfl rfl rfl rfl (fun _ _ _ _ _ _ us ws h1 h2 => match us, ws, h1, h2 with | [_], [_], _, _ => rfl)
theorem ev_BadOrder {P : Program} {w : World} {K : PySem.W.Frag} {mg : Str → Option Value} {base : Heap} (A : Wl K mg) : Ev P w K mg base 1 "BadOrder" ["index"] ["index"] ∧ Evk P w K mg base 1 "BadOrder" ["index"] ["index"] ["index"] [0] := A.v_BadOrder.e1 ⟨rfl, rfl, rfl, by decide +kernel, rfl, by decide +kernel, by decide +kernel⟩ rfl rfl rfl rfl (fun _ _ _ _ _ _ us ws h1 h2 => match us, ws, h1, h2 with | [_], [_], _, _ => rfl)
theorem ev_BadPairing {P : Program} {w : World} {K : PySem.W.Frag} {mg : Str → Option Value} {base : Heap} (A : Wl K mg) : Ev P w K mg base 1 "BadPairing" ["thing"] ["thing"] ∧ Evk P w K mg base 1 "BadPairing" ["thing"] ["thing"] ["thing"] [0] := A.v_BadPairing.e1 ⟨rfl, rfl, rfl, by decide +kernel, rfl, by decide +kernel, by decide +kernel⟩ rfl rfl rfl rfl (fun _ _ _ _ _ _ us ws h1 h2 => match us, ws, h1, h2 with | [_], [_], _, _ => rfl)
theorem ev_BadPairings {P : Program} {w : World} {K : PySem.W.Frag} {mg : Str → Option Value} {base : Heap} (A : Wl K mg) : Ev P w K mg base 1 "BadPairings" ["index"] ["index"] ∧ Evk P w K mg base 1 "BadPairings" ["index"] ["index"] ["index"] [0] := A.v_BadPairings.e1 ⟨rfl, rfl, rfl, by decide +kernel, rfl, by decide +kernel, by decide +kernel⟩ rfl rfl rfl rfl (fun _ _ _ _ _ _ us ws h1 h2 => match us, ws, h1, h2 with | [_], [_], _, _ => rfl)
theorem ev_BadPaper {P : Program} {w : World} {K : PySem.W.Frag} {mg : Str → Option Value} {base : Heap} (A : Wl K mg) : Ev P w K mg base 1 "BadPaper" ["thing"] ["thing"] ∧ Evk P w K mg base 1 "BadPaper" ["thing"] ["thing"] ["thing"] [0] := A.v_BadPaper.e1 ⟨rfl, rfl, rfl, by decide +kernel, rfl, by decide +kernel, by decide +kernel⟩ rfl rfl rfl rfl (fun _ _ _ _ _ _ us ws h1 h2 => match us, ws, h1, h2 with | [_], [_], _, _ => rfl)
theorem ev_BadPapers {P : Program} {w : World} {K : PySem.W.Frag} {mg : Str → Option Value} {base : Heap} (A : Wl K mg) : Ev P w K mg base 1 "BadPapers" ["index"] ["index"] ∧ Evk P w K mg base 1 "BadPapers" ["index"] ["index"] ["index"] [0] := A.v_BadPapers.e1 ⟨rfl, rfl, rfl, by decide +kernel, rfl, by decide +kernel, by decide +kernel⟩ rfl rfl rfl rfl (fun _ _ _ _ _ _ us ws h1 h2 => match us, ws, h1, h2 with | [_], [_], _, _ => rfl)
theorem ev_BadPeople {P : Program} {w : World} {K : PySem.W.Frag} {mg : Str → Option Value} {base : Heap} (A : Wl K mg) : Ev P w K mg base 1 "BadPeople" ["index"] ["index"] ∧ Evk P w K mg base 1 "BadPeople" ["index"] ["index"] ["index"] [0] := A.v_BadPeople.e1 ⟨rfl, rfl, rfl, by decide +kernel, rfl, by decide +kernel, by decide +kernel⟩ rfl rfl rfl rfl (fun _ _ _ _ _ _ us ws h1 h2 => match us, ws, h1, h2 with | [_], [_], _, _ => rfl)
theorem ev_BadPlace {P : Program} {w : World} {K : PySem.W.Frag} {mg : Str → Option Value} {base : Heap} (A : Wl K mg) : Ev P w K mg base 1 "BadPlace" ["thing"] ["thing"] ∧ Evk P w K mg base 1 "BadPlace" ["thing"] ["thing"] ["thing"] [0] := A.v_BadPlace.e1 ⟨rfl, rfl, rfl, by decide +kernel, rfl, by decide +kernel, by decide +kernel⟩ rfl rfl rfl rfl (fun _ _ _ _ _ _ us ws h1 h2 => match us, ws, h1, h2 with | [_], [_], _, _ => rfl)
theorem ev_BadQuestion {P : Program} {w : World} {K : PySem.W.Frag} {mg : Str → Option Value} {base : Heap} (A : Wl K mg) : Ev P w K mg base 1 "BadQuestion" ["thing"] ["thing"] ∧ Evk P w K mg base 1 "BadQuestion" ["thing"] ["thing"] ["thing"] [0] := A.v_BadQuestion.e1 ⟨rfl, rfl, rfl, by decide +kernel, rfl, by decide +kernel, by decide +kernel⟩ rfl rfl rfl rfl (fun _ _ _ _ _ _ us ws h1 h2 => match us, ws, h1, h2 with | [_], [_], _, _ => rfl)
theorem ev_BadRanks {P : Program} {w : World} {K : PySem.W.Frag} {mg : Str → Option Value} {base : Heap} (A : Wl K mg) : Ev P w K mg base 1 "BadRanks" ["thing"] ["thing"] ∧ Evk P w K mg base 1 "BadRanks" ["thing"] ["thing"] ["thing"] [0] := A.v_BadRanks.e1 ⟨rfl, rfl, rfl, by decide +kernel, rfl, by decide +kernel, by decide +kernel⟩ rfl rfl rfl rfl (fun _ _ _ _ _ _ us ws h1 h2 => match us, ws, h1, h2 with | [_], [_], _, _ => rfl)
theorem ev_BadResult {P : Program} {w : World} {K : PySem.W.Frag} {mg : Str → Option Value} {base : Heap} (A : Wl K mg) : Ev P w K mg base 1 "BadResult" ["thing"] ["thing"] ∧ Evk P w K mg base 1 "BadResult" ["thing"] ["thing"] ["thing"] [0] := A.v_BadResult.e1 ⟨rfl, rfl, rfl, by decide +kernel, rfl, by decide +kernel, by decide +kernel⟩ rfl rfl rfl rfl (fun _ _ _ _ _ _ us ws h1 h2 => match us, ws, h1, h2 with | [_], [_], _, _ => rfl)
theorem ev_BadRing {P : Program} {w : World} {K : PySem.W.Frag} {mg : Str → Option Value} {base : Heap} (A : Wl K mg) : Ev P w K mg base 1 "BadRing" ["thing"] ["thing"] ∧ Evk P w K mg base 1 "BadRing" ["thing"] ["thing"] ["thing"] [0] := A.v_BadRing.e1 ⟨rfl, rfl, rfl, by decide +kernel, rfl, by decide +kernel, by decide +kernel⟩ rfl rfl rfl rfl (fun _ _ _ _ _ _ us ws h1 h2 => match us, ws, h1, h2 with | [_], [_], _, _ => rfl)
theorem ev_BadRow {P : Program} {w : World} {K : PySem.W.Frag} {mg : Str → Option Value} {base : Heap} (A : Wl K mg) : Ev P w K mg base 1 "BadRow" ["index"] ["index"] ∧ Evk P w K mg base 1 "BadRow" ["index"] ["index"] ["index"] [0] := A.v_BadRow.e1 ⟨rfl, rfl, rfl, by decide +kernel, rfl, by decide +kernel, by decide +kernel⟩ rfl rfl rfl rfl (fun _ _ _ _ _ _ us ws h1 h2 => match us, ws, h1, h2 with | [_], [_], _, _ => rfl)
theorem ev_BadRule {P : Program} {w : World} {K : PySem.W.Frag} {mg : Str → Option Value} {base : Heap} (A : Wl K mg) : Ev P w K mg base 1 "BadRule" ["thing"] ["thing"] ∧ Evk P w K mg base 1 "BadRule" ["thing"] ["thing"] ["thing"] [0] := A.v_BadRule.e1 ⟨rfl, rfl, rfl, by decide +kernel, rfl, by decide +kernel, by decide +kernel⟩ rfl rfl rfl rfl (fun _ _ _ _ _ _ us ws h1 h2 => match us, ws, h1, h2 with | [_], [_], _, _ => rfl)
theorem ev_BadSession {P : Program} {w : World} {K : PySem.W.Frag} {mg : Str → Option Value} {base : Heap} (A : Wl K mg) : Ev P w K mg base 1 "BadSession" ["thing"] ["thing"] ∧ Evk P w K mg base 1 "BadSession" ["thing"] ["thing"] ["thing"] [0] := A.v_BadSession.e1 ⟨rfl, rfl, rfl, by decide +kernel, rfl, by decide +kernel, by decide +kernel⟩ rfl rfl rfl rfl (fun _ _ _ _ _ _ us ws h1 h2 => match us, ws, h1, h2 with | [_], [_], _, _ => rfl)
theorem ev_BadSides {P : Program} {w : World} {K : PySem.W.Frag} {mg : Str → Option Value} {base : Heap} (A : Wl K mg) : Ev P w K mg base 1 "BadSides" ["thing"] ["thing"] ∧ Evk P w K mg base 1 "BadSides" ["thing"] ["thing"] ["thing"] [0] := A.v_BadSides.e1 ⟨rfl, rfl, rfl, by decide +kernel, rfl, by decide +kernel, by decide +kernel⟩ rfl rfl rfl rfl (fun _ _ _ _ _ _ us ws h1 h2 => match us, ws, h1, h2 with | [_], [_], _, _ => rfl)
theorem ev_BadSteps {P : Program} {w : World} {K : PySem.W.Frag} {mg : Str → Option Value} {base : Heap} (A : Wl K mg) : Ev P w K mg base 1 "BadSteps" ["thing"] ["thing"] ∧ Evk P w K mg base 1 "BadSteps" ["thing"] ["thing"] ["thing"] [0] := A.v_BadSteps.e1 ⟨rfl, rfl, rfl, by decide +kernel, rfl, by decide +kernel, by decide +kernel⟩ rfl rfl rfl rfl (fun _ _ _ _ _ _ us ws h1 h2 => match us, ws, h1, h2 with | [_], [_], _, _ => rfl)
theorem ev_BadStock {P : Program} {w : World} {K : PySem.W.Frag} {mg : Str → Option Value} {base : Heap} (A : Wl K mg) : Ev P w K mg base 1 "BadStock" ["thing"] ["thing"] ∧ Evk P w K mg base 1 "BadStock" ["thing"] ["thing"] ["thing"] [0] := A.v_BadStock.e1 ⟨rfl, rfl, rfl, by decide +kernel, rfl, by decide +kernel, by decide +kernel⟩ rfl rfl rfl rfl (fun _ _ _ _ _ _ us ws h1 h2 => match us, ws, h1, h2 with | [_], [_], _, _ => rfl)
theorem ev_BadTable {P : Program} {w : World} {K : PySem.W.Frag} {mg : Str → Option Value} {base : Heap} (A : Wl K mg) : Ev P w K mg base 1 "BadTable" ["fault"] ["fault"] ∧ Evk P w K mg base 1 "BadTable" ["fault"] ["fault"] ["fault"] [0] := A.v_BadTable.e1 ⟨rfl, rfl, rfl, by decide +kernel, rfl, by decide +kernel, by decide +kernel⟩ rfl rfl rfl rfl (fun _ _ _ _ _ _ us ws h1 h2 => match us, ws, h1, h2 with | [_], [_], _, _ => rfl)
theorem ev_BadText {P : Program} {w : World} {K : PySem.W.Frag} {mg : Str → Option Value} {base : Heap} (A : Wl K mg) : Ev P w K mg base 1 "BadText" ["line", "sign"] ["line", "sign"] ∧ Evk P w K mg base 1 "BadText" ["line", "sign"] ["line", "sign"] ["sign", "line"] [1, 0] := A.v_BadText.e2 ⟨rfl, rfl, rfl, by decide +kernel, rfl, by decide +kernel, by decide +kernel⟩ rfl rfl rfl rfl rfl (fun _ _ _ _ _ _ us ws h1 h2 => match us, ws, h1, h2 with | [_], [_, _], _, _ => rfl)
theorem ev_BadThings {P : Program} {w : World} {K : PySem.W.Frag} {mg : Str → Option Value} {base : Heap} (A : Wl K mg) : Ev P w K mg base 1 "BadThings" ["thing"] ["thing"] ∧ Evk P w K mg base 1 "BadThings" ["thing"] ["thing"] ["thing"] [0] := A.v_BadThings.e1 ⟨rfl, rfl, rfl, by decide +kernel, rfl, by decide +kernel, by decide +kernel⟩ rfl rfl rfl rfl (fun _ _ _ _ _ _ us ws h1 h2 => match us, ws, h1, h2 with | [_], [_], _, _ => rfl)
theorem ev_BadTown {P : Program} {w : World} {K : PySem.W.Frag} {mg : Str → Option Value} {base : Heap} (A : Wl K mg) : Ev P w K mg base 1 "BadTown" ["thing"] ["thing"] ∧ Evk P w K mg base 1 "BadTown" ["thing"] ["thing"] ["thing"] [0] := A.v_BadTown.e1 ⟨rfl, rfl, rfl, by decide +kernel, rfl, by decide +kernel, by decide +kernel⟩ rfl rfl rfl rfl (fun _ _ _ _ _ _ us ws h1 h2 => match us, ws, h1, h2 with | [_], [_], _, _ => rfl)
theorem ev_BadWish {P : Program} {w : World} {K : PySem.W.Frag} {mg : Str → Option Value} {base : Heap} (A : Wl K mg) : Ev P w K mg base 1 "BadWish" ["thing"] ["thing"] ∧ Evk P w K mg base 1 "BadWish" ["thing"] ["thing"] ["thing"] [0] := A.v_BadWish.e1 ⟨rfl, rfl, rfl, by decide +kernel, rfl, by decide +kernel, by decide +kernel⟩ rfl rfl rfl rfl (fun _ _ _ _ _ _ us ws h1 h2 => match us, ws, h1, h2 with | [_], [_], _, _ => rfl)
theorem ev_BadWishes {P : Program} {w : World} {K : PySem.W.Frag} {mg : Str → Option Value} {base : Heap} (A : Wl K mg) : Ev P w K mg base 1 "BadWishes" ["thing"] ["thing"] ∧ Evk P w K mg base 1 "BadWishes" ["thing"] ["thing"] ["thing"] [0] := A.v_BadWishes.e1 ⟨rfl, rfl, rfl, by decide +kernel, rfl, by decide +kernel, by decide +kernel⟩ rfl rfl rfl rfl (fun _ _ _ _ _ _ us ws h1 h2 => match us, ws, h1, h2 with | [_], [_], _, _ => rfl)
theorem ev_HasTie {P : Program} {w : World} {K : PySem.W.Frag} {mg : Str → Option Value} {base : Heap} (A : Wl K mg) : Ev P w K mg base 1 "HasTie" ["one", "other"] ["one", "other"] ∧ Evk P w K mg base 1 "HasTie" ["one", "other"] ["one", "other"] ["other", "one"] [1, 0] := A.v_HasTie.e2 ⟨rfl, rfl, rfl, by decide +kernel, rfl, by decide +kernel, by decide +kernel⟩ rfl rfl rfl rfl rfl (fun _ _ _ _ _ _ us ws h1 h2 => match us, ws, h1, h2 with | [_], [_, _], _, _ => rfl)
theorem ev_InUse {P : Program} {w : World} {K : PySem.W.Frag} {mg : Str → Option Value} {base : Heap} (A : Wl K mg) : Ev P w K mg base 1 "InUse" ["question"] ["question"] ∧ Evk P w K mg base 1 "InUse" ["question"] ["question"] ["question"] [0] := A.v_InUse.e1 ⟨rfl, rfl, rfl, by decide +kernel, rfl, by decide +kernel, by decide +kernel⟩ rfl rfl rfl rfl (fun _ _ _ _ _ _ us ws h1 h2 => match us, ws, h1, h2 with | [_], [_], _, _ => rfl)
theorem ev_IsWatched {P : Program} {w : World} {K : PySem.W.Frag} {mg : Str → Option Value} {base : Heap} (A : Wl K mg) : Ev P w K mg base 1 "IsWatched" ["question"] ["question"] ∧ Evk P w K mg base 1 "IsWatched" ["question"] ["question"] ["question"] [0] := A.v_IsWatched.e1 ⟨rfl, rfl, rfl, by decide +kernel, rfl, by decide +kernel, by decide +kernel⟩ rfl rfl rfl rfl (fun _ _ _ _ _ _ us ws h1 h2 => match us, ws, h1, h2 with | [_], [_], _, _ => rfl)
theorem ev_NoBetterRow {P : Program} {w : World} {K : PySem.W.Frag} {mg : Str → Option Value} {base : Heap} (A : Wl K mg) : Ev P w K mg base 1 "NoBetterRow" ["thing"] ["thing"] ∧ Evk P w K mg base 1 "NoBetterRow" ["thing"] ["thing"] ["thing"] [0] := A.v_NoBetterRow.e1 ⟨rfl, rfl, rfl, by decide +kernel, rfl, by decide +kernel, by decide +kernel⟩ rfl rfl rfl rfl (fun _ _ _ _ _ _ us ws h1 h2 => match us, ws, h1, h2 with | [_], [_], _, _ => rfl)
theorem ev_NoCount {P : Program} {w : World} {K : PySem.W.Frag} {mg : Str → Option Value} {base : Heap} (A : Wl K mg) : Ev P w K mg base 1 "NoCount" ["thing"] ["thing"] ∧ Evk P w K mg base 1 "NoCount" ["thing"] ["thing"] ["thing"] [0] := A.v_NoCount.e1 ⟨rfl, rfl, rfl, by decide +kernel, rfl, by decide +kernel, by decide +kernel⟩ rfl rfl rfl rfl (fun _ _ _ _ _ _ us ws h1 h2 => match us, ws, h1, h2 with | [_], [_], _, _ => rfl)
theorem ev_NoFirm {P : Program} {w : World} {K : PySem.W.Frag} {mg : Str → Option Value} {base : Heap} (A : Wl K mg) : Ev P w K mg base 1 "NoFirm" ["ring"] ["ring"] ∧ Evk P w K mg base 1 "NoFirm" ["ring"] ["ring"] ["ring"] [0] := A.v_NoFirm.e1 ⟨rfl, rfl, rfl, by decide +kernel, rfl, by decide +kernel, by decide +kernel⟩ rfl rfl rfl rfl (fun _ _ _ _ _ _ us ws h1 h2 => match us, ws, h1, h2 with | [_], [_], _, _ => rfl)
theorem ev_NoPerson {P : Program} {w : World} {K : PySem.W.Frag} {mg : Str → Option Value} {base : Heap} (A : Wl K mg) : Ev P w K mg base 1 "NoPerson" ["thing"] ["thing"] ∧ Evk P w K mg base 1 "NoPerson" ["thing"] ["thing"] ["thing"] [0] := A.v_NoPerson.e1 ⟨rfl, rfl, rfl, by decide +kernel, rfl, by decide +kernel, by decide +kernel⟩ rfl rfl rfl rfl (fun _ _ _ _ _ _ us ws h1 h2 => match us, ws, h1, h2 with | [_], [_], _, _ => rfl)
theorem ev_NoRule {P : Program} {w : World} {K : PySem.W.Frag} {mg : Str → Option Value} {base : Heap} (A : Wl K mg) : Ev P w K mg base 1 "NoRule" ["thing"] ["thing"] ∧ Evk P w K mg base 1 "NoRule" ["thing"] ["thing"] ["thing"] [0] := A.v_NoRule.e1 ⟨rfl, rfl, rfl, by decide +kernel, rfl, by decide +kernel, by decide +kernel⟩ rfl rfl rfl rfl (fun _ _ _ _ _ _ us ws h1 h2 => match us, ws, h1, h2 with | [_], [_], _, _ => rfl)
theorem ev_NoTie {P : Program} {w : World} {K : PySem.W.Frag} {mg : Str → Option Value} {base : Heap} (A : Wl K mg) : Ev P w K mg base 1 "NoTie" ["one", "other"] ["one", "other"] ∧ Evk P w K mg base 1 "NoTie" ["one", "other"] ["one", "other"] ["other", "one"] [1, 0] := A.v_NoTie.e2 ⟨rfl, rfl, rfl, by decide +kernel, rfl, by decide +kernel, by decide +kernel⟩ rfl rfl rfl rfl rfl (fun _ _ _ _ _ _ us ws h1 h2 => match us, ws, h1, h2 with | [_], [_, _], _, _ => rfl)
theorem ev_NotFirm {P : Program} {w : World} {K : PySem.W.Frag} {mg : Str → Option Value} {base : Heap} (A : Wl K mg) : Ev P w K mg base 1 "NotFirm" ["pairing"] ["pairing"] ∧ Evk P w K mg base 1 "NotFirm" ["pairing"] ["pairing"] ["pairing"] [0] := A.v_NotFirm.e1 ⟨rfl, rfl, rfl, by decide +kernel, rfl, by decide +kernel, by decide +kernel⟩ rfl rfl rfl rfl (fun _ _ _ _ _ _ us ws h1 h2 => match us, ws, h1, h2 with | [_], [_], _, _ => rfl)
theorem ev_NotNow {P : Program} {w : World} {K : PySem.W.Frag} {mg : Str → Option Value} {base : Heap} (A : Wl K mg) : Ev P w K mg base 1 "NotNow" ["why"] ["why"] ∧ Evk P w K mg base 1 "NotNow" ["why"] ["why"] ["why"] [0] := A.v_NotNow.e1 ⟨rfl, rfl, rfl, by decide +kernel, rfl, by decide +kernel, by decide +kernel⟩ rfl rfl rfl rfl (fun _ _ _ _ _ _ us ws h1 h2 => match us, ws, h1, h2 with | [_], [_], _, _ => rfl)
theorem ev_NotWatched {P : Program} {w : World} {K : PySem.W.Frag} {mg : Str → Option Value} {base : Heap} (A : Wl K mg) : Ev P w K mg base 1 "NotWatched" ["question"] ["question"] ∧ Evk P w K mg base 1 "NotWatched" ["question"] ["question"] ["question"] [0] := A.v_NotWatched.e1 ⟨rfl, rfl, rfl, by decide +kernel, rfl, by decide +kernel, by decide +kernel⟩ rfl rfl rfl rfl (fun _ _ _ _ _ _ us ws h1 h2 => match us, ws, h1, h2 with | [_], [_], _, _ => rfl)
theorem ev_Stays {P : Program} {w : World} {K : PySem.W.Frag} {mg : Str → Option Value} {base : Heap} (A : Wl K mg) : Ev P w K mg base 1 "Stays" ["one", "other"] ["one", "other"] ∧ Evk P w K mg base 1 "Stays" ["one", "other"] ["one", "other"] ["other", "one"] [1, 0] := A.v_Stays.e2 ⟨rfl, rfl, rfl, by decide +kernel, rfl, by decide +kernel, by decide +kernel⟩ rfl rfl rfl rfl rfl (fun _ _ _ _ _ _ us ws h1 h2 => match us, ws, h1, h2 with | [_], [_, _], _, _ => rfl)
theorem ev_TurnsRound {P : Program} {w : World} {K : PySem.W.Frag} {mg : Str → Option Value} {base : Heap} (A : Wl K mg) : Ev P w K mg base 1 "TurnsRound" ["person", "ring"] ["person", "ring"] ∧ Evk P w K mg base 1 "TurnsRound" ["person", "ring"] ["person", "ring"] ["ring", "person"] [1, 0] := A.v_TurnsRound.e2 ⟨rfl, rfl, rfl, by decide +kernel, rfl, by decide +kernel, by decide +kernel⟩ rfl rfl rfl rfl rfl (fun _ _ _ _ _ _ us ws h1 h2 => match us, ws, h1, h2 with | [_], [_, _], _, _ => rfl)
theorem ev_WouldChange {P : Program} {w : World} {K : PySem.W.Frag} {mg : Str → Option Value} {base : Heap} (A : Wl K mg) : Ev P w K mg base 1 "WouldChange" ["question", "why"] ["question", "why"] ∧ Evk P w K mg base 1 "WouldChange" ["question", "why"] ["question", "why"] ["why", "question"] [1, 0] := A.v_WouldChange.e2 ⟨rfl, rfl, rfl, by decide +kernel, rfl, by decide +kernel, by decide +kernel⟩ rfl rfl rfl rfl rfl (fun _ _ _ _ _ _ us ws h1 h2 => match us, ws, h1, h2 with | [_], [_, _], _, _ => rfl)
theorem bt_list : bootBuiltins "list" = some (.type "list") := by kernel_rfl
theorem bt_tuple : bootBuiltins "tuple" = some (.type "tuple") := by kernel_rfl
theorem bt_dict : bootBuiltins "dict" = some (.type "dict") := by kernel_rfl
theorem bt_int : bootBuiltins "int" = some (.type "int") := by kernel_rfl
theorem bt_str : bootBuiltins "str" = some (.type "str") := by kernel_rfl
theorem bt_bool : bootBuiltins "bool" = some (.type "bool") := by kernel_rfl
/-! #### _law_draw -/
abbrev N_Ldraw : List Str := ["stream", "many", "mixed", "cell", "digit"]
def b_Ldraw : MS := (mSeq (mPutH (mVar 0) (mC (.int 2)) (m2 (m2 (mVar 0) (mC (.int 2)) kIdx) (mC (.int 1)) kAdd))
  (mSeq (mWhile (mAndT (mB (m2 (m2 (mVar 0) (mC (.int 1)) kIdx) (mC (.int 0)) kEq)) (mB (m2 (m2 (mVar 0) (mC (.int 0)) kIdx) (mL mNil kList) kNe)))
  (mSeq (mSet 3 (mHm "list" (m2 (mVar 0) (mC (.int 0)) kIdx) (mCons (mC (.int 0)) mNil) kPopAt))
  (mSeq (mPutH (mVar 0) (mC (.int 3)) (m2 (mL (mCons (m2 (m2 (m2 (m2 (mVar 0) (mC (.int 3)) kIdx) (mC (.int 8191)) kMul) (mVar 3) kAdd) (mC (.int 3)) kAdd) mNil) kInt) (mC (.int 2147483647)) kMod))
  (mPutH (mVar 0) (mC (.int 1)) (mIte (mB (m2 (mVar 3) (m2 (mC (.int 10)) (mC (.int 18)) kPow) kGe)) (mVar 3) (mC (.int 0)))))))
  (mSeq (mIf (mB (m2 (m2 (mVar 0) (mC (.int 1)) kIdx) (mC (.int 0)) kGt))
  (mSeq (mSet 4 (m2 (mL (mCons (m2 (mVar 0) (mC (.int 1)) kIdx) mNil) kInt) (mVar 1) kMod))
  (mSeq (mPutH (mVar 0) (mC (.int 1)) (m2 (m2 (mVar 0) (mC (.int 1)) kIdx) (mVar 1) kFdiv))
  (mRet (mVar 4))))
  mSkip)
  (mSeq (mSet 2 (m2 (mL (mCons (m2 (m2 (m2 (m2 (mVar 0) (mC (.int 3)) kIdx) (m2 (mC (.int 7919)) (m2 (mVar 0) (mC (.int 2)) kIdx) kMul) kAdd) (mC (.int 104729)) kAdd) (mC (.int 5)) kPow) mNil) kInt) (mC (.int 2147483629)) kMod))
  (mRet (m2 (m2 (mL (mCons (m2 (m2 (m2 (m2 (mVar 2) (mC (.int 48271)) kMul) (m2 (mC (.int 30011)) (m2 (mVar 0) (mC (.int 2)) kIdx) kMul) kAdd) (mC (.int 29)) kAdd) (mC (.int 3)) kPow) mNil) kInt) (mC (.int 1000000007)) kMod) (mVar 1) kMod))))))
def f_Ldraw : MF := mFn 3 b_Ldraw
theorem body_Ldraw {X : Cx} {E : XK} (A : Wl X.K X.mg) (G : Gd X E (defScope s_Ldraw) N_Ldraw 0 true) : BX X E [] [.sh, .sh, .un, .un, .un] (defBody s_Ldraw) [.sh, .sh, .sh, .un, .un] (b_Ldraw) :=
  (bx_cons (W1 := [.sh, .sh, .un, .un, .un]) (sx_putH G (px_add (PX.v (px_idx G (PX.v (px_var G 0)) (PX.v px_int))) (PX.v px_int)) (px_var G 0) (PX.v px_int))
  (bx_cons (W1 := [.sh, .sh, .un, .un, .un]) (sx_while (Gd.own G) (tx_w (ux_and (tx_eq G (PX.v (px_idx G (PX.v (px_var G 0)) (PX.v px_int))) (PX.v px_int)) (ux_and1 (tx_ne G (PX.v (px_idx G (PX.v (px_var G 0)) (PX.v px_int))) (PX.v (FX.px (fx_list ax_nil)))))))
  (bx_cons (W1 := [.sh, .sh, .un, .sh, .un]) (sx_let G 3 (px_hm mt_pa om_popAt (px_idx G (PX.v (px_var G 0)) (PX.v px_int)) (av_pa (av_cons (PX.v px_int) av_nil))))
  (bx_cons (W1 := [.sh, .sh, .un, .sh, .un]) (sx_putH G (px_mod (PX.v (px_intOf G A.b_int (av_cons (PX.v (px_add (PX.v (px_add (PX.v (px_mul (PX.v (px_idx G (PX.v (px_var G 0)) (PX.v px_int))) (PX.v px_int))) (PX.v (px_var G 3)))) (PX.v px_int))) av_nil))) (PX.v px_int)) (px_var G 0) (PX.v px_int))
  (bx_one (sx_putH G (px_ite (tx_ge (PX.v (px_var G 3)) (PX.v (px_pow (PX.v px_int) (PX.v px_int)))) (px_var G 3) px_int) (px_var G 0) (PX.v px_int))))))
  (bx_cons (W1 := [.sh, .sh, .un, .un, .un]) (sx_if (tx_gt (PX.v (px_idx G (PX.v (px_var G 0)) (PX.v px_int))) (PX.v px_int))
  (bx_cons (W1 := [.sh, .sh, .un, .un, .sh]) (sx_let G 4 (px_mod (PX.v (px_intOf G A.b_int (av_cons (PX.v (px_idx G (PX.v (px_var G 0)) (PX.v px_int))) av_nil))) (PX.v (px_var G 1))))
  (bx_cons (W1 := [.sh, .sh, .un, .un, .sh]) (sx_putH G (px_fdiv (PX.v (px_idx G (PX.v (px_var G 0)) (PX.v px_int))) (PX.v (px_var G 1))) (px_var G 0) (PX.v px_int))
  (bx_one (sx_ret (px_var G 4)))))
  bx_nil)
  (bx_cons (W1 := [.sh, .sh, .sh, .un, .un]) (sx_let G 2 (px_mod (PX.v (px_intOf G A.b_int (av_cons (PX.v (px_pow (PX.v (px_add (PX.v (px_add (PX.v (px_idx G (PX.v (px_var G 0)) (PX.v px_int))) (PX.v (px_mul (PX.v px_int) (PX.v (px_idx G (PX.v (px_var G 0)) (PX.v px_int))))))) (PX.v px_int))) (PX.v px_int))) av_nil))) (PX.v px_int)))
  (bx_one (sx_ret (px_mod (PX.v (px_mod (PX.v (px_intOf G A.b_int (av_cons (PX.v (px_pow (PX.v (px_add (PX.v (px_add (PX.v (px_mul (PX.v (px_var G 2)) (PX.v px_int))) (PX.v (px_mul (PX.v px_int) (PX.v (px_idx G (PX.v (px_var G 0)) (PX.v px_int))))))) (PX.v px_int))) (PX.v px_int))) av_nil))) (PX.v px_int))) (PX.v (px_var G 1)))))))))
theorem sc_Ldraw : FnScope N_Ldraw ["stream", "many"] (defScope s_Ldraw) := ⟨rfl, rfl, rfl, by decide +kernel, rfl, by decide +kernel, by decide +kernel⟩
theorem ok_Ldraw {P : Program} {w : World} {K : PySem.W.Frag} {mg : Str → Option Value} {base : Heap} (A : Wl K mg) : Df P w K mg base 1 "_law_draw" 2 f_Ldraw := by
  refine A.d_Ldraw.fn sc_Ldraw rfl rfl rfl (Wn := [.sh, .sh, .sh, .un, .un]) ?_
  intro X E h1 h2 h3 h4 h5 G
  subst h1 h2 h3 h4 h5
  exact body_Ldraw A G
/-! #### _law_mixed -/
abbrev N_Lmixed : List Str := ["stream", "some", "left", "k"]
def b_Lmixed : MS := (mSeq (mSet 2 (mHot (mL (mCons (mVar 1) mNil) kListOf)))
  (mRet (mComp (mRng (mCons (mL (mCons (mVar 2) mNil) kLen) mNil)) (kName 3) mYes (mHm "list" (mVar 2) (mCons (mCall f_Ldraw (mCons (mVar 0) (mCons (mL (mCons (mVar 2) mNil) kLen) mNil))) mNil) kPopAt))))
def f_Lmixed : MF := mDrop (mFn 2 b_Lmixed)
theorem body_Lmixed {X : Cx} {E : XK} (A : Wl X.K X.mg) (G : Gd X E (defScope s_Lmixed) N_Lmixed 1 true) : BX X E [] [.sh, .sh, .un, .un] (defBody s_Lmixed) [.sh, .sh, .sh, .un] (b_Lmixed) :=
  (bx_cons (W1 := [.sh, .sh, .sh, .un]) (sx_let G 2 (FX.hot (fx_listOf G A.b_list (av_cons (PX.v (px_var G 1)) av_nil))))
  (bx_one (sx_ret (FX.px (fx_lc (T := [3]) (Wt := [.sh, .sh, .sh, .sh]) (Gd.calm G) (Gd.nd G) (IX.j (ix_rng1 G A.b_range (av_cons (PX.v (px_len G A.b_len (av_cons (PX.v (px_var G 2)) av_nil))) av_nil))) (Gd.blkOk G (own := [("k", 3)]) rfl) (by decide) (fun _ _ _ _ _ => (gx_nm (gd_blk G) 3)) (fun _ _ _ _ _ => tx_yes) (fun _ _ _ _ _ => (px_hm mt_pa om_popAt (px_var (gd_blk G) 2) (av_pa (av_cons (PX.v (px_call (gd_blk G) (ok_Ldraw A) (ax_cons (px_var (gd_blk G) 0) (ax_cons (px_len (gd_blk G) A.b_len (av_cons (PX.v (px_var (gd_blk G) 2)) av_nil)) ax_nil)) (an_cons (an_cons an_nil)))) av_nil)))))))))
theorem sc_Lmixed : FnScope N_Lmixed ["stream", "some"] (defScope s_Lmixed) := ⟨rfl, rfl, rfl, by decide +kernel, rfl, by decide +kernel, by decide +kernel⟩
theorem ok_Lmixed {P : Program} {w : World} {K : PySem.W.Frag} {mg : Str → Option Value} {base : Heap} (A : Wl K mg) : Df P w K mg base 2 "_law_mixed" 2 f_Lmixed := by
  refine A.d_Lmixed.fnD sc_Lmixed rfl rfl rfl (Wn := [.sh, .sh, .sh, .un]) ?_
  intro X E h1 h2 h3 h4 h5 G
  subst h1 h2 h3 h4 h5
  exact body_Lmixed A G
/-! #### _law_start -/
abbrev N_Lstart : List Str := ["script"]
def b_Lstart : MS := (mRetF (mL (mCons (mHot (mL (mCons (mVar 0) mNil) kListOf)) (mCons (mC (.int 0)) (mCons (mC (.int 0)) (mCons (mC (.int 11)) mNil)))) kList))
def f_Lstart : MF := mFnF 0 b_Lstart
theorem body_Lstart {X : Cx} {E : XK} (A : Wl X.K X.mg) (G : Gd X E (defScope s_Lstart) N_Lstart 0 true) : BX X E [] [.sh] (defBody s_Lstart) [.sh] (b_Lstart) :=
  (bx_one (sx_retF (fx_list (ax_cons (FX.hot (fx_listOf G A.b_list (av_cons (PX.v (px_var G 0)) av_nil))) (ax_cons px_int (ax_cons px_int (ax_cons px_int ax_nil)))))))
theorem sc_Lstart : FnScope N_Lstart ["script"] (defScope s_Lstart) := ⟨rfl, rfl, rfl, by decide +kernel, rfl, by decide +kernel, by decide +kernel⟩
theorem ok_Lstart {P : Program} {w : World} {K : PySem.W.Frag} {mg : Str → Option Value} {base : Heap} (A : Wl K mg) : DfF P w K mg base 1 "_law_start" 1 f_Lstart := by
  refine A.d_Lstart.fnF sc_Lstart rfl rfl rfl (Wn := [.sh]) ?_
  intro X E h1 h2 h3 h4 h5 G
  subst h1 h2 h3 h4 h5
  exact body_Lstart A G
/-! #### _law_made_a -/
abbrev N_Lmade_a : List Str := ["x", "y", "z", "found"]
def b_Lmade_a : MS := (mSeq (mSet 3 (mL mNil kList))
  (mSeq (mMth "list" 3 (mCons (mL (mCons (mL (mCons (mVar 0) mNil) (kExc "AsksOn" ["many"])) (mCons (mL (mCons (mVar 0) mNil) (kExcK "AsksOn" ["many"] 1 [0])) (mCons (mC (.lam (lamQ "_law_made_a") ["many"])) (mCons (mL (mCons (mVar 0) mNil) kList) mNil)))) kTup) mNil) kAppend)
  (mSeq (mMth "list" 3 (mCons (mL (mCons (mL (mCons (mVar 0) mNil) (kExc "BadAllotment" ["thing"])) (mCons (mL (mCons (mVar 0) mNil) (kExcK "BadAllotment" ["thing"] 1 [0])) (mCons (mC (.lam (lamQ "_law_made_a") ["thing"])) (mCons (mL (mCons (mVar 0) mNil) kList) mNil)))) kTup) mNil) kAppend)
  (mSeq (mMth "list" 3 (mCons (mL (mCons (mL (mCons (mVar 0) mNil) (kExc "BadAsk" ["thing"])) (mCons (mL (mCons (mVar 0) mNil) (kExcK "BadAsk" ["thing"] 1 [0])) (mCons (mC (.lam (lamQ "_law_made_a") ["thing"])) (mCons (mL (mCons (mVar 0) mNil) kList) mNil)))) kTup) mNil) kAppend)
  (mSeq (mMth "list" 3 (mCons (mL (mCons (mL (mCons (mVar 0) mNil) (kExc "BadAsker" ["thing"])) (mCons (mL (mCons (mVar 0) mNil) (kExcK "BadAsker" ["thing"] 1 [0])) (mCons (mC (.lam (lamQ "_law_made_a") ["thing"])) (mCons (mL (mCons (mVar 0) mNil) kList) mNil)))) kTup) mNil) kAppend)
  (mSeq (mMth "list" 3 (mCons (mL (mCons (mL (mCons (mVar 0) mNil) (kExc "BadBounds" ["thing"])) (mCons (mL (mCons (mVar 0) mNil) (kExcK "BadBounds" ["thing"] 1 [0])) (mCons (mC (.lam (lamQ "_law_made_a") ["thing"])) (mCons (mL (mCons (mVar 0) mNil) kList) mNil)))) kTup) mNil) kAppend)
  (mSeq (mMth "list" 3 (mCons (mL (mCons (mL (mCons (mVar 0) mNil) (kExc "BadCrossing" ["thing"])) (mCons (mL (mCons (mVar 0) mNil) (kExcK "BadCrossing" ["thing"] 1 [0])) (mCons (mC (.lam (lamQ "_law_made_a") ["thing"])) (mCons (mL (mCons (mVar 0) mNil) kList) mNil)))) kTup) mNil) kAppend)
  (mSeq (mMth "list" 3 (mCons (mL (mCons (mL (mCons (mVar 0) mNil) (kExc "BadDealing" ["thing"])) (mCons (mL (mCons (mVar 0) mNil) (kExcK "BadDealing" ["thing"] 1 [0])) (mCons (mC (.lam (lamQ "_law_made_a") ["thing"])) (mCons (mL (mCons (mVar 0) mNil) kList) mNil)))) kTup) mNil) kAppend)
  (mSeq (mMth "list" 3 (mCons (mL (mCons (mL (mCons (mVar 0) mNil) (kExc "BadDeed" ["thing"])) (mCons (mL (mCons (mVar 0) mNil) (kExcK "BadDeed" ["thing"] 1 [0])) (mCons (mC (.lam (lamQ "_law_made_a") ["thing"])) (mCons (mL (mCons (mVar 0) mNil) kList) mNil)))) kTup) mNil) kAppend)
  (mSeq (mMth "list" 3 (mCons (mL (mCons (mL (mCons (mVar 0) mNil) (kExc "BadDepth" ["thing"])) (mCons (mL (mCons (mVar 0) mNil) (kExcK "BadDepth" ["thing"] 1 [0])) (mCons (mC (.lam (lamQ "_law_made_a") ["thing"])) (mCons (mL (mCons (mVar 0) mNil) kList) mNil)))) kTup) mNil) kAppend)
  (mSeq (mMth "list" 3 (mCons (mL (mCons (mL (mCons (mVar 0) mNil) (kExc "BadDraw" ["thing"])) (mCons (mL (mCons (mVar 0) mNil) (kExcK "BadDraw" ["thing"] 1 [0])) (mCons (mC (.lam (lamQ "_law_made_a") ["thing"])) (mCons (mL (mCons (mVar 0) mNil) kList) mNil)))) kTup) mNil) kAppend)
  (mSeq (mMth "list" 3 (mCons (mL (mCons (mL (mCons (mVar 0) mNil) (kExc "BadForm" ["thing"])) (mCons (mL (mCons (mVar 0) mNil) (kExcK "BadForm" ["thing"] 1 [0])) (mCons (mC (.lam (lamQ "_law_made_a") ["thing"])) (mCons (mL (mCons (mVar 0) mNil) kList) mNil)))) kTup) mNil) kAppend)
  (mSeq (mMth "list" 3 (mCons (mL (mCons (mL (mCons (mVar 0) mNil) (kExc "BadGivers" ["index"])) (mCons (mL (mCons (mVar 0) mNil) (kExcK "BadGivers" ["index"] 1 [0])) (mCons (mC (.lam (lamQ "_law_made_a") ["index"])) (mCons (mL (mCons (mVar 0) mNil) kList) mNil)))) kTup) mNil) kAppend)
  (mSeq (mMth "list" 3 (mCons (mL (mCons (mL (mCons (mVar 0) mNil) (kExc "BadGoods" ["index"])) (mCons (mL (mCons (mVar 0) mNil) (kExcK "BadGoods" ["index"] 1 [0])) (mCons (mC (.lam (lamQ "_law_made_a") ["index"])) (mCons (mL (mCons (mVar 0) mNil) kList) mNil)))) kTup) mNil) kAppend)
  (mSeq (mMth "list" 3 (mCons (mL (mCons (mL (mCons (mVar 0) mNil) (kExc "BadHouses" ["thing"])) (mCons (mL (mCons (mVar 0) mNil) (kExcK "BadHouses" ["thing"] 1 [0])) (mCons (mC (.lam (lamQ "_law_made_a") ["thing"])) (mCons (mL (mCons (mVar 0) mNil) kList) mNil)))) kTup) mNil) kAppend)
  (mSeq (mMth "list" 3 (mCons (mL (mCons (mL (mCons (mVar 0) mNil) (kExc "BadKind" ["thing"])) (mCons (mL (mCons (mVar 0) mNil) (kExcK "BadKind" ["thing"] 1 [0])) (mCons (mC (.lam (lamQ "_law_made_a") ["thing"])) (mCons (mL (mCons (mVar 0) mNil) kList) mNil)))) kTup) mNil) kAppend)
  (mSeq (mMth "list" 3 (mCons (mL (mCons (mL (mCons (mVar 0) mNil) (kExc "BadKnown" ["thing"])) (mCons (mL (mCons (mVar 0) mNil) (kExcK "BadKnown" ["thing"] 1 [0])) (mCons (mC (.lam (lamQ "_law_made_a") ["thing"])) (mCons (mL (mCons (mVar 0) mNil) kList) mNil)))) kTup) mNil) kAppend)
  (mSeq (mMth "list" 3 (mCons (mL (mCons (mL (mCons (mVar 0) mNil) (kExc "BadLetting" ["thing"])) (mCons (mL (mCons (mVar 0) mNil) (kExcK "BadLetting" ["thing"] 1 [0])) (mCons (mC (.lam (lamQ "_law_made_a") ["thing"])) (mCons (mL (mCons (mVar 0) mNil) kList) mNil)))) kTup) mNil) kAppend)
  (mSeq (mMth "list" 3 (mCons (mL (mCons (mL (mCons (mVar 0) mNil) (kExc "BadLies" ["thing"])) (mCons (mL (mCons (mVar 0) mNil) (kExcK "BadLies" ["thing"] 1 [0])) (mCons (mC (.lam (lamQ "_law_made_a") ["thing"])) (mCons (mL (mCons (mVar 0) mNil) kList) mNil)))) kTup) mNil) kAppend)
  (mRet (mVar 3)))))))))))))))))))))
def f_Lmade_a : MF := mFn 1 b_Lmade_a
theorem body_Lmade_a {X : Cx} {E : XK} (A : Wl X.K X.mg) (G : Gd X E (defScope s_Lmade_a) N_Lmade_a 2 true) (l : Lds X.K X.mg X.base) (L : Lm X (lamQ "_law_made_a")) : BX X E [] [.sh, .sh, .sh, .un] (defBody s_Lmade_a) [.sh, .sh, .sh, .sh] (b_Lmade_a) :=
  (bx_cons (W1 := [.sh, .sh, .sh, .ow]) (sx_new G 3 (fx_list ax_nil))
  (bx_cons (W1 := [.sh, .sh, .sh, .ow]) (sx_mth G 3 mt_ap om_append (ax_pa (ax_cons (px_tup (ax_cons (px_exc G (ev_AsksOn A).1 (ax_cons (px_var G 0) ax_nil)) (ax_cons (px_excK G (ev_AsksOn A).2 (kw_cons (px_var G 0) kw_nil)) (ax_cons (px_lamV G (fs := ["many"]) L (R := (fun c => ⟨⟨"e", _, _, rfl, (AtS.cons AtS.nil), NdefX.nscope_by rfl, vis_of rfl, by decide, by decide, fun _ _ us h => match us, h with | [_], _ => rfl⟩⟩))) (ax_cons (FX.px (fx_list (ax_cons (px_var G 0) ax_nil))) ax_nil))))) ax_nil)))
  (bx_cons (W1 := [.sh, .sh, .sh, .ow]) (sx_mth G 3 mt_ap om_append (ax_pa (ax_cons (px_tup (ax_cons (px_exc G (ev_BadAllotment A).1 (ax_cons (px_var G 0) ax_nil)) (ax_cons (px_excK G (ev_BadAllotment A).2 (kw_cons (px_var G 0) kw_nil)) (ax_cons (px_lamV G (fs := ["thing"]) L (R := (fun c => ⟨⟨"e", _, _, rfl, (AtS.cons AtS.nil), NdefX.nscope_by rfl, vis_of rfl, by decide, by decide, fun _ _ us h => match us, h with | [_], _ => rfl⟩⟩))) (ax_cons (FX.px (fx_list (ax_cons (px_var G 0) ax_nil))) ax_nil))))) ax_nil)))
  (bx_cons (W1 := [.sh, .sh, .sh, .ow]) (sx_mth G 3 mt_ap om_append (ax_pa (ax_cons (px_tup (ax_cons (px_exc G (ev_BadAsk A).1 (ax_cons (px_var G 0) ax_nil)) (ax_cons (px_excK G (ev_BadAsk A).2 (kw_cons (px_var G 0) kw_nil)) (ax_cons (px_lamV G (fs := ["thing"]) L (R := (fun c => ⟨⟨"e", _, _, rfl, (AtS.cons AtS.nil), NdefX.nscope_by rfl, vis_of rfl, by decide, by decide, fun _ _ us h => match us, h with | [_], _ => rfl⟩⟩))) (ax_cons (FX.px (fx_list (ax_cons (px_var G 0) ax_nil))) ax_nil))))) ax_nil)))
  (bx_cons (W1 := [.sh, .sh, .sh, .ow]) (sx_mth G 3 mt_ap om_append (ax_pa (ax_cons (px_tup (ax_cons (px_exc G (ev_BadAsker A).1 (ax_cons (px_var G 0) ax_nil)) (ax_cons (px_excK G (ev_BadAsker A).2 (kw_cons (px_var G 0) kw_nil)) (ax_cons (px_lamV G (fs := ["thing"]) L (R := (fun c => ⟨⟨"e", _, _, rfl, (AtS.cons AtS.nil), NdefX.nscope_by rfl, vis_of rfl, by decide, by decide, fun _ _ us h => match us, h with | [_], _ => rfl⟩⟩))) (ax_cons (FX.px (fx_list (ax_cons (px_var G 0) ax_nil))) ax_nil))))) ax_nil)))
  (bx_cons (W1 := [.sh, .sh, .sh, .ow]) (sx_mth G 3 mt_ap om_append (ax_pa (ax_cons (px_tup (ax_cons (px_exc G (ev_BadBounds A).1 (ax_cons (px_var G 0) ax_nil)) (ax_cons (px_excK G (ev_BadBounds A).2 (kw_cons (px_var G 0) kw_nil)) (ax_cons (px_lamV G (fs := ["thing"]) L (R := (fun c => ⟨⟨"e", _, _, rfl, (AtS.cons AtS.nil), NdefX.nscope_by rfl, vis_of rfl, by decide, by decide, fun _ _ us h => match us, h with | [_], _ => rfl⟩⟩))) (ax_cons (FX.px (fx_list (ax_cons (px_var G 0) ax_nil))) ax_nil))))) ax_nil)))
  (bx_cons (W1 := [.sh, .sh, .sh, .ow]) (sx_mth G 3 mt_ap om_append (ax_pa (ax_cons (px_tup (ax_cons (px_exc G (ev_BadCrossing A).1 (ax_cons (px_var G 0) ax_nil)) (ax_cons (px_excK G (ev_BadCrossing A).2 (kw_cons (px_var G 0) kw_nil)) (ax_cons (px_lamV G (fs := ["thing"]) L (R := (fun c => ⟨⟨"e", _, _, rfl, (AtS.cons AtS.nil), NdefX.nscope_by rfl, vis_of rfl, by decide, by decide, fun _ _ us h => match us, h with | [_], _ => rfl⟩⟩))) (ax_cons (FX.px (fx_list (ax_cons (px_var G 0) ax_nil))) ax_nil))))) ax_nil)))
  (bx_cons (W1 := [.sh, .sh, .sh, .ow]) (sx_mth G 3 mt_ap om_append (ax_pa (ax_cons (px_tup (ax_cons (px_exc G (ev_BadDealing A).1 (ax_cons (px_var G 0) ax_nil)) (ax_cons (px_excK G (ev_BadDealing A).2 (kw_cons (px_var G 0) kw_nil)) (ax_cons (px_lamV G (fs := ["thing"]) L (R := (fun c => ⟨⟨"e", _, _, rfl, (AtS.cons AtS.nil), NdefX.nscope_by rfl, vis_of rfl, by decide, by decide, fun _ _ us h => match us, h with | [_], _ => rfl⟩⟩))) (ax_cons (FX.px (fx_list (ax_cons (px_var G 0) ax_nil))) ax_nil))))) ax_nil)))
  (bx_cons (W1 := [.sh, .sh, .sh, .ow]) (sx_mth G 3 mt_ap om_append (ax_pa (ax_cons (px_tup (ax_cons (px_exc G (ev_BadDeed A).1 (ax_cons (px_var G 0) ax_nil)) (ax_cons (px_excK G (ev_BadDeed A).2 (kw_cons (px_var G 0) kw_nil)) (ax_cons (px_lamV G (fs := ["thing"]) L (R := (fun c => ⟨⟨"e", _, _, rfl, (AtS.cons AtS.nil), NdefX.nscope_by rfl, vis_of rfl, by decide, by decide, fun _ _ us h => match us, h with | [_], _ => rfl⟩⟩))) (ax_cons (FX.px (fx_list (ax_cons (px_var G 0) ax_nil))) ax_nil))))) ax_nil)))
  (bx_cons (W1 := [.sh, .sh, .sh, .ow]) (sx_mth G 3 mt_ap om_append (ax_pa (ax_cons (px_tup (ax_cons (px_exc G (ev_BadDepth A).1 (ax_cons (px_var G 0) ax_nil)) (ax_cons (px_excK G (ev_BadDepth A).2 (kw_cons (px_var G 0) kw_nil)) (ax_cons (px_lamV G (fs := ["thing"]) L (R := (fun c => ⟨⟨"e", _, _, rfl, (AtS.cons AtS.nil), NdefX.nscope_by rfl, vis_of rfl, by decide, by decide, fun _ _ us h => match us, h with | [_], _ => rfl⟩⟩))) (ax_cons (FX.px (fx_list (ax_cons (px_var G 0) ax_nil))) ax_nil))))) ax_nil)))
  (bx_cons (W1 := [.sh, .sh, .sh, .ow]) (sx_mth G 3 mt_ap om_append (ax_pa (ax_cons (px_tup (ax_cons (px_exc G (ev_BadDraw A).1 (ax_cons (px_var G 0) ax_nil)) (ax_cons (px_excK G (ev_BadDraw A).2 (kw_cons (px_var G 0) kw_nil)) (ax_cons (px_lamV G (fs := ["thing"]) L (R := (fun c => ⟨⟨"e", _, _, rfl, (AtS.cons AtS.nil), NdefX.nscope_by rfl, vis_of rfl, by decide, by decide, fun _ _ us h => match us, h with | [_], _ => rfl⟩⟩))) (ax_cons (FX.px (fx_list (ax_cons (px_var G 0) ax_nil))) ax_nil))))) ax_nil)))
  (bx_cons (W1 := [.sh, .sh, .sh, .ow]) (sx_mth G 3 mt_ap om_append (ax_pa (ax_cons (px_tup (ax_cons (px_exc G (ev_BadForm A).1 (ax_cons (px_var G 0) ax_nil)) (ax_cons (px_excK G (ev_BadForm A).2 (kw_cons (px_var G 0) kw_nil)) (ax_cons (px_lamV G (fs := ["thing"]) L (R := (fun c => ⟨⟨"e", _, _, rfl, (AtS.cons AtS.nil), NdefX.nscope_by rfl, vis_of rfl, by decide, by decide, fun _ _ us h => match us, h with | [_], _ => rfl⟩⟩))) (ax_cons (FX.px (fx_list (ax_cons (px_var G 0) ax_nil))) ax_nil))))) ax_nil)))
  (bx_cons (W1 := [.sh, .sh, .sh, .ow]) (sx_mth G 3 mt_ap om_append (ax_pa (ax_cons (px_tup (ax_cons (px_exc G (ev_BadGivers A).1 (ax_cons (px_var G 0) ax_nil)) (ax_cons (px_excK G (ev_BadGivers A).2 (kw_cons (px_var G 0) kw_nil)) (ax_cons (px_lamV G (fs := ["index"]) L (R := (fun c => ⟨⟨"e", _, _, rfl, (AtS.cons AtS.nil), NdefX.nscope_by rfl, vis_of rfl, by decide, by decide, fun _ _ us h => match us, h with | [_], _ => rfl⟩⟩))) (ax_cons (FX.px (fx_list (ax_cons (px_var G 0) ax_nil))) ax_nil))))) ax_nil)))
  (bx_cons (W1 := [.sh, .sh, .sh, .ow]) (sx_mth G 3 mt_ap om_append (ax_pa (ax_cons (px_tup (ax_cons (px_exc G (ev_BadGoods A).1 (ax_cons (px_var G 0) ax_nil)) (ax_cons (px_excK G (ev_BadGoods A).2 (kw_cons (px_var G 0) kw_nil)) (ax_cons (px_lamV G (fs := ["index"]) L (R := (fun c => ⟨⟨"e", _, _, rfl, (AtS.cons AtS.nil), NdefX.nscope_by rfl, vis_of rfl, by decide, by decide, fun _ _ us h => match us, h with | [_], _ => rfl⟩⟩))) (ax_cons (FX.px (fx_list (ax_cons (px_var G 0) ax_nil))) ax_nil))))) ax_nil)))
  (bx_cons (W1 := [.sh, .sh, .sh, .ow]) (sx_mth G 3 mt_ap om_append (ax_pa (ax_cons (px_tup (ax_cons (px_exc G (ev_BadHouses A).1 (ax_cons (px_var G 0) ax_nil)) (ax_cons (px_excK G (ev_BadHouses A).2 (kw_cons (px_var G 0) kw_nil)) (ax_cons (px_lamV G (fs := ["thing"]) L (R := (fun c => ⟨⟨"e", _, _, rfl, (AtS.cons AtS.nil), NdefX.nscope_by rfl, vis_of rfl, by decide, by decide, fun _ _ us h => match us, h with | [_], _ => rfl⟩⟩))) (ax_cons (FX.px (fx_list (ax_cons (px_var G 0) ax_nil))) ax_nil))))) ax_nil)))
  (bx_cons (W1 := [.sh, .sh, .sh, .ow]) (sx_mth G 3 mt_ap om_append (ax_pa (ax_cons (px_tup (ax_cons (px_exc G (ev_BadKind A).1 (ax_cons (px_var G 0) ax_nil)) (ax_cons (px_excK G (ev_BadKind A).2 (kw_cons (px_var G 0) kw_nil)) (ax_cons (px_lamV G (fs := ["thing"]) L (R := (fun c => ⟨⟨"e", _, _, rfl, (AtS.cons AtS.nil), NdefX.nscope_by rfl, vis_of rfl, by decide, by decide, fun _ _ us h => match us, h with | [_], _ => rfl⟩⟩))) (ax_cons (FX.px (fx_list (ax_cons (px_var G 0) ax_nil))) ax_nil))))) ax_nil)))
  (bx_cons (W1 := [.sh, .sh, .sh, .ow]) (sx_mth G 3 mt_ap om_append (ax_pa (ax_cons (px_tup (ax_cons (px_exc G (ev_BadKnown A).1 (ax_cons (px_var G 0) ax_nil)) (ax_cons (px_excK G (ev_BadKnown A).2 (kw_cons (px_var G 0) kw_nil)) (ax_cons (px_lamV G (fs := ["thing"]) L (R := (fun c => ⟨⟨"e", _, _, rfl, (AtS.cons AtS.nil), NdefX.nscope_by rfl, vis_of rfl, by decide, by decide, fun _ _ us h => match us, h with | [_], _ => rfl⟩⟩))) (ax_cons (FX.px (fx_list (ax_cons (px_var G 0) ax_nil))) ax_nil))))) ax_nil)))
  (bx_cons (W1 := [.sh, .sh, .sh, .ow]) (sx_mth G 3 mt_ap om_append (ax_pa (ax_cons (px_tup (ax_cons (px_exc G (ev_BadLetting A).1 (ax_cons (px_var G 0) ax_nil)) (ax_cons (px_excK G (ev_BadLetting A).2 (kw_cons (px_var G 0) kw_nil)) (ax_cons (px_lamV G (fs := ["thing"]) L (R := (fun c => ⟨⟨"e", _, _, rfl, (AtS.cons AtS.nil), NdefX.nscope_by rfl, vis_of rfl, by decide, by decide, fun _ _ us h => match us, h with | [_], _ => rfl⟩⟩))) (ax_cons (FX.px (fx_list (ax_cons (px_var G 0) ax_nil))) ax_nil))))) ax_nil)))
  (bx_cons (W1 := [.sh, .sh, .sh, .ow]) (sx_mth G 3 mt_ap om_append (ax_pa (ax_cons (px_tup (ax_cons (px_exc G (ev_BadLies A).1 (ax_cons (px_var G 0) ax_nil)) (ax_cons (px_excK G (ev_BadLies A).2 (kw_cons (px_var G 0) kw_nil)) (ax_cons (px_lamV G (fs := ["thing"]) L (R := (fun c => ⟨⟨"e", _, _, rfl, (AtS.cons AtS.nil), NdefX.nscope_by rfl, vis_of rfl, by decide, by decide, fun _ _ us h => match us, h with | [_], _ => rfl⟩⟩))) (ax_cons (FX.px (fx_list (ax_cons (px_var G 0) ax_nil))) ax_nil))))) ax_nil)))
  (bx_frz 3 (bx_one (sx_ret (px_var G 3)))))))))))))))))))))))
theorem sc_Lmade_a : FnScope N_Lmade_a ["x", "y", "z"] (defScope s_Lmade_a) := ⟨rfl, rfl, rfl, by decide +kernel, rfl, by decide +kernel, by decide +kernel⟩
theorem ok_Lmade_a {P : Program} {w : World} {K : PySem.W.Frag} {mg : Str → Option Value} {base : Heap} (A : Wl K mg) (l : Lds K mg base) : Df P w K mg base 3 "_law_made_a" 3 f_Lmade_a := by
  refine A.d_Lmade_a.fnL l.l_Lmade_a sc_Lmade_a rfl rfl rfl (Wn := [.sh, .sh, .sh, .sh]) ?_
  intro X E h1 h2 h3 h4 h5 G L
  subst h1 h2 h3 h4 h5
  exact body_Lmade_a A G l L
/-! #### _law_made_b -/
abbrev N_Lmade_b : List Str := ["x", "y", "z", "found"]
def b_Lmade_b : MS := (mSeq (mSet 3 (mL mNil kList))
  (mSeq (mMth "list" 3 (mCons (mL (mCons (mL (mCons (mVar 0) mNil) (kExc "BadLot" ["index"])) (mCons (mL (mCons (mVar 0) mNil) (kExcK "BadLot" ["index"] 1 [0])) (mCons (mC (.lam (lamQ "_law_made_b") ["index"])) (mCons (mL (mCons (mVar 0) mNil) kList) mNil)))) kTup) mNil) kAppend)
  (mSeq (mMth "list" 3 (mCons (mL (mCons (mL (mCons (mVar 0) mNil) (kExc "BadLots" ["thing"])) (mCons (mL (mCons (mVar 0) mNil) (kExcK "BadLots" ["thing"] 1 [0])) (mCons (mC (.lam (lamQ "_law_made_b") ["thing"])) (mCons (mL (mCons (mVar 0) mNil) kList) mNil)))) kTup) mNil) kAppend)
  (mSeq (mMth "list" 3 (mCons (mL (mCons (mL (mCons (mVar 0) mNil) (kExc "BadLottery" ["fault"])) (mCons (mL (mCons (mVar 0) mNil) (kExcK "BadLottery" ["fault"] 1 [0])) (mCons (mC (.lam (lamQ "_law_made_b") ["fault"])) (mCons (mL (mCons (mVar 0) mNil) kList) mNil)))) kTup) mNil) kAppend)
  (mSeq (mMth "list" 3 (mCons (mL (mCons (mL (mCons (mVar 0) mNil) (kExc "BadMarket" ["thing"])) (mCons (mL (mCons (mVar 0) mNil) (kExcK "BadMarket" ["thing"] 1 [0])) (mCons (mC (.lam (lamQ "_law_made_b") ["thing"])) (mCons (mL (mCons (mVar 0) mNil) kList) mNil)))) kTup) mNil) kAppend)
  (mSeq (mMth "list" 3 (mCons (mL (mCons (mL (mCons (mVar 0) mNil) (kExc "BadName" ["thing"])) (mCons (mL (mCons (mVar 0) mNil) (kExcK "BadName" ["thing"] 1 [0])) (mCons (mC (.lam (lamQ "_law_made_b") ["thing"])) (mCons (mL (mCons (mVar 0) mNil) kList) mNil)))) kTup) mNil) kAppend)
  (mSeq (mMth "list" 3 (mCons (mL (mCons (mL (mCons (mVar 0) mNil) (kExc "BadNeeds" ["index"])) (mCons (mL (mCons (mVar 0) mNil) (kExcK "BadNeeds" ["index"] 1 [0])) (mCons (mC (.lam (lamQ "_law_made_b") ["index"])) (mCons (mL (mCons (mVar 0) mNil) kList) mNil)))) kTup) mNil) kAppend)
  (mSeq (mMth "list" 3 (mCons (mL (mCons (mL (mCons (mVar 0) mNil) (kExc "BadNotice" ["thing"])) (mCons (mL (mCons (mVar 0) mNil) (kExcK "BadNotice" ["thing"] 1 [0])) (mCons (mC (.lam (lamQ "_law_made_b") ["thing"])) (mCons (mL (mCons (mVar 0) mNil) kList) mNil)))) kTup) mNil) kAppend)
  (mSeq (mMth "list" 3 (mCons (mL (mCons (mL (mCons (mVar 0) mNil) (kExc "BadNumber" ["thing"])) (mCons (mL (mCons (mVar 0) mNil) (kExcK "BadNumber" ["thing"] 1 [0])) (mCons (mC (.lam (lamQ "_law_made_b") ["thing"])) (mCons (mL (mCons (mVar 0) mNil) kList) mNil)))) kTup) mNil) kAppend)
  (mSeq (mMth "list" 3 (mCons (mL (mCons (mL (mCons (mVar 0) mNil) (kExc "BadOrder" ["index"])) (mCons (mL (mCons (mVar 0) mNil) (kExcK "BadOrder" ["index"] 1 [0])) (mCons (mC (.lam (lamQ "_law_made_b") ["index"])) (mCons (mL (mCons (mVar 0) mNil) kList) mNil)))) kTup) mNil) kAppend)
  (mSeq (mMth "list" 3 (mCons (mL (mCons (mL (mCons (mVar 0) mNil) (kExc "BadPairing" ["thing"])) (mCons (mL (mCons (mVar 0) mNil) (kExcK "BadPairing" ["thing"] 1 [0])) (mCons (mC (.lam (lamQ "_law_made_b") ["thing"])) (mCons (mL (mCons (mVar 0) mNil) kList) mNil)))) kTup) mNil) kAppend)
  (mSeq (mMth "list" 3 (mCons (mL (mCons (mL (mCons (mVar 0) mNil) (kExc "BadPairings" ["index"])) (mCons (mL (mCons (mVar 0) mNil) (kExcK "BadPairings" ["index"] 1 [0])) (mCons (mC (.lam (lamQ "_law_made_b") ["index"])) (mCons (mL (mCons (mVar 0) mNil) kList) mNil)))) kTup) mNil) kAppend)
  (mSeq (mMth "list" 3 (mCons (mL (mCons (mL (mCons (mVar 0) mNil) (kExc "BadPaper" ["thing"])) (mCons (mL (mCons (mVar 0) mNil) (kExcK "BadPaper" ["thing"] 1 [0])) (mCons (mC (.lam (lamQ "_law_made_b") ["thing"])) (mCons (mL (mCons (mVar 0) mNil) kList) mNil)))) kTup) mNil) kAppend)
  (mSeq (mMth "list" 3 (mCons (mL (mCons (mL (mCons (mVar 0) mNil) (kExc "BadPapers" ["index"])) (mCons (mL (mCons (mVar 0) mNil) (kExcK "BadPapers" ["index"] 1 [0])) (mCons (mC (.lam (lamQ "_law_made_b") ["index"])) (mCons (mL (mCons (mVar 0) mNil) kList) mNil)))) kTup) mNil) kAppend)
  (mSeq (mMth "list" 3 (mCons (mL (mCons (mL (mCons (mVar 0) mNil) (kExc "BadPeople" ["index"])) (mCons (mL (mCons (mVar 0) mNil) (kExcK "BadPeople" ["index"] 1 [0])) (mCons (mC (.lam (lamQ "_law_made_b") ["index"])) (mCons (mL (mCons (mVar 0) mNil) kList) mNil)))) kTup) mNil) kAppend)
  (mSeq (mMth "list" 3 (mCons (mL (mCons (mL (mCons (mVar 0) mNil) (kExc "BadPlace" ["thing"])) (mCons (mL (mCons (mVar 0) mNil) (kExcK "BadPlace" ["thing"] 1 [0])) (mCons (mC (.lam (lamQ "_law_made_b") ["thing"])) (mCons (mL (mCons (mVar 0) mNil) kList) mNil)))) kTup) mNil) kAppend)
  (mSeq (mMth "list" 3 (mCons (mL (mCons (mL (mCons (mVar 0) mNil) (kExc "BadQuestion" ["thing"])) (mCons (mL (mCons (mVar 0) mNil) (kExcK "BadQuestion" ["thing"] 1 [0])) (mCons (mC (.lam (lamQ "_law_made_b") ["thing"])) (mCons (mL (mCons (mVar 0) mNil) kList) mNil)))) kTup) mNil) kAppend)
  (mSeq (mMth "list" 3 (mCons (mL (mCons (mL (mCons (mVar 0) mNil) (kExc "BadRanks" ["thing"])) (mCons (mL (mCons (mVar 0) mNil) (kExcK "BadRanks" ["thing"] 1 [0])) (mCons (mC (.lam (lamQ "_law_made_b") ["thing"])) (mCons (mL (mCons (mVar 0) mNil) kList) mNil)))) kTup) mNil) kAppend)
  (mSeq (mMth "list" 3 (mCons (mL (mCons (mL (mCons (mVar 0) mNil) (kExc "BadResult" ["thing"])) (mCons (mL (mCons (mVar 0) mNil) (kExcK "BadResult" ["thing"] 1 [0])) (mCons (mC (.lam (lamQ "_law_made_b") ["thing"])) (mCons (mL (mCons (mVar 0) mNil) kList) mNil)))) kTup) mNil) kAppend)
  (mRet (mVar 3)))))))))))))))))))))
def f_Lmade_b : MF := mFn 1 b_Lmade_b
theorem body_Lmade_b {X : Cx} {E : XK} (A : Wl X.K X.mg) (G : Gd X E (defScope s_Lmade_b) N_Lmade_b 2 true) (l : Lds X.K X.mg X.base) (L : Lm X (lamQ "_law_made_b")) : BX X E [] [.sh, .sh, .sh, .un] (defBody s_Lmade_b) [.sh, .sh, .sh, .sh] (b_Lmade_b) :=
  (bx_cons (W1 := [.sh, .sh, .sh, .ow]) (sx_new G 3 (fx_list ax_nil))
  (bx_cons (W1 := [.sh, .sh, .sh, .ow]) (sx_mth G 3 mt_ap om_append (ax_pa (ax_cons (px_tup (ax_cons (px_exc G (ev_BadLot A).1 (ax_cons (px_var G 0) ax_nil)) (ax_cons (px_excK G (ev_BadLot A).2 (kw_cons (px_var G 0) kw_nil)) (ax_cons (px_lamV G (fs := ["index"]) L (R := (fun c => ⟨⟨"e", _, _, rfl, (AtS.cons AtS.nil), NdefX.nscope_by rfl, vis_of rfl, by decide, by decide, fun _ _ us h => match us, h with | [_], _ => rfl⟩⟩))) (ax_cons (FX.px (fx_list (ax_cons (px_var G 0) ax_nil))) ax_nil))))) ax_nil)))
  (bx_cons (W1 := [.sh, .sh, .sh, .ow]) (sx_mth G 3 mt_ap om_append (ax_pa (ax_cons (px_tup (ax_cons (px_exc G (ev_BadLots A).1 (ax_cons (px_var G 0) ax_nil)) (ax_cons (px_excK G (ev_BadLots A).2 (kw_cons (px_var G 0) kw_nil)) (ax_cons (px_lamV G (fs := ["thing"]) L (R := (fun c => ⟨⟨"e", _, _, rfl, (AtS.cons AtS.nil), NdefX.nscope_by rfl, vis_of rfl, by decide, by decide, fun _ _ us h => match us, h with | [_], _ => rfl⟩⟩))) (ax_cons (FX.px (fx_list (ax_cons (px_var G 0) ax_nil))) ax_nil))))) ax_nil)))
  (bx_cons (W1 := [.sh, .sh, .sh, .ow]) (sx_mth G 3 mt_ap om_append (ax_pa (ax_cons (px_tup (ax_cons (px_exc G (ev_BadLottery A).1 (ax_cons (px_var G 0) ax_nil)) (ax_cons (px_excK G (ev_BadLottery A).2 (kw_cons (px_var G 0) kw_nil)) (ax_cons (px_lamV G (fs := ["fault"]) L (R := (fun c => ⟨⟨"e", _, _, rfl, (AtS.cons AtS.nil), NdefX.nscope_by rfl, vis_of rfl, by decide, by decide, fun _ _ us h => match us, h with | [_], _ => rfl⟩⟩))) (ax_cons (FX.px (fx_list (ax_cons (px_var G 0) ax_nil))) ax_nil))))) ax_nil)))
  (bx_cons (W1 := [.sh, .sh, .sh, .ow]) (sx_mth G 3 mt_ap om_append (ax_pa (ax_cons (px_tup (ax_cons (px_exc G (ev_BadMarket A).1 (ax_cons (px_var G 0) ax_nil)) (ax_cons (px_excK G (ev_BadMarket A).2 (kw_cons (px_var G 0) kw_nil)) (ax_cons (px_lamV G (fs := ["thing"]) L (R := (fun c => ⟨⟨"e", _, _, rfl, (AtS.cons AtS.nil), NdefX.nscope_by rfl, vis_of rfl, by decide, by decide, fun _ _ us h => match us, h with | [_], _ => rfl⟩⟩))) (ax_cons (FX.px (fx_list (ax_cons (px_var G 0) ax_nil))) ax_nil))))) ax_nil)))
  (bx_cons (W1 := [.sh, .sh, .sh, .ow]) (sx_mth G 3 mt_ap om_append (ax_pa (ax_cons (px_tup (ax_cons (px_exc G (ev_BadName A).1 (ax_cons (px_var G 0) ax_nil)) (ax_cons (px_excK G (ev_BadName A).2 (kw_cons (px_var G 0) kw_nil)) (ax_cons (px_lamV G (fs := ["thing"]) L (R := (fun c => ⟨⟨"e", _, _, rfl, (AtS.cons AtS.nil), NdefX.nscope_by rfl, vis_of rfl, by decide, by decide, fun _ _ us h => match us, h with | [_], _ => rfl⟩⟩))) (ax_cons (FX.px (fx_list (ax_cons (px_var G 0) ax_nil))) ax_nil))))) ax_nil)))
  (bx_cons (W1 := [.sh, .sh, .sh, .ow]) (sx_mth G 3 mt_ap om_append (ax_pa (ax_cons (px_tup (ax_cons (px_exc G (ev_BadNeeds A).1 (ax_cons (px_var G 0) ax_nil)) (ax_cons (px_excK G (ev_BadNeeds A).2 (kw_cons (px_var G 0) kw_nil)) (ax_cons (px_lamV G (fs := ["index"]) L (R := (fun c => ⟨⟨"e", _, _, rfl, (AtS.cons AtS.nil), NdefX.nscope_by rfl, vis_of rfl, by decide, by decide, fun _ _ us h => match us, h with | [_], _ => rfl⟩⟩))) (ax_cons (FX.px (fx_list (ax_cons (px_var G 0) ax_nil))) ax_nil))))) ax_nil)))
  (bx_cons (W1 := [.sh, .sh, .sh, .ow]) (sx_mth G 3 mt_ap om_append (ax_pa (ax_cons (px_tup (ax_cons (px_exc G (ev_BadNotice A).1 (ax_cons (px_var G 0) ax_nil)) (ax_cons (px_excK G (ev_BadNotice A).2 (kw_cons (px_var G 0) kw_nil)) (ax_cons (px_lamV G (fs := ["thing"]) L (R := (fun c => ⟨⟨"e", _, _, rfl, (AtS.cons AtS.nil), NdefX.nscope_by rfl, vis_of rfl, by decide, by decide, fun _ _ us h => match us, h with | [_], _ => rfl⟩⟩))) (ax_cons (FX.px (fx_list (ax_cons (px_var G 0) ax_nil))) ax_nil))))) ax_nil)))
  (bx_cons (W1 := [.sh, .sh, .sh, .ow]) (sx_mth G 3 mt_ap om_append (ax_pa (ax_cons (px_tup (ax_cons (px_exc G (ev_BadNumber A).1 (ax_cons (px_var G 0) ax_nil)) (ax_cons (px_excK G (ev_BadNumber A).2 (kw_cons (px_var G 0) kw_nil)) (ax_cons (px_lamV G (fs := ["thing"]) L (R := (fun c => ⟨⟨"e", _, _, rfl, (AtS.cons AtS.nil), NdefX.nscope_by rfl, vis_of rfl, by decide, by decide, fun _ _ us h => match us, h with | [_], _ => rfl⟩⟩))) (ax_cons (FX.px (fx_list (ax_cons (px_var G 0) ax_nil))) ax_nil))))) ax_nil)))
  (bx_cons (W1 := [.sh, .sh, .sh, .ow]) (sx_mth G 3 mt_ap om_append (ax_pa (ax_cons (px_tup (ax_cons (px_exc G (ev_BadOrder A).1 (ax_cons (px_var G 0) ax_nil)) (ax_cons (px_excK G (ev_BadOrder A).2 (kw_cons (px_var G 0) kw_nil)) (ax_cons (px_lamV G (fs := ["index"]) L (R := (fun c => ⟨⟨"e", _, _, rfl, (AtS.cons AtS.nil), NdefX.nscope_by rfl, vis_of rfl, by decide, by decide, fun _ _ us h => match us, h with | [_], _ => rfl⟩⟩))) (ax_cons (FX.px (fx_list (ax_cons (px_var G 0) ax_nil))) ax_nil))))) ax_nil)))
  (bx_cons (W1 := [.sh, .sh, .sh, .ow]) (sx_mth G 3 mt_ap om_append (ax_pa (ax_cons (px_tup (ax_cons (px_exc G (ev_BadPairing A).1 (ax_cons (px_var G 0) ax_nil)) (ax_cons (px_excK G (ev_BadPairing A).2 (kw_cons (px_var G 0) kw_nil)) (ax_cons (px_lamV G (fs := ["thing"]) L (R := (fun c => ⟨⟨"e", _, _, rfl, (AtS.cons AtS.nil), NdefX.nscope_by rfl, vis_of rfl, by decide, by decide, fun _ _ us h => match us, h with | [_], _ => rfl⟩⟩))) (ax_cons (FX.px (fx_list (ax_cons (px_var G 0) ax_nil))) ax_nil))))) ax_nil)))
  (bx_cons (W1 := [.sh, .sh, .sh, .ow]) (sx_mth G 3 mt_ap om_append (ax_pa (ax_cons (px_tup (ax_cons (px_exc G (ev_BadPairings A).1 (ax_cons (px_var G 0) ax_nil)) (ax_cons (px_excK G (ev_BadPairings A).2 (kw_cons (px_var G 0) kw_nil)) (ax_cons (px_lamV G (fs := ["index"]) L (R := (fun c => ⟨⟨"e", _, _, rfl, (AtS.cons AtS.nil), NdefX.nscope_by rfl, vis_of rfl, by decide, by decide, fun _ _ us h => match us, h with | [_], _ => rfl⟩⟩))) (ax_cons (FX.px (fx_list (ax_cons (px_var G 0) ax_nil))) ax_nil))))) ax_nil)))
  (bx_cons (W1 := [.sh, .sh, .sh, .ow]) (sx_mth G 3 mt_ap om_append (ax_pa (ax_cons (px_tup (ax_cons (px_exc G (ev_BadPaper A).1 (ax_cons (px_var G 0) ax_nil)) (ax_cons (px_excK G (ev_BadPaper A).2 (kw_cons (px_var G 0) kw_nil)) (ax_cons (px_lamV G (fs := ["thing"]) L (R := (fun c => ⟨⟨"e", _, _, rfl, (AtS.cons AtS.nil), NdefX.nscope_by rfl, vis_of rfl, by decide, by decide, fun _ _ us h => match us, h with | [_], _ => rfl⟩⟩))) (ax_cons (FX.px (fx_list (ax_cons (px_var G 0) ax_nil))) ax_nil))))) ax_nil)))
  (bx_cons (W1 := [.sh, .sh, .sh, .ow]) (sx_mth G 3 mt_ap om_append (ax_pa (ax_cons (px_tup (ax_cons (px_exc G (ev_BadPapers A).1 (ax_cons (px_var G 0) ax_nil)) (ax_cons (px_excK G (ev_BadPapers A).2 (kw_cons (px_var G 0) kw_nil)) (ax_cons (px_lamV G (fs := ["index"]) L (R := (fun c => ⟨⟨"e", _, _, rfl, (AtS.cons AtS.nil), NdefX.nscope_by rfl, vis_of rfl, by decide, by decide, fun _ _ us h => match us, h with | [_], _ => rfl⟩⟩))) (ax_cons (FX.px (fx_list (ax_cons (px_var G 0) ax_nil))) ax_nil))))) ax_nil)))
  (bx_cons (W1 := [.sh, .sh, .sh, .ow]) (sx_mth G 3 mt_ap om_append (ax_pa (ax_cons (px_tup (ax_cons (px_exc G (ev_BadPeople A).1 (ax_cons (px_var G 0) ax_nil)) (ax_cons (px_excK G (ev_BadPeople A).2 (kw_cons (px_var G 0) kw_nil)) (ax_cons (px_lamV G (fs := ["index"]) L (R := (fun c => ⟨⟨"e", _, _, rfl, (AtS.cons AtS.nil), NdefX.nscope_by rfl, vis_of rfl, by decide, by decide, fun _ _ us h => match us, h with | [_], _ => rfl⟩⟩))) (ax_cons (FX.px (fx_list (ax_cons (px_var G 0) ax_nil))) ax_nil))))) ax_nil)))
  (bx_cons (W1 := [.sh, .sh, .sh, .ow]) (sx_mth G 3 mt_ap om_append (ax_pa (ax_cons (px_tup (ax_cons (px_exc G (ev_BadPlace A).1 (ax_cons (px_var G 0) ax_nil)) (ax_cons (px_excK G (ev_BadPlace A).2 (kw_cons (px_var G 0) kw_nil)) (ax_cons (px_lamV G (fs := ["thing"]) L (R := (fun c => ⟨⟨"e", _, _, rfl, (AtS.cons AtS.nil), NdefX.nscope_by rfl, vis_of rfl, by decide, by decide, fun _ _ us h => match us, h with | [_], _ => rfl⟩⟩))) (ax_cons (FX.px (fx_list (ax_cons (px_var G 0) ax_nil))) ax_nil))))) ax_nil)))
  (bx_cons (W1 := [.sh, .sh, .sh, .ow]) (sx_mth G 3 mt_ap om_append (ax_pa (ax_cons (px_tup (ax_cons (px_exc G (ev_BadQuestion A).1 (ax_cons (px_var G 0) ax_nil)) (ax_cons (px_excK G (ev_BadQuestion A).2 (kw_cons (px_var G 0) kw_nil)) (ax_cons (px_lamV G (fs := ["thing"]) L (R := (fun c => ⟨⟨"e", _, _, rfl, (AtS.cons AtS.nil), NdefX.nscope_by rfl, vis_of rfl, by decide, by decide, fun _ _ us h => match us, h with | [_], _ => rfl⟩⟩))) (ax_cons (FX.px (fx_list (ax_cons (px_var G 0) ax_nil))) ax_nil))))) ax_nil)))
  (bx_cons (W1 := [.sh, .sh, .sh, .ow]) (sx_mth G 3 mt_ap om_append (ax_pa (ax_cons (px_tup (ax_cons (px_exc G (ev_BadRanks A).1 (ax_cons (px_var G 0) ax_nil)) (ax_cons (px_excK G (ev_BadRanks A).2 (kw_cons (px_var G 0) kw_nil)) (ax_cons (px_lamV G (fs := ["thing"]) L (R := (fun c => ⟨⟨"e", _, _, rfl, (AtS.cons AtS.nil), NdefX.nscope_by rfl, vis_of rfl, by decide, by decide, fun _ _ us h => match us, h with | [_], _ => rfl⟩⟩))) (ax_cons (FX.px (fx_list (ax_cons (px_var G 0) ax_nil))) ax_nil))))) ax_nil)))
  (bx_cons (W1 := [.sh, .sh, .sh, .ow]) (sx_mth G 3 mt_ap om_append (ax_pa (ax_cons (px_tup (ax_cons (px_exc G (ev_BadResult A).1 (ax_cons (px_var G 0) ax_nil)) (ax_cons (px_excK G (ev_BadResult A).2 (kw_cons (px_var G 0) kw_nil)) (ax_cons (px_lamV G (fs := ["thing"]) L (R := (fun c => ⟨⟨"e", _, _, rfl, (AtS.cons AtS.nil), NdefX.nscope_by rfl, vis_of rfl, by decide, by decide, fun _ _ us h => match us, h with | [_], _ => rfl⟩⟩))) (ax_cons (FX.px (fx_list (ax_cons (px_var G 0) ax_nil))) ax_nil))))) ax_nil)))
  (bx_frz 3 (bx_one (sx_ret (px_var G 3)))))))))))))))))))))))
theorem sc_Lmade_b : FnScope N_Lmade_b ["x", "y", "z"] (defScope s_Lmade_b) := ⟨rfl, rfl, rfl, by decide +kernel, rfl, by decide +kernel, by decide +kernel⟩
theorem ok_Lmade_b {P : Program} {w : World} {K : PySem.W.Frag} {mg : Str → Option Value} {base : Heap} (A : Wl K mg) (l : Lds K mg base) : Df P w K mg base 3 "_law_made_b" 3 f_Lmade_b := by
  refine A.d_Lmade_b.fnL l.l_Lmade_b sc_Lmade_b rfl rfl rfl (Wn := [.sh, .sh, .sh, .sh]) ?_
  intro X E h1 h2 h3 h4 h5 G L
  subst h1 h2 h3 h4 h5
  exact body_Lmade_b A G l L
/-! #### _law_made_c -/
abbrev N_Lmade_c : List Str := ["x", "y", "z", "found"]
def b_Lmade_c : MS := (mSeq (mSet 3 (mL mNil kList))
  (mSeq (mMth "list" 3 (mCons (mL (mCons (mL (mCons (mVar 0) mNil) (kExc "BadRing" ["thing"])) (mCons (mL (mCons (mVar 0) mNil) (kExcK "BadRing" ["thing"] 1 [0])) (mCons (mC (.lam (lamQ "_law_made_c") ["thing"])) (mCons (mL (mCons (mVar 0) mNil) kList) mNil)))) kTup) mNil) kAppend)
  (mSeq (mMth "list" 3 (mCons (mL (mCons (mL (mCons (mVar 0) mNil) (kExc "BadRow" ["index"])) (mCons (mL (mCons (mVar 0) mNil) (kExcK "BadRow" ["index"] 1 [0])) (mCons (mC (.lam (lamQ "_law_made_c") ["index"])) (mCons (mL (mCons (mVar 0) mNil) kList) mNil)))) kTup) mNil) kAppend)
  (mSeq (mMth "list" 3 (mCons (mL (mCons (mL (mCons (mVar 0) mNil) (kExc "BadRule" ["thing"])) (mCons (mL (mCons (mVar 0) mNil) (kExcK "BadRule" ["thing"] 1 [0])) (mCons (mC (.lam (lamQ "_law_made_c") ["thing"])) (mCons (mL (mCons (mVar 0) mNil) kList) mNil)))) kTup) mNil) kAppend)
  (mSeq (mMth "list" 3 (mCons (mL (mCons (mL (mCons (mVar 0) mNil) (kExc "BadSession" ["thing"])) (mCons (mL (mCons (mVar 0) mNil) (kExcK "BadSession" ["thing"] 1 [0])) (mCons (mC (.lam (lamQ "_law_made_c") ["thing"])) (mCons (mL (mCons (mVar 0) mNil) kList) mNil)))) kTup) mNil) kAppend)
  (mSeq (mMth "list" 3 (mCons (mL (mCons (mL (mCons (mVar 0) mNil) (kExc "BadSides" ["thing"])) (mCons (mL (mCons (mVar 0) mNil) (kExcK "BadSides" ["thing"] 1 [0])) (mCons (mC (.lam (lamQ "_law_made_c") ["thing"])) (mCons (mL (mCons (mVar 0) mNil) kList) mNil)))) kTup) mNil) kAppend)
  (mSeq (mMth "list" 3 (mCons (mL (mCons (mL (mCons (mVar 0) mNil) (kExc "BadSteps" ["thing"])) (mCons (mL (mCons (mVar 0) mNil) (kExcK "BadSteps" ["thing"] 1 [0])) (mCons (mC (.lam (lamQ "_law_made_c") ["thing"])) (mCons (mL (mCons (mVar 0) mNil) kList) mNil)))) kTup) mNil) kAppend)
  (mSeq (mMth "list" 3 (mCons (mL (mCons (mL (mCons (mVar 0) mNil) (kExc "BadStock" ["thing"])) (mCons (mL (mCons (mVar 0) mNil) (kExcK "BadStock" ["thing"] 1 [0])) (mCons (mC (.lam (lamQ "_law_made_c") ["thing"])) (mCons (mL (mCons (mVar 0) mNil) kList) mNil)))) kTup) mNil) kAppend)
  (mSeq (mMth "list" 3 (mCons (mL (mCons (mL (mCons (mVar 0) mNil) (kExc "BadTable" ["fault"])) (mCons (mL (mCons (mVar 0) mNil) (kExcK "BadTable" ["fault"] 1 [0])) (mCons (mC (.lam (lamQ "_law_made_c") ["fault"])) (mCons (mL (mCons (mVar 0) mNil) kList) mNil)))) kTup) mNil) kAppend)
  (mSeq (mMth "list" 3 (mCons (mL (mCons (mL (mCons (mVar 0) (mCons (mVar 1) mNil)) (kExc "BadText" ["line", "sign"])) (mCons (mL (mCons (mVar 1) (mCons (mVar 0) mNil)) (kExcK "BadText" ["line", "sign"] 2 [1, 0])) (mCons (mC (.lam (lamQ "_law_made_c") ["line", "sign"])) (mCons (mL (mCons (mVar 0) (mCons (mVar 1) mNil)) kList) mNil)))) kTup) mNil) kAppend)
  (mSeq (mMth "list" 3 (mCons (mL (mCons (mL (mCons (mVar 0) mNil) (kExc "BadThings" ["thing"])) (mCons (mL (mCons (mVar 0) mNil) (kExcK "BadThings" ["thing"] 1 [0])) (mCons (mC (.lam (lamQ "_law_made_c") ["thing"])) (mCons (mL (mCons (mVar 0) mNil) kList) mNil)))) kTup) mNil) kAppend)
  (mSeq (mMth "list" 3 (mCons (mL (mCons (mL (mCons (mVar 0) mNil) (kExc "BadTown" ["thing"])) (mCons (mL (mCons (mVar 0) mNil) (kExcK "BadTown" ["thing"] 1 [0])) (mCons (mC (.lam (lamQ "_law_made_c") ["thing"])) (mCons (mL (mCons (mVar 0) mNil) kList) mNil)))) kTup) mNil) kAppend)
  (mSeq (mMth "list" 3 (mCons (mL (mCons (mL (mCons (mVar 0) mNil) (kExc "BadWish" ["thing"])) (mCons (mL (mCons (mVar 0) mNil) (kExcK "BadWish" ["thing"] 1 [0])) (mCons (mC (.lam (lamQ "_law_made_c") ["thing"])) (mCons (mL (mCons (mVar 0) mNil) kList) mNil)))) kTup) mNil) kAppend)
  (mSeq (mMth "list" 3 (mCons (mL (mCons (mL (mCons (mVar 0) mNil) (kExc "BadWishes" ["thing"])) (mCons (mL (mCons (mVar 0) mNil) (kExcK "BadWishes" ["thing"] 1 [0])) (mCons (mC (.lam (lamQ "_law_made_c") ["thing"])) (mCons (mL (mCons (mVar 0) mNil) kList) mNil)))) kTup) mNil) kAppend)
  (mSeq (mMth "list" 3 (mCons (mL (mCons (mL (mCons (mVar 0) (mCons (mVar 1) mNil)) (kExc "HasTie" ["one", "other"])) (mCons (mL (mCons (mVar 1) (mCons (mVar 0) mNil)) (kExcK "HasTie" ["one", "other"] 2 [1, 0])) (mCons (mC (.lam (lamQ "_law_made_c") ["one", "other"])) (mCons (mL (mCons (mVar 0) (mCons (mVar 1) mNil)) kList) mNil)))) kTup) mNil) kAppend)
  (mSeq (mMth "list" 3 (mCons (mL (mCons (mL (mCons (mVar 0) mNil) (kExc "InUse" ["question"])) (mCons (mL (mCons (mVar 0) mNil) (kExcK "InUse" ["question"] 1 [0])) (mCons (mC (.lam (lamQ "_law_made_c") ["question"])) (mCons (mL (mCons (mVar 0) mNil) kList) mNil)))) kTup) mNil) kAppend)
  (mSeq (mMth "list" 3 (mCons (mL (mCons (mL (mCons (mVar 0) mNil) (kExc "IsWatched" ["question"])) (mCons (mL (mCons (mVar 0) mNil) (kExcK "IsWatched" ["question"] 1 [0])) (mCons (mC (.lam (lamQ "_law_made_c") ["question"])) (mCons (mL (mCons (mVar 0) mNil) kList) mNil)))) kTup) mNil) kAppend)
  (mSeq (mMth "list" 3 (mCons (mL (mCons (mL (mCons (mVar 0) mNil) (kExc "NoBetterRow" ["thing"])) (mCons (mL (mCons (mVar 0) mNil) (kExcK "NoBetterRow" ["thing"] 1 [0])) (mCons (mC (.lam (lamQ "_law_made_c") ["thing"])) (mCons (mL (mCons (mVar 0) mNil) kList) mNil)))) kTup) mNil) kAppend)
  (mSeq (mMth "list" 3 (mCons (mL (mCons (mL (mCons (mVar 0) mNil) (kExc "NoCount" ["thing"])) (mCons (mL (mCons (mVar 0) mNil) (kExcK "NoCount" ["thing"] 1 [0])) (mCons (mC (.lam (lamQ "_law_made_c") ["thing"])) (mCons (mL (mCons (mVar 0) mNil) kList) mNil)))) kTup) mNil) kAppend)
  (mRet (mVar 3)))))))))))))))))))))
def f_Lmade_c : MF := mFn 1 b_Lmade_c
theorem body_Lmade_c {X : Cx} {E : XK} (A : Wl X.K X.mg) (G : Gd X E (defScope s_Lmade_c) N_Lmade_c 2 true) (l : Lds X.K X.mg X.base) (L : Lm X (lamQ "_law_made_c")) : BX X E [] [.sh, .sh, .sh, .un] (defBody s_Lmade_c) [.sh, .sh, .sh, .sh] (b_Lmade_c) :=
  (bx_cons (W1 := [.sh, .sh, .sh, .ow]) (sx_new G 3 (fx_list ax_nil))
  (bx_cons (W1 := [.sh, .sh, .sh, .ow]) (sx_mth G 3 mt_ap om_append (ax_pa (ax_cons (px_tup (ax_cons (px_exc G (ev_BadRing A).1 (ax_cons (px_var G 0) ax_nil)) (ax_cons (px_excK G (ev_BadRing A).2 (kw_cons (px_var G 0) kw_nil)) (ax_cons (px_lamV G (fs := ["thing"]) L (R := (fun c => ⟨⟨"e", _, _, rfl, (AtS.cons AtS.nil), NdefX.nscope_by rfl, vis_of rfl, by decide, by decide, fun _ _ us h => match us, h with | [_], _ => rfl⟩⟩))) (ax_cons (FX.px (fx_list (ax_cons (px_var G 0) ax_nil))) ax_nil))))) ax_nil)))
  (bx_cons (W1 := [.sh, .sh, .sh, .ow]) (sx_mth G 3 mt_ap om_append (ax_pa (ax_cons (px_tup (ax_cons (px_exc G (ev_BadRow A).1 (ax_cons (px_var G 0) ax_nil)) (ax_cons (px_excK G (ev_BadRow A).2 (kw_cons (px_var G 0) kw_nil)) (ax_cons (px_lamV G (fs := ["index"]) L (R := (fun c => ⟨⟨"e", _, _, rfl, (AtS.cons AtS.nil), NdefX.nscope_by rfl, vis_of rfl, by decide, by decide, fun _ _ us h => match us, h with | [_], _ => rfl⟩⟩))) (ax_cons (FX.px (fx_list (ax_cons (px_var G 0) ax_nil))) ax_nil))))) ax_nil)))
  (bx_cons (W1 := [.sh, .sh, .sh, .ow]) (sx_mth G 3 mt_ap om_append (ax_pa (ax_cons (px_tup (ax_cons (px_exc G (ev_BadRule A).1 (ax_cons (px_var G 0) ax_nil)) (ax_cons (px_excK G (ev_BadRule A).2 (kw_cons (px_var G 0) kw_nil)) (ax_cons (px_lamV G (fs := ["thing"]) L (R := (fun c => ⟨⟨"e", _, _, rfl, (AtS.cons AtS.nil), NdefX.nscope_by rfl, vis_of rfl, by decide, by decide, fun _ _ us h => match us, h with | [_], _ => rfl⟩⟩))) (ax_cons (FX.px (fx_list (ax_cons (px_var G 0) ax_nil))) ax_nil))))) ax_nil)))
  (bx_cons (W1 := [.sh, .sh, .sh, .ow]) (sx_mth G 3 mt_ap om_append (ax_pa (ax_cons (px_tup (ax_cons (px_exc G (ev_BadSession A).1 (ax_cons (px_var G 0) ax_nil)) (ax_cons (px_excK G (ev_BadSession A).2 (kw_cons (px_var G 0) kw_nil)) (ax_cons (px_lamV G (fs := ["thing"]) L (R := (fun c => ⟨⟨"e", _, _, rfl, (AtS.cons AtS.nil), NdefX.nscope_by rfl, vis_of rfl, by decide, by decide, fun _ _ us h => match us, h with | [_], _ => rfl⟩⟩))) (ax_cons (FX.px (fx_list (ax_cons (px_var G 0) ax_nil))) ax_nil))))) ax_nil)))
  (bx_cons (W1 := [.sh, .sh, .sh, .ow]) (sx_mth G 3 mt_ap om_append (ax_pa (ax_cons (px_tup (ax_cons (px_exc G (ev_BadSides A).1 (ax_cons (px_var G 0) ax_nil)) (ax_cons (px_excK G (ev_BadSides A).2 (kw_cons (px_var G 0) kw_nil)) (ax_cons (px_lamV G (fs := ["thing"]) L (R := (fun c => ⟨⟨"e", _, _, rfl, (AtS.cons AtS.nil), NdefX.nscope_by rfl, vis_of rfl, by decide, by decide, fun _ _ us h => match us, h with | [_], _ => rfl⟩⟩))) (ax_cons (FX.px (fx_list (ax_cons (px_var G 0) ax_nil))) ax_nil))))) ax_nil)))
  (bx_cons (W1 := [.sh, .sh, .sh, .ow]) (sx_mth G 3 mt_ap om_append (ax_pa (ax_cons (px_tup (ax_cons (px_exc G (ev_BadSteps A).1 (ax_cons (px_var G 0) ax_nil)) (ax_cons (px_excK G (ev_BadSteps A).2 (kw_cons (px_var G 0) kw_nil)) (ax_cons (px_lamV G (fs := ["thing"]) L (R := (fun c => ⟨⟨"e", _, _, rfl, (AtS.cons AtS.nil), NdefX.nscope_by rfl, vis_of rfl, by decide, by decide, fun _ _ us h => match us, h with | [_], _ => rfl⟩⟩))) (ax_cons (FX.px (fx_list (ax_cons (px_var G 0) ax_nil))) ax_nil))))) ax_nil)))
  (bx_cons (W1 := [.sh, .sh, .sh, .ow]) (sx_mth G 3 mt_ap om_append (ax_pa (ax_cons (px_tup (ax_cons (px_exc G (ev_BadStock A).1 (ax_cons (px_var G 0) ax_nil)) (ax_cons (px_excK G (ev_BadStock A).2 (kw_cons (px_var G 0) kw_nil)) (ax_cons (px_lamV G (fs := ["thing"]) L (R := (fun c => ⟨⟨"e", _, _, rfl, (AtS.cons AtS.nil), NdefX.nscope_by rfl, vis_of rfl, by decide, by decide, fun _ _ us h => match us, h with | [_], _ => rfl⟩⟩))) (ax_cons (FX.px (fx_list (ax_cons (px_var G 0) ax_nil))) ax_nil))))) ax_nil)))
  (bx_cons (W1 := [.sh, .sh, .sh, .ow]) (sx_mth G 3 mt_ap om_append (ax_pa (ax_cons (px_tup (ax_cons (px_exc G (ev_BadTable A).1 (ax_cons (px_var G 0) ax_nil)) (ax_cons (px_excK G (ev_BadTable A).2 (kw_cons (px_var G 0) kw_nil)) (ax_cons (px_lamV G (fs := ["fault"]) L (R := (fun c => ⟨⟨"e", _, _, rfl, (AtS.cons AtS.nil), NdefX.nscope_by rfl, vis_of rfl, by decide, by decide, fun _ _ us h => match us, h with | [_], _ => rfl⟩⟩))) (ax_cons (FX.px (fx_list (ax_cons (px_var G 0) ax_nil))) ax_nil))))) ax_nil)))
  (bx_cons (W1 := [.sh, .sh, .sh, .ow]) (sx_mth G 3 mt_ap om_append (ax_pa (ax_cons (px_tup (ax_cons (px_exc G (ev_BadText A).1 (ax_cons (px_var G 0) (ax_cons (px_var G 1) ax_nil))) (ax_cons (px_excK G (ev_BadText A).2 (kw_cons (px_var G 1) (kw_cons (px_var G 0) kw_nil))) (ax_cons (px_lamV G (fs := ["line", "sign"]) L (R := (fun c => ⟨⟨"e", _, _, rfl, (AtS.cons (AtS.cons AtS.nil)), NdefX.nscope_by rfl, vis_of rfl, by decide, by decide, fun _ _ us h => match us, h with | [_], _ => rfl⟩⟩))) (ax_cons (FX.px (fx_list (ax_cons (px_var G 0) (ax_cons (px_var G 1) ax_nil)))) ax_nil))))) ax_nil)))
  (bx_cons (W1 := [.sh, .sh, .sh, .ow]) (sx_mth G 3 mt_ap om_append (ax_pa (ax_cons (px_tup (ax_cons (px_exc G (ev_BadThings A).1 (ax_cons (px_var G 0) ax_nil)) (ax_cons (px_excK G (ev_BadThings A).2 (kw_cons (px_var G 0) kw_nil)) (ax_cons (px_lamV G (fs := ["thing"]) L (R := (fun c => ⟨⟨"e", _, _, rfl, (AtS.cons AtS.nil), NdefX.nscope_by rfl, vis_of rfl, by decide, by decide, fun _ _ us h => match us, h with | [_], _ => rfl⟩⟩))) (ax_cons (FX.px (fx_list (ax_cons (px_var G 0) ax_nil))) ax_nil))))) ax_nil)))
  (bx_cons (W1 := [.sh, .sh, .sh, .ow]) (sx_mth G 3 mt_ap om_append (ax_pa (ax_cons (px_tup (ax_cons (px_exc G (ev_BadTown A).1 (ax_cons (px_var G 0) ax_nil)) (ax_cons (px_excK G (ev_BadTown A).2 (kw_cons (px_var G 0) kw_nil)) (ax_cons (px_lamV G (fs := ["thing"]) L (R := (fun c => ⟨⟨"e", _, _, rfl, (AtS.cons AtS.nil), NdefX.nscope_by rfl, vis_of rfl, by decide, by decide, fun _ _ us h => match us, h with | [_], _ => rfl⟩⟩))) (ax_cons (FX.px (fx_list (ax_cons (px_var G 0) ax_nil))) ax_nil))))) ax_nil)))
  (bx_cons (W1 := [.sh, .sh, .sh, .ow]) (sx_mth G 3 mt_ap om_append (ax_pa (ax_cons (px_tup (ax_cons (px_exc G (ev_BadWish A).1 (ax_cons (px_var G 0) ax_nil)) (ax_cons (px_excK G (ev_BadWish A).2 (kw_cons (px_var G 0) kw_nil)) (ax_cons (px_lamV G (fs := ["thing"]) L (R := (fun c => ⟨⟨"e", _, _, rfl, (AtS.cons AtS.nil), NdefX.nscope_by rfl, vis_of rfl, by decide, by decide, fun _ _ us h => match us, h with | [_], _ => rfl⟩⟩))) (ax_cons (FX.px (fx_list (ax_cons (px_var G 0) ax_nil))) ax_nil))))) ax_nil)))
  (bx_cons (W1 := [.sh, .sh, .sh, .ow]) (sx_mth G 3 mt_ap om_append (ax_pa (ax_cons (px_tup (ax_cons (px_exc G (ev_BadWishes A).1 (ax_cons (px_var G 0) ax_nil)) (ax_cons (px_excK G (ev_BadWishes A).2 (kw_cons (px_var G 0) kw_nil)) (ax_cons (px_lamV G (fs := ["thing"]) L (R := (fun c => ⟨⟨"e", _, _, rfl, (AtS.cons AtS.nil), NdefX.nscope_by rfl, vis_of rfl, by decide, by decide, fun _ _ us h => match us, h with | [_], _ => rfl⟩⟩))) (ax_cons (FX.px (fx_list (ax_cons (px_var G 0) ax_nil))) ax_nil))))) ax_nil)))
  (bx_cons (W1 := [.sh, .sh, .sh, .ow]) (sx_mth G 3 mt_ap om_append (ax_pa (ax_cons (px_tup (ax_cons (px_exc G (ev_HasTie A).1 (ax_cons (px_var G 0) (ax_cons (px_var G 1) ax_nil))) (ax_cons (px_excK G (ev_HasTie A).2 (kw_cons (px_var G 1) (kw_cons (px_var G 0) kw_nil))) (ax_cons (px_lamV G (fs := ["one", "other"]) L (R := (fun c => ⟨⟨"e", _, _, rfl, (AtS.cons (AtS.cons AtS.nil)), NdefX.nscope_by rfl, vis_of rfl, by decide, by decide, fun _ _ us h => match us, h with | [_], _ => rfl⟩⟩))) (ax_cons (FX.px (fx_list (ax_cons (px_var G 0) (ax_cons (px_var G 1) ax_nil)))) ax_nil))))) ax_nil)))
  (bx_cons (W1 := [.sh, .sh, .sh, .ow]) (sx_mth G 3 mt_ap om_append (ax_pa (ax_cons (px_tup (ax_cons (px_exc G (ev_InUse A).1 (ax_cons (px_var G 0) ax_nil)) (ax_cons (px_excK G (ev_InUse A).2 (kw_cons (px_var G 0) kw_nil)) (ax_cons (px_lamV G (fs := ["question"]) L (R := (fun c => ⟨⟨"e", _, _, rfl, (AtS.cons AtS.nil), NdefX.nscope_by rfl, vis_of rfl, by decide, by decide, fun _ _ us h => match us, h with | [_], _ => rfl⟩⟩))) (ax_cons (FX.px (fx_list (ax_cons (px_var G 0) ax_nil))) ax_nil))))) ax_nil)))
  (bx_cons (W1 := [.sh, .sh, .sh, .ow]) (sx_mth G 3 mt_ap om_append (ax_pa (ax_cons (px_tup (ax_cons (px_exc G (ev_IsWatched A).1 (ax_cons (px_var G 0) ax_nil)) (ax_cons (px_excK G (ev_IsWatched A).2 (kw_cons (px_var G 0) kw_nil)) (ax_cons (px_lamV G (fs := ["question"]) L (R := (fun c => ⟨⟨"e", _, _, rfl, (AtS.cons AtS.nil), NdefX.nscope_by rfl, vis_of rfl, by decide, by decide, fun _ _ us h => match us, h with | [_], _ => rfl⟩⟩))) (ax_cons (FX.px (fx_list (ax_cons (px_var G 0) ax_nil))) ax_nil))))) ax_nil)))
  (bx_cons (W1 := [.sh, .sh, .sh, .ow]) (sx_mth G 3 mt_ap om_append (ax_pa (ax_cons (px_tup (ax_cons (px_exc G (ev_NoBetterRow A).1 (ax_cons (px_var G 0) ax_nil)) (ax_cons (px_excK G (ev_NoBetterRow A).2 (kw_cons (px_var G 0) kw_nil)) (ax_cons (px_lamV G (fs := ["thing"]) L (R := (fun c => ⟨⟨"e", _, _, rfl, (AtS.cons AtS.nil), NdefX.nscope_by rfl, vis_of rfl, by decide, by decide, fun _ _ us h => match us, h with | [_], _ => rfl⟩⟩))) (ax_cons (FX.px (fx_list (ax_cons (px_var G 0) ax_nil))) ax_nil))))) ax_nil)))
  (bx_cons (W1 := [.sh, .sh, .sh, .ow]) (sx_mth G 3 mt_ap om_append (ax_pa (ax_cons (px_tup (ax_cons (px_exc G (ev_NoCount A).1 (ax_cons (px_var G 0) ax_nil)) (ax_cons (px_excK G (ev_NoCount A).2 (kw_cons (px_var G 0) kw_nil)) (ax_cons (px_lamV G (fs := ["thing"]) L (R := (fun c => ⟨⟨"e", _, _, rfl, (AtS.cons AtS.nil), NdefX.nscope_by rfl, vis_of rfl, by decide, by decide, fun _ _ us h => match us, h with | [_], _ => rfl⟩⟩))) (ax_cons (FX.px (fx_list (ax_cons (px_var G 0) ax_nil))) ax_nil))))) ax_nil)))
  (bx_frz 3 (bx_one (sx_ret (px_var G 3)))))))))))))))))))))))
theorem sc_Lmade_c : FnScope N_Lmade_c ["x", "y", "z"] (defScope s_Lmade_c) := ⟨rfl, rfl, rfl, by decide +kernel, rfl, by decide +kernel, by decide +kernel⟩
theorem ok_Lmade_c {P : Program} {w : World} {K : PySem.W.Frag} {mg : Str → Option Value} {base : Heap} (A : Wl K mg) (l : Lds K mg base) : Df P w K mg base 3 "_law_made_c" 3 f_Lmade_c := by
  refine A.d_Lmade_c.fnL l.l_Lmade_c sc_Lmade_c rfl rfl rfl (Wn := [.sh, .sh, .sh, .sh]) ?_
  intro X E h1 h2 h3 h4 h5 G L
  subst h1 h2 h3 h4 h5
  exact body_Lmade_c A G l L
/-! #### _law_made_d -/
abbrev N_Lmade_d : List Str := ["x", "y", "z", "found"]
def b_Lmade_d : MS := (mSeq (mSet 3 (mL mNil kList))
  (mSeq (mMth "list" 3 (mCons (mL (mCons (mL (mCons (mVar 0) mNil) (kExc "NoFirm" ["ring"])) (mCons (mL (mCons (mVar 0) mNil) (kExcK "NoFirm" ["ring"] 1 [0])) (mCons (mC (.lam (lamQ "_law_made_d") ["ring"])) (mCons (mL (mCons (mVar 0) mNil) kList) mNil)))) kTup) mNil) kAppend)
  (mSeq (mMth "list" 3 (mCons (mL (mCons (mL (mCons (mVar 0) mNil) (kExc "NoPerson" ["thing"])) (mCons (mL (mCons (mVar 0) mNil) (kExcK "NoPerson" ["thing"] 1 [0])) (mCons (mC (.lam (lamQ "_law_made_d") ["thing"])) (mCons (mL (mCons (mVar 0) mNil) kList) mNil)))) kTup) mNil) kAppend)
  (mSeq (mMth "list" 3 (mCons (mL (mCons (mL (mCons (mVar 0) mNil) (kExc "NoRule" ["thing"])) (mCons (mL (mCons (mVar 0) mNil) (kExcK "NoRule" ["thing"] 1 [0])) (mCons (mC (.lam (lamQ "_law_made_d") ["thing"])) (mCons (mL (mCons (mVar 0) mNil) kList) mNil)))) kTup) mNil) kAppend)
  (mSeq (mMth "list" 3 (mCons (mL (mCons (mL (mCons (mVar 0) (mCons (mVar 1) mNil)) (kExc "NoTie" ["one", "other"])) (mCons (mL (mCons (mVar 1) (mCons (mVar 0) mNil)) (kExcK "NoTie" ["one", "other"] 2 [1, 0])) (mCons (mC (.lam (lamQ "_law_made_d") ["one", "other"])) (mCons (mL (mCons (mVar 0) (mCons (mVar 1) mNil)) kList) mNil)))) kTup) mNil) kAppend)
  (mSeq (mMth "list" 3 (mCons (mL (mCons (mL (mCons (mVar 0) mNil) (kExc "NotFirm" ["pairing"])) (mCons (mL (mCons (mVar 0) mNil) (kExcK "NotFirm" ["pairing"] 1 [0])) (mCons (mC (.lam (lamQ "_law_made_d") ["pairing"])) (mCons (mL (mCons (mVar 0) mNil) kList) mNil)))) kTup) mNil) kAppend)
  (mSeq (mMth "list" 3 (mCons (mL (mCons (mL (mCons (mVar 0) mNil) (kExc "NotNow" ["why"])) (mCons (mL (mCons (mVar 0) mNil) (kExcK "NotNow" ["why"] 1 [0])) (mCons (mC (.lam (lamQ "_law_made_d") ["why"])) (mCons (mL (mCons (mVar 0) mNil) kList) mNil)))) kTup) mNil) kAppend)
  (mSeq (mMth "list" 3 (mCons (mL (mCons (mL (mCons (mVar 0) mNil) (kExc "NotWatched" ["question"])) (mCons (mL (mCons (mVar 0) mNil) (kExcK "NotWatched" ["question"] 1 [0])) (mCons (mC (.lam (lamQ "_law_made_d") ["question"])) (mCons (mL (mCons (mVar 0) mNil) kList) mNil)))) kTup) mNil) kAppend)
  (mSeq (mMth "list" 3 (mCons (mL (mCons (mL (mCons (mVar 0) (mCons (mVar 1) mNil)) (kExc "Stays" ["one", "other"])) (mCons (mL (mCons (mVar 1) (mCons (mVar 0) mNil)) (kExcK "Stays" ["one", "other"] 2 [1, 0])) (mCons (mC (.lam (lamQ "_law_made_d") ["one", "other"])) (mCons (mL (mCons (mVar 0) (mCons (mVar 1) mNil)) kList) mNil)))) kTup) mNil) kAppend)
  (mSeq (mMth "list" 3 (mCons (mL (mCons (mL (mCons (mVar 0) (mCons (mVar 1) mNil)) (kExc "TurnsRound" ["person", "ring"])) (mCons (mL (mCons (mVar 1) (mCons (mVar 0) mNil)) (kExcK "TurnsRound" ["person", "ring"] 2 [1, 0])) (mCons (mC (.lam (lamQ "_law_made_d") ["person", "ring"])) (mCons (mL (mCons (mVar 0) (mCons (mVar 1) mNil)) kList) mNil)))) kTup) mNil) kAppend)
  (mSeq (mMth "list" 3 (mCons (mL (mCons (mL (mCons (mVar 0) (mCons (mVar 1) mNil)) (kExc "WouldChange" ["question", "why"])) (mCons (mL (mCons (mVar 1) (mCons (mVar 0) mNil)) (kExcK "WouldChange" ["question", "why"] 2 [1, 0])) (mCons (mC (.lam (lamQ "_law_made_d") ["question", "why"])) (mCons (mL (mCons (mVar 0) (mCons (mVar 1) mNil)) kList) mNil)))) kTup) mNil) kAppend)
  (mRet (mVar 3)))))))))))))
def f_Lmade_d : MF := mFn 1 b_Lmade_d
theorem body_Lmade_d {X : Cx} {E : XK} (A : Wl X.K X.mg) (G : Gd X E (defScope s_Lmade_d) N_Lmade_d 2 true) (l : Lds X.K X.mg X.base) (L : Lm X (lamQ "_law_made_d")) : BX X E [] [.sh, .sh, .sh, .un] (defBody s_Lmade_d) [.sh, .sh, .sh, .sh] (b_Lmade_d) :=
  (bx_cons (W1 := [.sh, .sh, .sh, .ow]) (sx_new G 3 (fx_list ax_nil))
  (bx_cons (W1 := [.sh, .sh, .sh, .ow]) (sx_mth G 3 mt_ap om_append (ax_pa (ax_cons (px_tup (ax_cons (px_exc G (ev_NoFirm A).1 (ax_cons (px_var G 0) ax_nil)) (ax_cons (px_excK G (ev_NoFirm A).2 (kw_cons (px_var G 0) kw_nil)) (ax_cons (px_lamV G (fs := ["ring"]) L (R := (fun c => ⟨⟨"e", _, _, rfl, (AtS.cons AtS.nil), NdefX.nscope_by rfl, vis_of rfl, by decide, by decide, fun _ _ us h => match us, h with | [_], _ => rfl⟩⟩))) (ax_cons (FX.px (fx_list (ax_cons (px_var G 0) ax_nil))) ax_nil))))) ax_nil)))
  (bx_cons (W1 := [.sh, .sh, .sh, .ow]) (sx_mth G 3 mt_ap om_append (ax_pa (ax_cons (px_tup (ax_cons (px_exc G (ev_NoPerson A).1 (ax_cons (px_var G 0) ax_nil)) (ax_cons (px_excK G (ev_NoPerson A).2 (kw_cons (px_var G 0) kw_nil)) (ax_cons (px_lamV G (fs := ["thing"]) L (R := (fun c => ⟨⟨"e", _, _, rfl, (AtS.cons AtS.nil), NdefX.nscope_by rfl, vis_of rfl, by decide, by decide, fun _ _ us h => match us, h with | [_], _ => rfl⟩⟩))) (ax_cons (FX.px (fx_list (ax_cons (px_var G 0) ax_nil))) ax_nil))))) ax_nil)))
  (bx_cons (W1 := [.sh, .sh, .sh, .ow]) (sx_mth G 3 mt_ap om_append (ax_pa (ax_cons (px_tup (ax_cons (px_exc G (ev_NoRule A).1 (ax_cons (px_var G 0) ax_nil)) (ax_cons (px_excK G (ev_NoRule A).2 (kw_cons (px_var G 0) kw_nil)) (ax_cons (px_lamV G (fs := ["thing"]) L (R := (fun c => ⟨⟨"e", _, _, rfl, (AtS.cons AtS.nil), NdefX.nscope_by rfl, vis_of rfl, by decide, by decide, fun _ _ us h => match us, h with | [_], _ => rfl⟩⟩))) (ax_cons (FX.px (fx_list (ax_cons (px_var G 0) ax_nil))) ax_nil))))) ax_nil)))
  (bx_cons (W1 := [.sh, .sh, .sh, .ow]) (sx_mth G 3 mt_ap om_append (ax_pa (ax_cons (px_tup (ax_cons (px_exc G (ev_NoTie A).1 (ax_cons (px_var G 0) (ax_cons (px_var G 1) ax_nil))) (ax_cons (px_excK G (ev_NoTie A).2 (kw_cons (px_var G 1) (kw_cons (px_var G 0) kw_nil))) (ax_cons (px_lamV G (fs := ["one", "other"]) L (R := (fun c => ⟨⟨"e", _, _, rfl, (AtS.cons (AtS.cons AtS.nil)), NdefX.nscope_by rfl, vis_of rfl, by decide, by decide, fun _ _ us h => match us, h with | [_], _ => rfl⟩⟩))) (ax_cons (FX.px (fx_list (ax_cons (px_var G 0) (ax_cons (px_var G 1) ax_nil)))) ax_nil))))) ax_nil)))
  (bx_cons (W1 := [.sh, .sh, .sh, .ow]) (sx_mth G 3 mt_ap om_append (ax_pa (ax_cons (px_tup (ax_cons (px_exc G (ev_NotFirm A).1 (ax_cons (px_var G 0) ax_nil)) (ax_cons (px_excK G (ev_NotFirm A).2 (kw_cons (px_var G 0) kw_nil)) (ax_cons (px_lamV G (fs := ["pairing"]) L (R := (fun c => ⟨⟨"e", _, _, rfl, (AtS.cons AtS.nil), NdefX.nscope_by rfl, vis_of rfl, by decide, by decide, fun _ _ us h => match us, h with | [_], _ => rfl⟩⟩))) (ax_cons (FX.px (fx_list (ax_cons (px_var G 0) ax_nil))) ax_nil))))) ax_nil)))
  (bx_cons (W1 := [.sh, .sh, .sh, .ow]) (sx_mth G 3 mt_ap om_append (ax_pa (ax_cons (px_tup (ax_cons (px_exc G (ev_NotNow A).1 (ax_cons (px_var G 0) ax_nil)) (ax_cons (px_excK G (ev_NotNow A).2 (kw_cons (px_var G 0) kw_nil)) (ax_cons (px_lamV G (fs := ["why"]) L (R := (fun c => ⟨⟨"e", _, _, rfl, (AtS.cons AtS.nil), NdefX.nscope_by rfl, vis_of rfl, by decide, by decide, fun _ _ us h => match us, h with | [_], _ => rfl⟩⟩))) (ax_cons (FX.px (fx_list (ax_cons (px_var G 0) ax_nil))) ax_nil))))) ax_nil)))
  (bx_cons (W1 := [.sh, .sh, .sh, .ow]) (sx_mth G 3 mt_ap om_append (ax_pa (ax_cons (px_tup (ax_cons (px_exc G (ev_NotWatched A).1 (ax_cons (px_var G 0) ax_nil)) (ax_cons (px_excK G (ev_NotWatched A).2 (kw_cons (px_var G 0) kw_nil)) (ax_cons (px_lamV G (fs := ["question"]) L (R := (fun c => ⟨⟨"e", _, _, rfl, (AtS.cons AtS.nil), NdefX.nscope_by rfl, vis_of rfl, by decide, by decide, fun _ _ us h => match us, h with | [_], _ => rfl⟩⟩))) (ax_cons (FX.px (fx_list (ax_cons (px_var G 0) ax_nil))) ax_nil))))) ax_nil)))
  (bx_cons (W1 := [.sh, .sh, .sh, .ow]) (sx_mth G 3 mt_ap om_append (ax_pa (ax_cons (px_tup (ax_cons (px_exc G (ev_Stays A).1 (ax_cons (px_var G 0) (ax_cons (px_var G 1) ax_nil))) (ax_cons (px_excK G (ev_Stays A).2 (kw_cons (px_var G 1) (kw_cons (px_var G 0) kw_nil))) (ax_cons (px_lamV G (fs := ["one", "other"]) L (R := (fun c => ⟨⟨"e", _, _, rfl, (AtS.cons (AtS.cons AtS.nil)), NdefX.nscope_by rfl, vis_of rfl, by decide, by decide, fun _ _ us h => match us, h with | [_], _ => rfl⟩⟩))) (ax_cons (FX.px (fx_list (ax_cons (px_var G 0) (ax_cons (px_var G 1) ax_nil)))) ax_nil))))) ax_nil)))
  (bx_cons (W1 := [.sh, .sh, .sh, .ow]) (sx_mth G 3 mt_ap om_append (ax_pa (ax_cons (px_tup (ax_cons (px_exc G (ev_TurnsRound A).1 (ax_cons (px_var G 0) (ax_cons (px_var G 1) ax_nil))) (ax_cons (px_excK G (ev_TurnsRound A).2 (kw_cons (px_var G 1) (kw_cons (px_var G 0) kw_nil))) (ax_cons (px_lamV G (fs := ["person", "ring"]) L (R := (fun c => ⟨⟨"e", _, _, rfl, (AtS.cons (AtS.cons AtS.nil)), NdefX.nscope_by rfl, vis_of rfl, by decide, by decide, fun _ _ us h => match us, h with | [_], _ => rfl⟩⟩))) (ax_cons (FX.px (fx_list (ax_cons (px_var G 0) (ax_cons (px_var G 1) ax_nil)))) ax_nil))))) ax_nil)))
  (bx_cons (W1 := [.sh, .sh, .sh, .ow]) (sx_mth G 3 mt_ap om_append (ax_pa (ax_cons (px_tup (ax_cons (px_exc G (ev_WouldChange A).1 (ax_cons (px_var G 0) (ax_cons (px_var G 1) ax_nil))) (ax_cons (px_excK G (ev_WouldChange A).2 (kw_cons (px_var G 1) (kw_cons (px_var G 0) kw_nil))) (ax_cons (px_lamV G (fs := ["question", "why"]) L (R := (fun c => ⟨⟨"e", _, _, rfl, (AtS.cons (AtS.cons AtS.nil)), NdefX.nscope_by rfl, vis_of rfl, by decide, by decide, fun _ _ us h => match us, h with | [_], _ => rfl⟩⟩))) (ax_cons (FX.px (fx_list (ax_cons (px_var G 0) (ax_cons (px_var G 1) ax_nil)))) ax_nil))))) ax_nil)))
  (bx_frz 3 (bx_one (sx_ret (px_var G 3)))))))))))))))
theorem sc_Lmade_d : FnScope N_Lmade_d ["x", "y", "z"] (defScope s_Lmade_d) := ⟨rfl, rfl, rfl, by decide +kernel, rfl, by decide +kernel, by decide +kernel⟩
theorem ok_Lmade_d {P : Program} {w : World} {K : PySem.W.Frag} {mg : Str → Option Value} {base : Heap} (A : Wl K mg) (l : Lds K mg base) : Df P w K mg base 3 "_law_made_d" 3 f_Lmade_d := by
  refine A.d_Lmade_d.fnL l.l_Lmade_d sc_Lmade_d rfl rfl rfl (Wn := [.sh, .sh, .sh, .sh]) ?_
  intro X E h1 h2 h3 h4 h5 G L
  subst h1 h2 h3 h4 h5
  exact body_Lmade_d A G l L
/-! #### _law_kinds_a -/
abbrev N_Lkinds_a : List Str := ["e", "found"]
def b_Lkinds_a : MS := (mSeq (mSet 1 (mL mNil kList))
  (mSeq (mMth "list" 1 (mCons (mL (mCons (m1 (mVar 0) (kIsX xsC txC (.own "AsksOn"))) (mCons (m1 (mVar 0) (kIsX xsC txC (.own "BadAllotment"))) mNil)) kList) mNil) kExtend)
  (mSeq (mMth "list" 1 (mCons (mL (mCons (m1 (mVar 0) (kIsX xsC txC (.own "BadAsk"))) (mCons (m1 (mVar 0) (kIsX xsC txC (.own "BadAsker"))) mNil)) kList) mNil) kExtend)
  (mSeq (mMth "list" 1 (mCons (mL (mCons (m1 (mVar 0) (kIsX xsC txC (.own "BadBounds"))) (mCons (m1 (mVar 0) (kIsX xsC txC (.own "BadCrossing"))) mNil)) kList) mNil) kExtend)
  (mSeq (mMth "list" 1 (mCons (mL (mCons (m1 (mVar 0) (kIsX xsC txC (.own "BadDealing"))) (mCons (m1 (mVar 0) (kIsX xsC txC (.own "BadDeed"))) mNil)) kList) mNil) kExtend)
  (mSeq (mMth "list" 1 (mCons (mL (mCons (m1 (mVar 0) (kIsX xsC txC (.own "BadDepth"))) (mCons (m1 (mVar 0) (kIsX xsC txC (.own "BadDraw"))) mNil)) kList) mNil) kExtend)
  (mSeq (mMth "list" 1 (mCons (mL (mCons (m1 (mVar 0) (kIsX xsC txC (.own "BadForm"))) (mCons (m1 (mVar 0) (kIsX xsC txC (.own "BadGivers"))) mNil)) kList) mNil) kExtend)
  (mSeq (mMth "list" 1 (mCons (mL (mCons (m1 (mVar 0) (kIsX xsC txC (.own "BadGoods"))) (mCons (m1 (mVar 0) (kIsX xsC txC (.own "BadHouses"))) mNil)) kList) mNil) kExtend)
  (mSeq (mMth "list" 1 (mCons (mL (mCons (m1 (mVar 0) (kIsX xsC txC (.own "BadKind"))) (mCons (m1 (mVar 0) (kIsX xsC txC (.own "BadKnown"))) mNil)) kList) mNil) kExtend)
  (mSeq (mMth "list" 1 (mCons (mL (mCons (m1 (mVar 0) (kIsX xsC txC (.own "BadLetting"))) (mCons (m1 (mVar 0) (kIsX xsC txC (.own "BadLies"))) mNil)) kList) mNil) kExtend)
  (mRet (mVar 1))))))))))))
def f_Lkinds_a : MF := mFn 1 b_Lkinds_a
theorem body_Lkinds_a {X : Cx} {E : XK} (A : Wl X.K X.mg) (G : Gd X E (defScope s_Lkinds_a) N_Lkinds_a 0 true) : BX X E [] [.sh, .un] (defBody s_Lkinds_a) [.sh, .sh] (b_Lkinds_a) :=
  (bx_cons (W1 := [.sh, .ow]) (sx_new G 1 (fx_list ax_nil))
  (bx_cons (W1 := [.sh, .ow]) (sx_mth G 1 mt_ex om_extend (av_pa (av_cons (PX.v (FX.px (fx_list (ax_cons (px_isX G A.kx A.b_isinstance (px_var G 0) (nx_err G A.kx (List.mem_of_getElem? (i := 1) rfl)) (hc := cxOk_own (List.mem_of_getElem? (i := 1) rfl))) (ax_cons (px_isX G A.kx A.b_isinstance (px_var G 0) (nx_err G A.kx (List.mem_of_getElem? (i := 2) rfl)) (hc := cxOk_own (List.mem_of_getElem? (i := 2) rfl))) ax_nil))))) av_nil)))
  (bx_cons (W1 := [.sh, .ow]) (sx_mth G 1 mt_ex om_extend (av_pa (av_cons (PX.v (FX.px (fx_list (ax_cons (px_isX G A.kx A.b_isinstance (px_var G 0) (nx_err G A.kx (List.mem_of_getElem? (i := 3) rfl)) (hc := cxOk_own (List.mem_of_getElem? (i := 3) rfl))) (ax_cons (px_isX G A.kx A.b_isinstance (px_var G 0) (nx_err G A.kx (List.mem_of_getElem? (i := 4) rfl)) (hc := cxOk_own (List.mem_of_getElem? (i := 4) rfl))) ax_nil))))) av_nil)))
  (bx_cons (W1 := [.sh, .ow]) (sx_mth G 1 mt_ex om_extend (av_pa (av_cons (PX.v (FX.px (fx_list (ax_cons (px_isX G A.kx A.b_isinstance (px_var G 0) (nx_err G A.kx (List.mem_of_getElem? (i := 5) rfl)) (hc := cxOk_own (List.mem_of_getElem? (i := 5) rfl))) (ax_cons (px_isX G A.kx A.b_isinstance (px_var G 0) (nx_err G A.kx (List.mem_of_getElem? (i := 6) rfl)) (hc := cxOk_own (List.mem_of_getElem? (i := 6) rfl))) ax_nil))))) av_nil)))
  (bx_cons (W1 := [.sh, .ow]) (sx_mth G 1 mt_ex om_extend (av_pa (av_cons (PX.v (FX.px (fx_list (ax_cons (px_isX G A.kx A.b_isinstance (px_var G 0) (nx_err G A.kx (List.mem_of_getElem? (i := 7) rfl)) (hc := cxOk_own (List.mem_of_getElem? (i := 7) rfl))) (ax_cons (px_isX G A.kx A.b_isinstance (px_var G 0) (nx_err G A.kx (List.mem_of_getElem? (i := 8) rfl)) (hc := cxOk_own (List.mem_of_getElem? (i := 8) rfl))) ax_nil))))) av_nil)))
  (bx_cons (W1 := [.sh, .ow]) (sx_mth G 1 mt_ex om_extend (av_pa (av_cons (PX.v (FX.px (fx_list (ax_cons (px_isX G A.kx A.b_isinstance (px_var G 0) (nx_err G A.kx (List.mem_of_getElem? (i := 9) rfl)) (hc := cxOk_own (List.mem_of_getElem? (i := 9) rfl))) (ax_cons (px_isX G A.kx A.b_isinstance (px_var G 0) (nx_err G A.kx (List.mem_of_getElem? (i := 10) rfl)) (hc := cxOk_own (List.mem_of_getElem? (i := 10) rfl))) ax_nil))))) av_nil)))
  (bx_cons (W1 := [.sh, .ow]) (sx_mth G 1 mt_ex om_extend (av_pa (av_cons (PX.v (FX.px (fx_list (ax_cons (px_isX G A.kx A.b_isinstance (px_var G 0) (nx_err G A.kx (List.mem_of_getElem? (i := 11) rfl)) (hc := cxOk_own (List.mem_of_getElem? (i := 11) rfl))) (ax_cons (px_isX G A.kx A.b_isinstance (px_var G 0) (nx_err G A.kx (List.mem_of_getElem? (i := 12) rfl)) (hc := cxOk_own (List.mem_of_getElem? (i := 12) rfl))) ax_nil))))) av_nil)))
  (bx_cons (W1 := [.sh, .ow]) (sx_mth G 1 mt_ex om_extend (av_pa (av_cons (PX.v (FX.px (fx_list (ax_cons (px_isX G A.kx A.b_isinstance (px_var G 0) (nx_err G A.kx (List.mem_of_getElem? (i := 13) rfl)) (hc := cxOk_own (List.mem_of_getElem? (i := 13) rfl))) (ax_cons (px_isX G A.kx A.b_isinstance (px_var G 0) (nx_err G A.kx (List.mem_of_getElem? (i := 14) rfl)) (hc := cxOk_own (List.mem_of_getElem? (i := 14) rfl))) ax_nil))))) av_nil)))
  (bx_cons (W1 := [.sh, .ow]) (sx_mth G 1 mt_ex om_extend (av_pa (av_cons (PX.v (FX.px (fx_list (ax_cons (px_isX G A.kx A.b_isinstance (px_var G 0) (nx_err G A.kx (List.mem_of_getElem? (i := 15) rfl)) (hc := cxOk_own (List.mem_of_getElem? (i := 15) rfl))) (ax_cons (px_isX G A.kx A.b_isinstance (px_var G 0) (nx_err G A.kx (List.mem_of_getElem? (i := 16) rfl)) (hc := cxOk_own (List.mem_of_getElem? (i := 16) rfl))) ax_nil))))) av_nil)))
  (bx_cons (W1 := [.sh, .ow]) (sx_mth G 1 mt_ex om_extend (av_pa (av_cons (PX.v (FX.px (fx_list (ax_cons (px_isX G A.kx A.b_isinstance (px_var G 0) (nx_err G A.kx (List.mem_of_getElem? (i := 17) rfl)) (hc := cxOk_own (List.mem_of_getElem? (i := 17) rfl))) (ax_cons (px_isX G A.kx A.b_isinstance (px_var G 0) (nx_err G A.kx (List.mem_of_getElem? (i := 18) rfl)) (hc := cxOk_own (List.mem_of_getElem? (i := 18) rfl))) ax_nil))))) av_nil)))
  (bx_frz 1 (bx_one (sx_ret (px_var G 1))))))))))))))
theorem sc_Lkinds_a : FnScope N_Lkinds_a ["e"] (defScope s_Lkinds_a) := ⟨rfl, rfl, rfl, by decide +kernel, rfl, by decide +kernel, by decide +kernel⟩
theorem ok_Lkinds_a {P : Program} {w : World} {K : PySem.W.Frag} {mg : Str → Option Value} {base : Heap} (A : Wl K mg) : Df P w K mg base 1 "_law_kinds_a" 1 f_Lkinds_a := by
  refine A.d_Lkinds_a.fn sc_Lkinds_a rfl rfl rfl (Wn := [.sh, .sh]) ?_
  intro X E h1 h2 h3 h4 h5 G
  subst h1 h2 h3 h4 h5
  exact body_Lkinds_a A G
/-! #### _law_kinds_b -/
abbrev N_Lkinds_b : List Str := ["e", "found"]
def b_Lkinds_b : MS := (mSeq (mSet 1 (mL mNil kList))
  (mSeq (mMth "list" 1 (mCons (mL (mCons (m1 (mVar 0) (kIsX xsC txC (.own "BadLot"))) (mCons (m1 (mVar 0) (kIsX xsC txC (.own "BadLots"))) mNil)) kList) mNil) kExtend)
  (mSeq (mMth "list" 1 (mCons (mL (mCons (m1 (mVar 0) (kIsX xsC txC (.own "BadLottery"))) (mCons (m1 (mVar 0) (kIsX xsC txC (.own "BadMarket"))) mNil)) kList) mNil) kExtend)
  (mSeq (mMth "list" 1 (mCons (mL (mCons (m1 (mVar 0) (kIsX xsC txC (.own "BadName"))) (mCons (m1 (mVar 0) (kIsX xsC txC (.own "BadNeeds"))) mNil)) kList) mNil) kExtend)
  (mSeq (mMth "list" 1 (mCons (mL (mCons (m1 (mVar 0) (kIsX xsC txC (.own "BadNotice"))) (mCons (m1 (mVar 0) (kIsX xsC txC (.own "BadNumber"))) mNil)) kList) mNil) kExtend)
  (mSeq (mMth "list" 1 (mCons (mL (mCons (m1 (mVar 0) (kIsX xsC txC (.own "BadOrder"))) (mCons (m1 (mVar 0) (kIsX xsC txC (.own "BadPairing"))) mNil)) kList) mNil) kExtend)
  (mSeq (mMth "list" 1 (mCons (mL (mCons (m1 (mVar 0) (kIsX xsC txC (.own "BadPairings"))) (mCons (m1 (mVar 0) (kIsX xsC txC (.own "BadPaper"))) mNil)) kList) mNil) kExtend)
  (mSeq (mMth "list" 1 (mCons (mL (mCons (m1 (mVar 0) (kIsX xsC txC (.own "BadPapers"))) (mCons (m1 (mVar 0) (kIsX xsC txC (.own "BadPeople"))) mNil)) kList) mNil) kExtend)
  (mSeq (mMth "list" 1 (mCons (mL (mCons (m1 (mVar 0) (kIsX xsC txC (.own "BadPlace"))) (mCons (m1 (mVar 0) (kIsX xsC txC (.own "BadQuestion"))) mNil)) kList) mNil) kExtend)
  (mSeq (mMth "list" 1 (mCons (mL (mCons (m1 (mVar 0) (kIsX xsC txC (.own "BadRanks"))) (mCons (m1 (mVar 0) (kIsX xsC txC (.own "BadResult"))) mNil)) kList) mNil) kExtend)
  (mRet (mVar 1))))))))))))
def f_Lkinds_b : MF := mFn 1 b_Lkinds_b
theorem body_Lkinds_b {X : Cx} {E : XK} (A : Wl X.K X.mg) (G : Gd X E (defScope s_Lkinds_b) N_Lkinds_b 0 true) : BX X E [] [.sh, .un] (defBody s_Lkinds_b) [.sh, .sh] (b_Lkinds_b) :=
  (bx_cons (W1 := [.sh, .ow]) (sx_new G 1 (fx_list ax_nil))
  (bx_cons (W1 := [.sh, .ow]) (sx_mth G 1 mt_ex om_extend (av_pa (av_cons (PX.v (FX.px (fx_list (ax_cons (px_isX G A.kx A.b_isinstance (px_var G 0) (nx_err G A.kx (List.mem_of_getElem? (i := 19) rfl)) (hc := cxOk_own (List.mem_of_getElem? (i := 19) rfl))) (ax_cons (px_isX G A.kx A.b_isinstance (px_var G 0) (nx_err G A.kx (List.mem_of_getElem? (i := 20) rfl)) (hc := cxOk_own (List.mem_of_getElem? (i := 20) rfl))) ax_nil))))) av_nil)))
  (bx_cons (W1 := [.sh, .ow]) (sx_mth G 1 mt_ex om_extend (av_pa (av_cons (PX.v (FX.px (fx_list (ax_cons (px_isX G A.kx A.b_isinstance (px_var G 0) (nx_err G A.kx (List.mem_of_getElem? (i := 21) rfl)) (hc := cxOk_own (List.mem_of_getElem? (i := 21) rfl))) (ax_cons (px_isX G A.kx A.b_isinstance (px_var G 0) (nx_err G A.kx (List.mem_of_getElem? (i := 22) rfl)) (hc := cxOk_own (List.mem_of_getElem? (i := 22) rfl))) ax_nil))))) av_nil)))
  (bx_cons (W1 := [.sh, .ow]) (sx_mth G 1 mt_ex om_extend (av_pa (av_cons (PX.v (FX.px (fx_list (ax_cons (px_isX G A.kx A.b_isinstance (px_var G 0) (nx_err G A.kx (List.mem_of_getElem? (i := 23) rfl)) (hc := cxOk_own (List.mem_of_getElem? (i := 23) rfl))) (ax_cons (px_isX G A.kx A.b_isinstance (px_var G 0) (nx_err G A.kx (List.mem_of_getElem? (i := 24) rfl)) (hc := cxOk_own (List.mem_of_getElem? (i := 24) rfl))) ax_nil))))) av_nil)))
  (bx_cons (W1 := [.sh, .ow]) (sx_mth G 1 mt_ex om_extend (av_pa (av_cons (PX.v (FX.px (fx_list (ax_cons (px_isX G A.kx A.b_isinstance (px_var G 0) (nx_err G A.kx (List.mem_of_getElem? (i := 25) rfl)) (hc := cxOk_own (List.mem_of_getElem? (i := 25) rfl))) (ax_cons (px_isX G A.kx A.b_isinstance (px_var G 0) (nx_err G A.kx (List.mem_of_getElem? (i := 26) rfl)) (hc := cxOk_own (List.mem_of_getElem? (i := 26) rfl))) ax_nil))))) av_nil)))
  (bx_cons (W1 := [.sh, .ow]) (sx_mth G 1 mt_ex om_extend (av_pa (av_cons (PX.v (FX.px (fx_list (ax_cons (px_isX G A.kx A.b_isinstance (px_var G 0) (nx_err G A.kx (List.mem_of_getElem? (i := 27) rfl)) (hc := cxOk_own (List.mem_of_getElem? (i := 27) rfl))) (ax_cons (px_isX G A.kx A.b_isinstance (px_var G 0) (nx_err G A.kx (List.mem_of_getElem? (i := 28) rfl)) (hc := cxOk_own (List.mem_of_getElem? (i := 28) rfl))) ax_nil))))) av_nil)))
  (bx_cons (W1 := [.sh, .ow]) (sx_mth G 1 mt_ex om_extend (av_pa (av_cons (PX.v (FX.px (fx_list (ax_cons (px_isX G A.kx A.b_isinstance (px_var G 0) (nx_err G A.kx (List.mem_of_getElem? (i := 29) rfl)) (hc := cxOk_own (List.mem_of_getElem? (i := 29) rfl))) (ax_cons (px_isX G A.kx A.b_isinstance (px_var G 0) (nx_err G A.kx (List.mem_of_getElem? (i := 30) rfl)) (hc := cxOk_own (List.mem_of_getElem? (i := 30) rfl))) ax_nil))))) av_nil)))
  (bx_cons (W1 := [.sh, .ow]) (sx_mth G 1 mt_ex om_extend (av_pa (av_cons (PX.v (FX.px (fx_list (ax_cons (px_isX G A.kx A.b_isinstance (px_var G 0) (nx_err G A.kx (List.mem_of_getElem? (i := 31) rfl)) (hc := cxOk_own (List.mem_of_getElem? (i := 31) rfl))) (ax_cons (px_isX G A.kx A.b_isinstance (px_var G 0) (nx_err G A.kx (List.mem_of_getElem? (i := 32) rfl)) (hc := cxOk_own (List.mem_of_getElem? (i := 32) rfl))) ax_nil))))) av_nil)))
  (bx_cons (W1 := [.sh, .ow]) (sx_mth G 1 mt_ex om_extend (av_pa (av_cons (PX.v (FX.px (fx_list (ax_cons (px_isX G A.kx A.b_isinstance (px_var G 0) (nx_err G A.kx (List.mem_of_getElem? (i := 33) rfl)) (hc := cxOk_own (List.mem_of_getElem? (i := 33) rfl))) (ax_cons (px_isX G A.kx A.b_isinstance (px_var G 0) (nx_err G A.kx (List.mem_of_getElem? (i := 34) rfl)) (hc := cxOk_own (List.mem_of_getElem? (i := 34) rfl))) ax_nil))))) av_nil)))
  (bx_cons (W1 := [.sh, .ow]) (sx_mth G 1 mt_ex om_extend (av_pa (av_cons (PX.v (FX.px (fx_list (ax_cons (px_isX G A.kx A.b_isinstance (px_var G 0) (nx_err G A.kx (List.mem_of_getElem? (i := 35) rfl)) (hc := cxOk_own (List.mem_of_getElem? (i := 35) rfl))) (ax_cons (px_isX G A.kx A.b_isinstance (px_var G 0) (nx_err G A.kx (List.mem_of_getElem? (i := 36) rfl)) (hc := cxOk_own (List.mem_of_getElem? (i := 36) rfl))) ax_nil))))) av_nil)))
  (bx_frz 1 (bx_one (sx_ret (px_var G 1))))))))))))))
theorem sc_Lkinds_b : FnScope N_Lkinds_b ["e"] (defScope s_Lkinds_b) := ⟨rfl, rfl, rfl, by decide +kernel, rfl, by decide +kernel, by decide +kernel⟩
theorem ok_Lkinds_b {P : Program} {w : World} {K : PySem.W.Frag} {mg : Str → Option Value} {base : Heap} (A : Wl K mg) : Df P w K mg base 1 "_law_kinds_b" 1 f_Lkinds_b := by
  refine A.d_Lkinds_b.fn sc_Lkinds_b rfl rfl rfl (Wn := [.sh, .sh]) ?_
  intro X E h1 h2 h3 h4 h5 G
  subst h1 h2 h3 h4 h5
  exact body_Lkinds_b A G
/-! #### _law_kinds_c -/
abbrev N_Lkinds_c : List Str := ["e", "found"]
def b_Lkinds_c : MS := (mSeq (mSet 1 (mL mNil kList))
  (mSeq (mMth "list" 1 (mCons (mL (mCons (m1 (mVar 0) (kIsX xsC txC (.own "BadRing"))) (mCons (m1 (mVar 0) (kIsX xsC txC (.own "BadRow"))) mNil)) kList) mNil) kExtend)
  (mSeq (mMth "list" 1 (mCons (mL (mCons (m1 (mVar 0) (kIsX xsC txC (.own "BadRule"))) (mCons (m1 (mVar 0) (kIsX xsC txC (.own "BadSession"))) mNil)) kList) mNil) kExtend)
  (mSeq (mMth "list" 1 (mCons (mL (mCons (m1 (mVar 0) (kIsX xsC txC (.own "BadSides"))) (mCons (m1 (mVar 0) (kIsX xsC txC (.own "BadSteps"))) mNil)) kList) mNil) kExtend)
  (mSeq (mMth "list" 1 (mCons (mL (mCons (m1 (mVar 0) (kIsX xsC txC (.own "BadStock"))) (mCons (m1 (mVar 0) (kIsX xsC txC (.own "BadTable"))) mNil)) kList) mNil) kExtend)
  (mSeq (mMth "list" 1 (mCons (mL (mCons (m1 (mVar 0) (kIsX xsC txC (.own "BadText"))) (mCons (m1 (mVar 0) (kIsX xsC txC (.own "BadThings"))) mNil)) kList) mNil) kExtend)
  (mSeq (mMth "list" 1 (mCons (mL (mCons (m1 (mVar 0) (kIsX xsC txC (.own "BadTown"))) (mCons (m1 (mVar 0) (kIsX xsC txC (.own "BadWish"))) mNil)) kList) mNil) kExtend)
  (mSeq (mMth "list" 1 (mCons (mL (mCons (m1 (mVar 0) (kIsX xsC txC (.own "BadWishes"))) (mCons (m1 (mVar 0) (kIsX xsC txC (.own "HasTie"))) mNil)) kList) mNil) kExtend)
  (mSeq (mMth "list" 1 (mCons (mL (mCons (m1 (mVar 0) (kIsX xsC txC (.own "InUse"))) (mCons (m1 (mVar 0) (kIsX xsC txC (.own "IsWatched"))) mNil)) kList) mNil) kExtend)
  (mSeq (mMth "list" 1 (mCons (mL (mCons (m1 (mVar 0) (kIsX xsC txC (.own "NoBetterRow"))) (mCons (m1 (mVar 0) (kIsX xsC txC (.own "NoCount"))) mNil)) kList) mNil) kExtend)
  (mRet (mVar 1))))))))))))
def f_Lkinds_c : MF := mFn 1 b_Lkinds_c
theorem body_Lkinds_c {X : Cx} {E : XK} (A : Wl X.K X.mg) (G : Gd X E (defScope s_Lkinds_c) N_Lkinds_c 0 true) : BX X E [] [.sh, .un] (defBody s_Lkinds_c) [.sh, .sh] (b_Lkinds_c) :=
  (bx_cons (W1 := [.sh, .ow]) (sx_new G 1 (fx_list ax_nil))
  (bx_cons (W1 := [.sh, .ow]) (sx_mth G 1 mt_ex om_extend (av_pa (av_cons (PX.v (FX.px (fx_list (ax_cons (px_isX G A.kx A.b_isinstance (px_var G 0) (nx_err G A.kx (List.mem_of_getElem? (i := 37) rfl)) (hc := cxOk_own (List.mem_of_getElem? (i := 37) rfl))) (ax_cons (px_isX G A.kx A.b_isinstance (px_var G 0) (nx_err G A.kx (List.mem_of_getElem? (i := 38) rfl)) (hc := cxOk_own (List.mem_of_getElem? (i := 38) rfl))) ax_nil))))) av_nil)))
  (bx_cons (W1 := [.sh, .ow]) (sx_mth G 1 mt_ex om_extend (av_pa (av_cons (PX.v (FX.px (fx_list (ax_cons (px_isX G A.kx A.b_isinstance (px_var G 0) (nx_err G A.kx (List.mem_of_getElem? (i := 39) rfl)) (hc := cxOk_own (List.mem_of_getElem? (i := 39) rfl))) (ax_cons (px_isX G A.kx A.b_isinstance (px_var G 0) (nx_err G A.kx (List.mem_of_getElem? (i := 40) rfl)) (hc := cxOk_own (List.mem_of_getElem? (i := 40) rfl))) ax_nil))))) av_nil)))
  (bx_cons (W1 := [.sh, .ow]) (sx_mth G 1 mt_ex om_extend (av_pa (av_cons (PX.v (FX.px (fx_list (ax_cons (px_isX G A.kx A.b_isinstance (px_var G 0) (nx_err G A.kx (List.mem_of_getElem? (i := 41) rfl)) (hc := cxOk_own (List.mem_of_getElem? (i := 41) rfl))) (ax_cons (px_isX G A.kx A.b_isinstance (px_var G 0) (nx_err G A.kx (List.mem_of_getElem? (i := 42) rfl)) (hc := cxOk_own (List.mem_of_getElem? (i := 42) rfl))) ax_nil))))) av_nil)))
  (bx_cons (W1 := [.sh, .ow]) (sx_mth G 1 mt_ex om_extend (av_pa (av_cons (PX.v (FX.px (fx_list (ax_cons (px_isX G A.kx A.b_isinstance (px_var G 0) (nx_err G A.kx (List.mem_of_getElem? (i := 43) rfl)) (hc := cxOk_own (List.mem_of_getElem? (i := 43) rfl))) (ax_cons (px_isX G A.kx A.b_isinstance (px_var G 0) (nx_err G A.kx (List.mem_of_getElem? (i := 44) rfl)) (hc := cxOk_own (List.mem_of_getElem? (i := 44) rfl))) ax_nil))))) av_nil)))
  (bx_cons (W1 := [.sh, .ow]) (sx_mth G 1 mt_ex om_extend (av_pa (av_cons (PX.v (FX.px (fx_list (ax_cons (px_isX G A.kx A.b_isinstance (px_var G 0) (nx_err G A.kx (List.mem_of_getElem? (i := 45) rfl)) (hc := cxOk_own (List.mem_of_getElem? (i := 45) rfl))) (ax_cons (px_isX G A.kx A.b_isinstance (px_var G 0) (nx_err G A.kx (List.mem_of_getElem? (i := 46) rfl)) (hc := cxOk_own (List.mem_of_getElem? (i := 46) rfl))) ax_nil))))) av_nil)))
  (bx_cons (W1 := [.sh, .ow]) (sx_mth G 1 mt_ex om_extend (av_pa (av_cons (PX.v (FX.px (fx_list (ax_cons (px_isX G A.kx A.b_isinstance (px_var G 0) (nx_err G A.kx (List.mem_of_getElem? (i := 47) rfl)) (hc := cxOk_own (List.mem_of_getElem? (i := 47) rfl))) (ax_cons (px_isX G A.kx A.b_isinstance (px_var G 0) (nx_err G A.kx (List.mem_of_getElem? (i := 48) rfl)) (hc := cxOk_own (List.mem_of_getElem? (i := 48) rfl))) ax_nil))))) av_nil)))
  (bx_cons (W1 := [.sh, .ow]) (sx_mth G 1 mt_ex om_extend (av_pa (av_cons (PX.v (FX.px (fx_list (ax_cons (px_isX G A.kx A.b_isinstance (px_var G 0) (nx_err G A.kx (List.mem_of_getElem? (i := 49) rfl)) (hc := cxOk_own (List.mem_of_getElem? (i := 49) rfl))) (ax_cons (px_isX G A.kx A.b_isinstance (px_var G 0) (nx_err G A.kx (List.mem_of_getElem? (i := 50) rfl)) (hc := cxOk_own (List.mem_of_getElem? (i := 50) rfl))) ax_nil))))) av_nil)))
  (bx_cons (W1 := [.sh, .ow]) (sx_mth G 1 mt_ex om_extend (av_pa (av_cons (PX.v (FX.px (fx_list (ax_cons (px_isX G A.kx A.b_isinstance (px_var G 0) (nx_err G A.kx (List.mem_of_getElem? (i := 51) rfl)) (hc := cxOk_own (List.mem_of_getElem? (i := 51) rfl))) (ax_cons (px_isX G A.kx A.b_isinstance (px_var G 0) (nx_err G A.kx (List.mem_of_getElem? (i := 52) rfl)) (hc := cxOk_own (List.mem_of_getElem? (i := 52) rfl))) ax_nil))))) av_nil)))
  (bx_cons (W1 := [.sh, .ow]) (sx_mth G 1 mt_ex om_extend (av_pa (av_cons (PX.v (FX.px (fx_list (ax_cons (px_isX G A.kx A.b_isinstance (px_var G 0) (nx_err G A.kx (List.mem_of_getElem? (i := 53) rfl)) (hc := cxOk_own (List.mem_of_getElem? (i := 53) rfl))) (ax_cons (px_isX G A.kx A.b_isinstance (px_var G 0) (nx_err G A.kx (List.mem_of_getElem? (i := 54) rfl)) (hc := cxOk_own (List.mem_of_getElem? (i := 54) rfl))) ax_nil))))) av_nil)))
  (bx_frz 1 (bx_one (sx_ret (px_var G 1))))))))))))))
theorem sc_Lkinds_c : FnScope N_Lkinds_c ["e"] (defScope s_Lkinds_c) := ⟨rfl, rfl, rfl, by decide +kernel, rfl, by decide +kernel, by decide +kernel⟩
theorem ok_Lkinds_c {P : Program} {w : World} {K : PySem.W.Frag} {mg : Str → Option Value} {base : Heap} (A : Wl K mg) : Df P w K mg base 1 "_law_kinds_c" 1 f_Lkinds_c := by
  refine A.d_Lkinds_c.fn sc_Lkinds_c rfl rfl rfl (Wn := [.sh, .sh]) ?_
  intro X E h1 h2 h3 h4 h5 G
  subst h1 h2 h3 h4 h5
  exact body_Lkinds_c A G
/-! #### _law_kinds_d -/
abbrev N_Lkinds_d : List Str := ["e", "found"]
def b_Lkinds_d : MS := (mSeq (mSet 1 (mL mNil kList))
  (mSeq (mMth "list" 1 (mCons (mL (mCons (m1 (mVar 0) (kIsX xsC txC (.own "NoFirm"))) (mCons (m1 (mVar 0) (kIsX xsC txC (.own "NoPerson"))) mNil)) kList) mNil) kExtend)
  (mSeq (mMth "list" 1 (mCons (mL (mCons (m1 (mVar 0) (kIsX xsC txC (.own "NoRule"))) (mCons (m1 (mVar 0) (kIsX xsC txC (.own "NoTie"))) mNil)) kList) mNil) kExtend)
  (mSeq (mMth "list" 1 (mCons (mL (mCons (m1 (mVar 0) (kIsX xsC txC (.own "NotFirm"))) (mCons (m1 (mVar 0) (kIsX xsC txC (.own "NotNow"))) mNil)) kList) mNil) kExtend)
  (mSeq (mMth "list" 1 (mCons (mL (mCons (m1 (mVar 0) (kIsX xsC txC (.own "NotWatched"))) (mCons (m1 (mVar 0) (kIsX xsC txC (.own "Stays"))) mNil)) kList) mNil) kExtend)
  (mSeq (mMth "list" 1 (mCons (mL (mCons (m1 (mVar 0) (kIsX xsC txC (.own "TurnsRound"))) (mCons (m1 (mVar 0) (kIsX xsC txC (.own "WouldChange"))) mNil)) kList) mNil) kExtend)
  (mRet (mVar 1))))))))
def f_Lkinds_d : MF := mFn 1 b_Lkinds_d
theorem body_Lkinds_d {X : Cx} {E : XK} (A : Wl X.K X.mg) (G : Gd X E (defScope s_Lkinds_d) N_Lkinds_d 0 true) : BX X E [] [.sh, .un] (defBody s_Lkinds_d) [.sh, .sh] (b_Lkinds_d) :=
  (bx_cons (W1 := [.sh, .ow]) (sx_new G 1 (fx_list ax_nil))
  (bx_cons (W1 := [.sh, .ow]) (sx_mth G 1 mt_ex om_extend (av_pa (av_cons (PX.v (FX.px (fx_list (ax_cons (px_isX G A.kx A.b_isinstance (px_var G 0) (nx_err G A.kx (List.mem_of_getElem? (i := 55) rfl)) (hc := cxOk_own (List.mem_of_getElem? (i := 55) rfl))) (ax_cons (px_isX G A.kx A.b_isinstance (px_var G 0) (nx_err G A.kx (List.mem_of_getElem? (i := 56) rfl)) (hc := cxOk_own (List.mem_of_getElem? (i := 56) rfl))) ax_nil))))) av_nil)))
  (bx_cons (W1 := [.sh, .ow]) (sx_mth G 1 mt_ex om_extend (av_pa (av_cons (PX.v (FX.px (fx_list (ax_cons (px_isX G A.kx A.b_isinstance (px_var G 0) (nx_err G A.kx (List.mem_of_getElem? (i := 57) rfl)) (hc := cxOk_own (List.mem_of_getElem? (i := 57) rfl))) (ax_cons (px_isX G A.kx A.b_isinstance (px_var G 0) (nx_err G A.kx (List.mem_of_getElem? (i := 58) rfl)) (hc := cxOk_own (List.mem_of_getElem? (i := 58) rfl))) ax_nil))))) av_nil)))
  (bx_cons (W1 := [.sh, .ow]) (sx_mth G 1 mt_ex om_extend (av_pa (av_cons (PX.v (FX.px (fx_list (ax_cons (px_isX G A.kx A.b_isinstance (px_var G 0) (nx_err G A.kx (List.mem_of_getElem? (i := 59) rfl)) (hc := cxOk_own (List.mem_of_getElem? (i := 59) rfl))) (ax_cons (px_isX G A.kx A.b_isinstance (px_var G 0) (nx_err G A.kx (List.mem_of_getElem? (i := 60) rfl)) (hc := cxOk_own (List.mem_of_getElem? (i := 60) rfl))) ax_nil))))) av_nil)))
  (bx_cons (W1 := [.sh, .ow]) (sx_mth G 1 mt_ex om_extend (av_pa (av_cons (PX.v (FX.px (fx_list (ax_cons (px_isX G A.kx A.b_isinstance (px_var G 0) (nx_err G A.kx (List.mem_of_getElem? (i := 61) rfl)) (hc := cxOk_own (List.mem_of_getElem? (i := 61) rfl))) (ax_cons (px_isX G A.kx A.b_isinstance (px_var G 0) (nx_err G A.kx (List.mem_of_getElem? (i := 62) rfl)) (hc := cxOk_own (List.mem_of_getElem? (i := 62) rfl))) ax_nil))))) av_nil)))
  (bx_cons (W1 := [.sh, .ow]) (sx_mth G 1 mt_ex om_extend (av_pa (av_cons (PX.v (FX.px (fx_list (ax_cons (px_isX G A.kx A.b_isinstance (px_var G 0) (nx_err G A.kx (List.mem_of_getElem? (i := 63) rfl)) (hc := cxOk_own (List.mem_of_getElem? (i := 63) rfl))) (ax_cons (px_isX G A.kx A.b_isinstance (px_var G 0) (nx_err G A.kx (List.mem_of_getElem? (i := 64) rfl)) (hc := cxOk_own (List.mem_of_getElem? (i := 64) rfl))) ax_nil))))) av_nil)))
  (bx_frz 1 (bx_one (sx_ret (px_var G 1))))))))))
theorem sc_Lkinds_d : FnScope N_Lkinds_d ["e"] (defScope s_Lkinds_d) := ⟨rfl, rfl, rfl, by decide +kernel, rfl, by decide +kernel, by decide +kernel⟩
theorem ok_Lkinds_d {P : Program} {w : World} {K : PySem.W.Frag} {mg : Str → Option Value} {base : Heap} (A : Wl K mg) : Df P w K mg base 1 "_law_kinds_d" 1 f_Lkinds_d := by
  refine A.d_Lkinds_d.fn sc_Lkinds_d rfl rfl rfl (Wn := [.sh, .sh]) ?_
  intro X E h1 h2 h3 h4 h5 G
  subst h1 h2 h3 h4 h5
  exact body_Lkinds_d A G
/-! #### _law_kinds -/
abbrev N_Lkinds : List Str := ["e"]
def b_Lkinds : MS := (mRet (m2 (m2 (m2 (mCall f_Lkinds_a (mCons (mVar 0) mNil)) (mCall f_Lkinds_b (mCons (mVar 0) mNil)) kCat) (mCall f_Lkinds_c (mCons (mVar 0) mNil)) kCat) (mCall f_Lkinds_d (mCons (mVar 0) mNil)) kCat))
def f_Lkinds : MF := mFn 0 b_Lkinds
theorem body_Lkinds {X : Cx} {E : XK} (A : Wl X.K X.mg) (G : Gd X E (defScope s_Lkinds) N_Lkinds 1 true) : BX X E [] [.sh] (defBody s_Lkinds) [.sh] (b_Lkinds) :=
  (bx_one (sx_ret (FX.px (fx_cat (PX.v (FX.px (fx_cat (PX.v (FX.px (fx_cat (PX.v (px_call G (ok_Lkinds_a A) (ax_cons (px_var G 0) ax_nil) (an_cons an_nil))) (PX.v (px_call G (ok_Lkinds_b A) (ax_cons (px_var G 0) ax_nil) (an_cons an_nil)))))) (PX.v (px_call G (ok_Lkinds_c A) (ax_cons (px_var G 0) ax_nil) (an_cons an_nil)))))) (PX.v (px_call G (ok_Lkinds_d A) (ax_cons (px_var G 0) ax_nil) (an_cons an_nil)))))))
theorem sc_Lkinds : FnScope N_Lkinds ["e"] (defScope s_Lkinds) := ⟨rfl, rfl, rfl, by decide +kernel, rfl, by decide +kernel, by decide +kernel⟩
theorem ok_Lkinds {P : Program} {w : World} {K : PySem.W.Frag} {mg : Str → Option Value} {base : Heap} (A : Wl K mg) : Df P w K mg base 2 "_law_kinds" 1 f_Lkinds := by
  refine A.d_Lkinds.fn sc_Lkinds rfl rfl rfl (Wn := [.sh]) ?_
  intro X E h1 h2 h3 h4 h5 G
  subst h1 h2 h3 h4 h5
  exact body_Lkinds A G
/-! #### _law_is_own -/
abbrev N_Lis_own : List Str := ["e", "at", "k"]
def b_Lis_own : MS := (mSeq (mIf (mOrT (mNotT (mTru (m1 (mVar 0) (kIsX xsC txC (.own "DealError"))))) (mNotT (mTru (m1 (mVar 0) (kIsX xsC txC (.bt "ValueError"))))))
  (mRet (mC (.bl false)))
  mSkip)
  (mSeq (mIf (mOrT (mTru (m1 (mVar 0) (kIsX xsC txC (.bt "LookupError")))) (mOrT (mTru (m1 (mVar 0) (kIsX xsC txC (.bt "ArithmeticError")))) (mTru (m1 (mVar 0) (kIsX xsC txC (.bt "TypeError"))))))
  (mRet (mC (.bl false)))
  mSkip)
  (mRet (m2 (mCall f_Lkinds (mCons (mVar 0) mNil)) (mComp (mRng (mCons (mC (.int 64)) mNil)) (kName 2) mYes (m2 (mVar 2) (mVar 1) kEq)) kEq))))
def f_Lis_own : MF := mFn 1 b_Lis_own
theorem body_Lis_own {X : Cx} {E : XK} (A : Wl X.K X.mg) (G : Gd X E (defScope s_Lis_own) N_Lis_own 2 true) : BX X E [] [.sh, .sh, .un] (defBody s_Lis_own) [.sh, .sh, .un] (b_Lis_own) :=
  (bx_cons (W1 := [.sh, .sh, .un]) (sx_if (tx_w (ux_or (tx_not (tx_tru (PX.v (px_isX G A.kx A.b_isinstance (px_var G 0) (nx_err G A.kx (List.mem_of_getElem? (i := 0) rfl)) (hc := cxOk_own (List.mem_of_getElem? (i := 0) rfl)))))) (ux_or1 (tx_not (tx_tru (PX.v (px_isX G A.kx A.b_isinstance (px_var G 0) (nx_bt G A.b_ValueError bt_ValueError) (hc := by decide +kernel))))))))
  (bx_one (sx_ret px_bl))
  bx_nil)
  (bx_cons (W1 := [.sh, .sh, .un]) (sx_if (tx_w (ux_or (tx_tru (PX.v (px_isX G A.kx A.b_isinstance (px_var G 0) (nx_bt G A.b_LookupError bt_LookupError) (hc := by decide +kernel)))) (ux_or (tx_tru (PX.v (px_isX G A.kx A.b_isinstance (px_var G 0) (nx_bt G A.b_ArithmeticError bt_ArithmeticError) (hc := by decide +kernel)))) (ux_or1 (tx_tru (PX.v (px_isX G A.kx A.b_isinstance (px_var G 0) (nx_bt G A.b_TypeError bt_TypeError) (hc := by decide +kernel))))))))
  (bx_one (sx_ret px_bl))
  bx_nil)
  (bx_one (sx_ret (px_eq G (PX.v (px_call G (ok_Lkinds A) (ax_cons (px_var G 0) ax_nil) (an_cons an_nil))) (PX.v (FX.px (fx_lc (T := [2]) (Wt := [.sh, .sh, .sh]) (Gd.calm G) (Gd.nd G) (IX.j (ix_rng1 G A.b_range (av_cons (PX.v px_int) av_nil))) (Gd.blkOk G (own := [("k", 2)]) rfl) (by decide) (fun _ _ _ _ _ => (gx_nm (gd_blk G) 2)) (fun _ _ _ _ _ => tx_yes) (fun _ _ _ _ _ => (px_eq (gd_blk G) (PX.v (px_var (gd_blk G) 2)) (PX.v (px_var (gd_blk G) 1))))))))))))
theorem sc_Lis_own : FnScope N_Lis_own ["e", "at"] (defScope s_Lis_own) := ⟨rfl, rfl, rfl, by decide +kernel, rfl, by decide +kernel, by decide +kernel⟩
theorem ok_Lis_own {P : Program} {w : World} {K : PySem.W.Frag} {mg : Str → Option Value} {base : Heap} (A : Wl K mg) : Df P w K mg base 3 "_law_is_own" 2 f_Lis_own := by
  refine A.d_Lis_own.fn sc_Lis_own rfl rfl rfl (Wn := [.sh, .sh, .un]) ?_
  intro X E h1 h2 h3 h4 h5 G
  subst h1 h2 h3 h4 h5
  exact body_Lis_own A G
/-! #### _law_same -/
abbrev N_Lsame : List Str := ["found", "due", "x", "y"]
def b_Lsame (rec : MF) : MS := (mSeq (mIf (mB (m2 (mVar 1) (mC .non) kIsN))
  (mRet (m2 (mVar 0) (mC .non) kIsN))
  mSkip)
  (mSeq (mIf (mTru (m1 (mVar 1) (kIsi ksC tbC [(.bt "str")])))
  (mRet (mAndV (m1 (mVar 0) (kIsi ksC tbC [(.bt "str")])) (m2 (mVar 0) (mVar 1) kEq)))
  mSkip)
  (mSeq (mIf (mTru (m1 (mVar 1) (kIsi ksC tbC [(.bt "list"), (.bt "tuple")])))
  (mSeq (mIf (mOrT (mB (m2 (m1 (mVar 0) (kIsi ksC tbC [(.bt "list")])) (m1 (mVar 1) (kIsi ksC tbC [(.bt "list")])) kNe)) (mB (m2 (m1 (mVar 0) (kIsi ksC tbC [(.bt "tuple")])) (m1 (mVar 1) (kIsi ksC tbC [(.bt "tuple")])) kNe)))
  (mRet (mC (.bl false)))
  mSkip)
  (mRet (mAndV (m2 (mL (mCons (mVar 0) mNil) kLen) (mL (mCons (mVar 1) mNil) kLen) kEq) (mL (mCons (mCompG (mZipG (mCons (mVar 0) (mCons (mVar 1) mNil))) (kTupT 2 (kCons (kName 2) (kCons (kName 3) kNil))) mYes (mCall rec (mCons (mVar 2) (mCons (mVar 3) mNil)))) mNil) kAll))))
  mSkip)
  (mSeq (mIf (mTru (m1 (mVar 1) (kIsi ksC tbC [(.bt "dict")])))
  (mRet (mAndV (m1 (mVar 0) (kIsi ksC tbC [(.bt "dict")])) (mCall rec (mCons (mLItems (mVar 0)) (mCons (mLItems (mVar 1)) mNil)))))
  mSkip)
  (mRet (mAndV (m1 (mVar 0) (kIsi ksC tbC [(.bt "int")])) (mAndV (m2 (m1 (mVar 0) (kIsi ksC tbC [(.bt "bool")])) (m1 (mVar 1) (kIsi ksC tbC [(.bt "bool")])) kEq) (m2 (mVar 0) (mVar 1) kEq))))))))
def f_Lsame : Nat → MF
  | 0 => fun _ _ => .no
  | n + 1 => mFn 2 (b_Lsame (f_Lsame n))
theorem body_Lsame {X : Cx} {E : XK} {kr k : Nat} {rec : MF} (A : Wl X.K X.mg) (G : Gd X E (defScope s_Lsame) N_Lsame k true) (R : Df X.prog X.w X.K X.mg X.base kr "_law_same" 2 rec) (hk : kr ≤ k) (hk0 : 0 ≤ k) : BX X E [] [.sh, .sh, .un, .un] (defBody s_Lsame) [.sh, .sh, .un, .un] (b_Lsame rec) :=
  (bx_cons (W1 := [.sh, .sh, .un, .un]) (sx_if (tx_isN (PX.v (px_var G 1)) (PX.v px_non))
  (bx_one (sx_ret (px_isN (PX.v (px_var G 0)) (PX.v px_non))))
  bx_nil)
  (bx_cons (W1 := [.sh, .sh, .un, .un]) (sx_if (tx_tru (PX.v (px_isi G A.ki A.b_isinstance (PX.v (px_var G 1)) (nx_bt G A.b_str bt_str))))
  (bx_one (sx_ret (px_and (px_isi G A.ki A.b_isinstance (PX.v (px_var G 0)) (nx_bt G A.b_str bt_str)) (px_one (px_eq G (PX.v (px_var G 0)) (PX.v (px_var G 1)))))))
  bx_nil)
  (bx_cons (W1 := [.sh, .sh, .un, .un]) (sx_if (tx_tru (PX.v (px_isiT G A.ki A.b_isinstance (PX.v (px_var G 1)) (nxs_cons (nx_bt G A.b_list bt_list) (nxs_cons (nx_bt G A.b_tuple bt_tuple) nxs_nil)))))
  (bx_cons (W1 := [.sh, .sh, .un, .un]) (sx_if (tx_w (ux_or (tx_ne G (PX.v (px_isi G A.ki A.b_isinstance (PX.v (px_var G 0)) (nx_bt G A.b_list bt_list))) (PX.v (px_isi G A.ki A.b_isinstance (PX.v (px_var G 1)) (nx_bt G A.b_list bt_list)))) (ux_or1 (tx_ne G (PX.v (px_isi G A.ki A.b_isinstance (PX.v (px_var G 0)) (nx_bt G A.b_tuple bt_tuple))) (PX.v (px_isi G A.ki A.b_isinstance (PX.v (px_var G 1)) (nx_bt G A.b_tuple bt_tuple)))))))
  (bx_one (sx_ret px_bl))
  bx_nil)
  (bx_one (sx_ret (px_and (px_eq G (PX.v (px_len G A.b_len (av_cons (PX.v (px_var G 0)) av_nil))) (PX.v (px_len G A.b_len (av_cons (PX.v (px_var G 1)) av_nil)))) (px_one (px_all G A.b_all (av_cons (PX.v (FX.px (fx_lcG (T := ([2] ++ ([3] ++ []))) (Wt := [.sh, .sh, .sh, .sh]) (Gd.calm G) (Gd.nd G) (jx_zipG G A.b_zip (ax_cons (px_var G 0) (ax_cons (px_var G 1) ax_nil))) (Gd.blkOk G (own := [("x", 2), ("y", 3)]) rfl) (by decide) (fun _ _ _ _ _ => (gx_tup (Gd.calm (gd_blk G)) (gxs_cons (gx_nm (gd_blk G) 2) (gxs_cons (gx_nm (gd_blk G) 3) gxs_nil)))) (fun _ _ _ _ _ => tx_yes) (fun _ _ _ _ _ => (px_call (gd_blk G) R (ax_cons (px_var (gd_blk G) 2) (ax_cons (px_var (gd_blk G) 3) ax_nil)) (an_cons (an_cons an_nil))))))) av_nil)))))))
  bx_nil)
  (bx_cons (W1 := [.sh, .sh, .un, .un]) (sx_if (tx_tru (PX.v (px_isi G A.ki A.b_isinstance (PX.v (px_var G 1)) (nx_bt G A.b_dict bt_dict))))
  (bx_one (sx_ret (px_and (px_isi G A.ki A.b_isinstance (PX.v (px_var G 0)) (nx_bt G A.b_dict bt_dict)) (px_one (px_call G R (ax_cons (FX.px (fx_lItems G A.b_list (PX.v (px_var G 0)))) (ax_cons (FX.px (fx_lItems G A.b_list (PX.v (px_var G 1)))) ax_nil)) (an_cons (an_cons an_nil)))))))
  bx_nil)
  (bx_one (sx_ret (px_and (px_isi G A.ki A.b_isinstance (PX.v (px_var G 0)) (nx_bt G A.b_int bt_int)) (px_and (px_eq G (PX.v (px_isi G A.ki A.b_isinstance (PX.v (px_var G 0)) (nx_bt G A.b_bool bt_bool))) (PX.v (px_isi G A.ki A.b_isinstance (PX.v (px_var G 1)) (nx_bt G A.b_bool bt_bool)))) (px_one (px_eq G (PX.v (px_var G 0)) (PX.v (px_var G 1))))))))))))
theorem sc_Lsame : FnScope N_Lsame ["found", "due"] (defScope s_Lsame) := ⟨rfl, rfl, rfl, by decide +kernel, rfl, by decide +kernel, by decide +kernel⟩
theorem okn_Lsame {P : Program} {w : World} {K : PySem.W.Frag} {mg : Str → Option Value} {base : Heap} (A : Wl K mg) : ∀ n, Df P w K mg base (0 + n) "_law_same" 2 (f_Lsame n)
  | 0 => A.d_Lsame.no rfl
  | n + 1 => by
    have R := okn_Lsame (P := P) (w := w) (base := base) A n
    refine A.d_Lsame.fn sc_Lsame rfl rfl rfl (Wn := [.sh, .sh, .un, .un]) ?_
    intro X E h1 h2 h3 h4 h5 G
    subst h1 h2 h3 h4 h5
    exact body_Lsame A G R (Nat.le_refl _) (Nat.le_add_right _ _)
theorem ok_Lsame {P : Program} {w : World} {K : PySem.W.Frag} {mg : Str → Option Value} {base : Heap} (A : Wl K mg) : Df P w K mg base 10 "_law_same" 2 (f_Lsame 10) := okn_Lsame A 10
/-! #### _law_are_these -/
abbrev N_Lare_these : List Str := ["found", "due"]
def b_Lare_these : MS := (mRet (mCall (f_Lsame 10) (mCons (mVar 0) (mCons (mVar 1) mNil))))
def f_Lare_these : MF := mFn 0 b_Lare_these
theorem body_Lare_these {X : Cx} {E : XK} (A : Wl X.K X.mg) (G : Gd X E (defScope s_Lare_these) N_Lare_these 10 true) : BX X E [] [.sh, .sh] (defBody s_Lare_these) [.sh, .sh] (b_Lare_these) :=
  (bx_one (sx_ret (px_call G (ok_Lsame A) (ax_cons (px_var G 0) (ax_cons (px_var G 1) ax_nil)) (an_cons (an_cons an_nil)))))
theorem sc_Lare_these : FnScope N_Lare_these ["found", "due"] (defScope s_Lare_these) := ⟨rfl, rfl, rfl, by decide +kernel, rfl, by decide +kernel, by decide +kernel⟩
theorem ok_Lare_these {P : Program} {w : World} {K : PySem.W.Frag} {mg : Str → Option Value} {base : Heap} (A : Wl K mg) : Df P w K mg base 11 "_law_are_these" 2 f_Lare_these := by
  refine A.d_Lare_these.fn sc_Lare_these rfl rfl rfl (Wn := [.sh, .sh]) ?_
  intro X E h1 h2 h3 h4 h5 G
  subst h1 h2 h3 h4 h5
  exact body_Lare_these A G
/-! #### law -/
abbrev N_law : List Str := ["script", "stream", "some", "turn", "held", "made", "base", "mine", "twin", "field", "due", "x", "y", "z", "at"]
def b_law : MS := (mSeq (mSet 1 (mHot (mCall f_Lstart (mCons (mVar 0) mNil))))
  (mSeq (mSet 2 (mL (mCons (mC .non) (mCons (mC (.int 5)) (mCons (m1 (mC (.int 1)) kNeg) (mCons (mC (.bl true)) (mCons (mC (.str "a")) (mCons (mC (.str "")) (mCons (mL (mCons (mC (.int 1)) (mCons (mC (.str "b")) mNil)) kList) (mCons (mL (mCons (mC (.int 2)) (mCons (mC .non) mNil)) kTup) (mCons (mDisp [((mC (.str "a")), (mC (.int 1)))]) (mCons (mL (mCons (mL (mCons (mC (.str "x")) mNil) kList) mNil) kList) (mCons (m2 (mC (.int 10)) (mC (.int 30)) kPow) (mCons (mL (mCons (mC (.str "s")) (mCons (mC (.int 3)) mNil)) kTup) (mCons (mC (.bl false)) (mCons (mC (.int 0)) (mCons (mC (.int 1)) mNil))))))))))))))) kList))
  (mSeq (mFor (mRng (mCons (mC (.int 2)) mNil)) (kName 3)
  (mSeq (mAsgT (kLstT 3 (kCons (kName 11) (kCons (kName 12) (kCons (kName 13) kNil)))) (mSl (mCall f_Lmixed (mCons (mVar 1) (mCons (mVar 2) mNil))) mNone (mSome (mC (.int 3))) kSl))
  (mSeq (mSet 5 (m2 (m2 (mCall f_Lmade_a (mCons (mVar 11) (mCons (mVar 12) (mCons (mVar 13) mNil)))) (mCall f_Lmade_b (mCons (mVar 11) (mCons (mVar 12) (mCons (mVar 13) mNil)))) kCat) (mCall f_Lmade_c (mCons (mVar 11) (mCons (mVar 12) (mCons (mVar 13) mNil)))) kCat))
  (mSeq (mMth "list" 5 (mCons (mCall f_Lmade_d (mCons (mVar 11) (mCons (mVar 12) (mCons (mVar 13) mNil)))) mNil) kExtend)
  (mFor (mEnum (mVar 5)) (kTupT 2 (kCons (kName 14) (kCons (kTupT 4 (kCons (kName 7) (kCons (kName 8) (kCons (kName 9) (kCons (kName 10) kNil))))) kNil)))
  (mSeq (mIf (mOrT (mNotT (mTru (mCall f_Lis_own (mCons (mVar 7) (mCons (mVar 14) mNil))))) (mNotT (mTru (mCall f_Lis_own (mCons (mVar 8) (mCons (mVar 14) mNil))))))
  (mRet (mC (.bl false)))
  mSkip)
  (mIf (mOrT (mNotT (mTru (mCall f_Lare_these (mCons (mCallL xsC fxC 9 (mVar 7)) (mCons (mVar 10) mNil))))) (mNotT (mTru (mCall f_Lare_these (mCons (mCallL xsC fxC 9 (mVar 8)) (mCons (mVar 10) mNil))))))
  (mRet (mC (.bl false)))
  mSkip)))))))
  (mSeq (mSet 4 (mHot (mL (mCons (mC (.str "v")) mNil) kList)))
  (mSeq (mSet 5 (m2 (m2 (mCall f_Lmade_a (mCons (mVar 4) (mCons (mVar 4) (mCons (mVar 4) mNil)))) (mCall f_Lmade_b (mCons (mVar 4) (mCons (mVar 4) (mCons (mVar 4) mNil)))) kCat) (mCall f_Lmade_c (mCons (mVar 4) (mCons (mVar 4) (mCons (mVar 4) mNil)))) kCat))
  (mSeq (mMth "list" 5 (mCons (mCall f_Lmade_d (mCons (mVar 4) (mCons (mVar 4) (mCons (mVar 4) mNil)))) mNil) kExtend)
  (mSeq (mExp (mHm "list" (mVar 4) (mCons (mC (.str "w")) mNil) kAppend))
  (mSeq (mFor (mIter (mVar 5)) (kTupT 4 (kCons (kName 7) (kCons (kName 8) (kCons (kName 9) (kCons (kName 10) kNil)))))
  (mIf (mOrT (mNotT (mTru (mCall f_Lare_these (mCons (mCallL xsC fxC 9 (mVar 7)) (mCons (mVar 10) mNil))))) (mNotT (mTru (mCall f_Lare_these (mCons (mCallL xsC fxC 9 (mVar 8)) (mCons (mVar 10) mNil))))))
  (mRet (mC (.bl false)))
  mSkip))
  (mSeq (mSet 6 (mC (.exc "DealError" [])))
  (mRet (mAndV (m1 (mVar 6) (kIsX xsC txC (.bt "ValueError"))) (m2 (mC (.bl true)) (mCall f_Lkinds (mCons (mVar 6) mNil)) kNotIn))))))))))))
def f_law : MF := mDrop (mFn 14 b_law)
theorem body_law {X : Cx} {E : XK} (A : Wl X.K X.mg) (G : Gd X E (defScope s_law) N_law 11 true) (l : Lds X.K X.mg X.base) : BX X E [] [.sh, .un, .un, .un, .un, .un, .un, .un, .un, .un, .un, .un, .un, .un, .un] (defBody s_law) [.sh, .sh, .sh, .un, .sh, .sh, .sh, .un, .un, .un, .un, .un, .un, .un, .un] (b_law) :=
  (bx_cons (W1 := [.sh, .sh, .un, .un, .un, .un, .un, .un, .un, .un, .un, .un, .un, .un, .un]) (sx_let G 1 (FX.hot (fx_call G (ok_Lstart A) (ax_cons (px_var G 0) ax_nil) (an_cons an_nil))))
  (bx_cons (W1 := [.sh, .sh, .sh, .un, .un, .un, .un, .un, .un, .un, .un, .un, .un, .un, .un]) (sx_let G 2 (FX.px (fx_list (ax_cons px_non (ax_cons px_int (ax_cons (px_neg (PX.v px_int)) (ax_cons px_bl (ax_cons px_str (ax_cons px_str (ax_cons (FX.px (fx_list (ax_cons px_int (ax_cons px_str ax_nil)))) (ax_cons (px_tup (ax_cons px_int (ax_cons px_non ax_nil))) (ax_cons (FX.px (fx_disp (DX.cons px_str px_int DX.nil))) (ax_cons (FX.px (fx_list (ax_cons (FX.px (fx_list (ax_cons px_str ax_nil))) ax_nil))) (ax_cons (px_pow (PX.v px_int) (PX.v px_int)) (ax_cons (px_tup (ax_cons px_str (ax_cons px_int ax_nil))) (ax_cons px_bl (ax_cons px_int (ax_cons px_int ax_nil))))))))))))))))))
  (bx_cons (W1 := [.sh, .sh, .sh, .un, .un, .un, .un, .un, .un, .un, .un, .un, .un, .un, .un]) (sx_for (Wt := [.sh, .sh, .sh, .sh, .un, .un, .un, .un, .un, .un, .un, .un, .un, .un, .un]) (Gd.own G) (Gd.calm G) (ix_rng1 G A.b_range (av_cons (PX.v px_int) av_nil)) (gx_nm G 3)
  (bx_cons (W1 := [.sh, .sh, .sh, .sh, .un, .un, .un, .un, .un, .un, .un, .sh, .sh, .sh, .un]) (sx_asgT (FX.px (fx_sl (PX.v (px_call G (ok_Lmixed A) (ax_cons (px_var G 1) (ax_cons (px_var G 2) ax_nil)) (an_cons (an_cons an_nil)))) ox_none (ox_some (PX.v px_int)))) (gx_lst (Gd.calm G) (gxs_cons (gx_nm G 11) (gxs_cons (gx_nm G 12) (gxs_cons (gx_nm G 13) gxs_nil)))))
  (bx_cons (W1 := [.sh, .sh, .sh, .sh, .un, .ow, .un, .un, .un, .un, .un, .sh, .sh, .sh, .un]) (sx_new G 5 (fx_cat (PX.v (FX.px (fx_cat (PX.v (px_call G (ok_Lmade_a A l) (ax_cons (px_var G 11) (ax_cons (px_var G 12) (ax_cons (px_var G 13) ax_nil))) (an_cons (an_cons (an_cons an_nil))))) (PX.v (px_call G (ok_Lmade_b A l) (ax_cons (px_var G 11) (ax_cons (px_var G 12) (ax_cons (px_var G 13) ax_nil))) (an_cons (an_cons (an_cons an_nil)))))))) (PX.v (px_call G (ok_Lmade_c A l) (ax_cons (px_var G 11) (ax_cons (px_var G 12) (ax_cons (px_var G 13) ax_nil))) (an_cons (an_cons (an_cons an_nil)))))))
  (bx_cons (W1 := [.sh, .sh, .sh, .sh, .un, .ow, .un, .un, .un, .un, .un, .sh, .sh, .sh, .un]) (sx_mth G 5 mt_ex om_extend (av_pa (av_cons (PX.v (px_call G (ok_Lmade_d A l) (ax_cons (px_var G 11) (ax_cons (px_var G 12) (ax_cons (px_var G 13) ax_nil))) (an_cons (an_cons (an_cons an_nil))))) av_nil)))
  (bx_frz 5 (bx_one (sx_for (Wt := [.sh, .sh, .sh, .sh, .un, .sh, .un, .sh, .sh, .sh, .sh, .sh, .sh, .sh, .sh]) (Gd.own G) (Gd.calm G) (ix_enum G A.b_enumerate (px_var G 5)) (gx_tup (Gd.calm G) (gxs_cons (gx_nm G 14) (gxs_cons (gx_tup (Gd.calm G) (gxs_cons (gx_nm G 7) (gxs_cons (gx_nm G 8) (gxs_cons (gx_nm G 9) (gxs_cons (gx_nm G 10) gxs_nil))))) gxs_nil)))
  (bx_cons (W1 := [.sh, .sh, .sh, .sh, .un, .sh, .un, .sh, .sh, .sh, .sh, .sh, .sh, .sh, .sh]) (sx_if (tx_w (ux_or (tx_not (tx_tru (PX.v (px_call G (ok_Lis_own A) (ax_cons (px_var G 7) (ax_cons (px_var G 14) ax_nil)) (an_cons (an_cons an_nil)))))) (ux_or1 (tx_not (tx_tru (PX.v (px_call G (ok_Lis_own A) (ax_cons (px_var G 8) (ax_cons (px_var G 14) ax_nil)) (an_cons (an_cons an_nil)))))))))
  (bx_one (sx_ret px_bl))
  bx_nil)
  (bx_one (sx_if (tx_w (ux_or (tx_not (tx_tru (PX.v (px_call G (ok_Lare_these A) (ax_cons (FX.px (fx_callL G A.kx 9 (px_var G 7))) (ax_cons (px_var G 10) ax_nil)) (an_cons (an_cons an_nil)))))) (ux_or1 (tx_not (tx_tru (PX.v (px_call G (ok_Lare_these A) (ax_cons (FX.px (fx_callL G A.kx 9 (px_var G 8))) (ax_cons (px_var G 10) ax_nil)) (an_cons (an_cons an_nil)))))))))
  (bx_one (sx_ret px_bl))
  bx_nil))))))))))
  (bx_cons (W1 := [.sh, .sh, .sh, .un, .sh, .un, .un, .un, .un, .un, .un, .un, .un, .un, .un]) (sx_let G 4 (FX.hot (fx_list (ax_cons px_str ax_nil))))
  (bx_cons (W1 := [.sh, .sh, .sh, .un, .sh, .ow, .un, .un, .un, .un, .un, .un, .un, .un, .un]) (sx_new G 5 (fx_cat (PX.v (FX.px (fx_cat (PX.v (px_call G (ok_Lmade_a A l) (ax_cons (px_var G 4) (ax_cons (px_var G 4) (ax_cons (px_var G 4) ax_nil))) (an_cons (an_cons (an_cons an_nil))))) (PX.v (px_call G (ok_Lmade_b A l) (ax_cons (px_var G 4) (ax_cons (px_var G 4) (ax_cons (px_var G 4) ax_nil))) (an_cons (an_cons (an_cons an_nil)))))))) (PX.v (px_call G (ok_Lmade_c A l) (ax_cons (px_var G 4) (ax_cons (px_var G 4) (ax_cons (px_var G 4) ax_nil))) (an_cons (an_cons (an_cons an_nil)))))))
  (bx_cons (W1 := [.sh, .sh, .sh, .un, .sh, .ow, .un, .un, .un, .un, .un, .un, .un, .un, .un]) (sx_mth G 5 mt_ex om_extend (av_pa (av_cons (PX.v (px_call G (ok_Lmade_d A l) (ax_cons (px_var G 4) (ax_cons (px_var G 4) (ax_cons (px_var G 4) ax_nil))) (an_cons (an_cons (an_cons an_nil))))) av_nil)))
  (bx_cons (W1 := [.sh, .sh, .sh, .un, .sh, .ow, .un, .un, .un, .un, .un, .un, .un, .un, .un]) (sx_expr (px_hm mt_ap om_append (px_var G 4) (ax_pa (ax_cons px_str ax_nil))))
  (bx_frz 5 (bx_cons (W1 := [.sh, .sh, .sh, .un, .sh, .sh, .un, .un, .un, .un, .un, .un, .un, .un, .un]) (sx_for (Wt := [.sh, .sh, .sh, .un, .sh, .sh, .un, .sh, .sh, .sh, .sh, .un, .un, .un, .un]) (Gd.own G) (Gd.calm G) (ix_val (px_var G 5)) (gx_tup (Gd.calm G) (gxs_cons (gx_nm G 7) (gxs_cons (gx_nm G 8) (gxs_cons (gx_nm G 9) (gxs_cons (gx_nm G 10) gxs_nil)))))
  (bx_one (sx_if (tx_w (ux_or (tx_not (tx_tru (PX.v (px_call G (ok_Lare_these A) (ax_cons (FX.px (fx_callL G A.kx 9 (px_var G 7))) (ax_cons (px_var G 10) ax_nil)) (an_cons (an_cons an_nil)))))) (ux_or1 (tx_not (tx_tru (PX.v (px_call G (ok_Lare_these A) (ax_cons (FX.px (fx_callL G A.kx 9 (px_var G 8))) (ax_cons (px_var G 10) ax_nil)) (an_cons (an_cons an_nil)))))))))
  (bx_one (sx_ret px_bl))
  bx_nil)))
  (bx_cons (W1 := [.sh, .sh, .sh, .un, .sh, .sh, .sh, .un, .un, .un, .un, .un, .un, .un, .un]) (sx_let G 6 (px_exc0 G A.ev0_DealError))
  (bx_one (sx_ret (px_and (px_isX G A.kx A.b_isinstance (px_var G 6) (nx_bt G A.b_ValueError bt_ValueError) (hc := by decide +kernel)) (px_one (px_notin G (PX.v px_bl) (PX.v (px_call G (ok_Lkinds A) (ax_cons (px_var G 6) ax_nil) (an_cons an_nil))))))))))))))))))
theorem sc_law : FnScope N_law ["script"] (defScope s_law) := ⟨rfl, rfl, rfl, by decide +kernel, rfl, by decide +kernel, by decide +kernel⟩
theorem ok_law {P : Program} {w : World} {K : PySem.W.Frag} {mg : Str → Option Value} {base : Heap} (A : Wl K mg) (l : Lds K mg base) : Df P w K mg base 12 "law" 1 f_law := by
  refine A.d_law.fnD sc_law rfl rfl rfl (Wn := [.sh, .sh, .sh, .un, .sh, .sh, .sh, .un, .un, .un, .un, .un, .un, .un, .un]) ?_
  intro X E h1 h2 h3 h4 h5 G
  subst h1 h2 h3 h4 h5
  exact body_law A G l
end TL
end

section
set_option maxHeartbeats 16000000
set_option Elab.async false
set_option linter.all false
set_option autoImplicit false
set_option maxRecDepth 100000
namespace TL
open PySem PySem.Spec PyProof.Rows L2 He
variable [TabL]
theorem exC_at {K : PySem.W.Frag} (e : exC K = true) (i : Nat) {b : Bool} (h : [kiB K ksC tbC, kfB K fsC, kxB K xsC bsC fxC btC "DealError", ev0B K "DealError", eviB K "AsksOn" ["many"], eviB K "BadAllotment" ["thing"], eviB K "BadAsk" ["thing"], eviB K "BadAsker" ["thing"], eviB K "BadBounds" ["thing"], eviB K "BadCrossing" ["thing"], eviB K "BadDealing" ["thing"], eviB K "BadDeed" ["thing"], eviB K "BadDepth" ["thing"], eviB K "BadDraw" ["thing"], eviB K "BadForm" ["thing"], eviB K "BadGivers" ["index"], eviB K "BadGoods" ["index"], eviB K "BadHouses" ["thing"], eviB K "BadKind" ["thing"], eviB K "BadKnown" ["thing"], eviB K "BadLetting" ["thing"], eviB K "BadLies" ["thing"], eviB K "BadLot" ["index"], eviB K "BadLots" ["thing"], eviB K "BadLottery" ["fault"], eviB K "BadMarket" ["thing"], eviB K "BadName" ["thing"], eviB K "BadNeeds" ["index"], eviB K "BadNotice" ["thing"], eviB K "BadNumber" ["thing"], eviB K "BadOrder" ["index"], eviB K "BadPairing" ["thing"], eviB K "BadPairings" ["index"], eviB K "BadPaper" ["thing"], eviB K "BadPapers" ["index"], eviB K "BadPeople" ["index"], eviB K "BadPlace" ["thing"], eviB K "BadQuestion" ["thing"], eviB K "BadRanks" ["thing"], eviB K "BadResult" ["thing"], eviB K "BadRing" ["thing"], eviB K "BadRow" ["index"], eviB K "BadRule" ["thing"], eviB K "BadSession" ["thing"], eviB K "BadSides" ["thing"], eviB K "BadSteps" ["thing"], eviB K "BadStock" ["thing"], eviB K "BadTable" ["fault"], eviB K "BadText" ["line", "sign"], eviB K "BadThings" ["thing"], eviB K "BadTown" ["thing"], eviB K "BadWish" ["thing"], eviB K "BadWishes" ["thing"], eviB K "HasTie" ["one", "other"], eviB K "InUse" ["question"], eviB K "IsWatched" ["question"], eviB K "NoBetterRow" ["thing"], eviB K "NoCount" ["thing"], eviB K "NoFirm" ["ring"], eviB K "NoPerson" ["thing"], eviB K "NoRule" ["thing"], eviB K "NoTie" ["one", "other"], eviB K "NotFirm" ["pairing"], eviB K "NotNow" ["why"], eviB K "NotWatched" ["question"], eviB K "Stays" ["one", "other"], eviB K "TurnsRound" ["person", "ring"], eviB K "WouldChange" ["question", "why"], tabNd K lamNs][i]? = some b := by rfl) : b = true := by
  unfold exC at e
  rw [List.all_eq_true] at e
  exact e b (List.mem_of_getElem? h)
theorem wl_ok {K : PySem.W.Frag} {mg : Str → Option Value} {h : Heap} (X : K.In h) (G : h.Ns mainGlobals mg) (s : He.SaysD faC fnC K) (e : exC K = true) : Wl K mg where
  b_ArithmeticError := free_ok X G (s.facts (List.mem_of_getElem? (i := 0) rfl))
  b_LookupError := free_ok X G (s.facts (List.mem_of_getElem? (i := 1) rfl))
  b_TypeError := free_ok X G (s.facts (List.mem_of_getElem? (i := 2) rfl))
  b_ValueError := free_ok X G (s.facts (List.mem_of_getElem? (i := 3) rfl))
  b_all := free_ok X G (s.facts (List.mem_of_getElem? (i := 4) rfl))
  b_any := free_ok X G (s.facts (List.mem_of_getElem? (i := 5) rfl))
  b_bool := free_ok X G (s.facts (List.mem_of_getElem? (i := 6) rfl))
  b_dict := free_ok X G (s.facts (List.mem_of_getElem? (i := 7) rfl))
  b_enumerate := free_ok X G (s.facts (List.mem_of_getElem? (i := 8) rfl))
  b_int := free_ok X G (s.facts (List.mem_of_getElem? (i := 9) rfl))
  b_isinstance := free_ok X G (s.facts (List.mem_of_getElem? (i := 10) rfl))
  b_len := free_ok X G (s.facts (List.mem_of_getElem? (i := 11) rfl))
  b_list := free_ok X G (s.facts (List.mem_of_getElem? (i := 12) rfl))
  b_min := free_ok X G (s.facts (List.mem_of_getElem? (i := 13) rfl))
  b_range := free_ok X G (s.facts (List.mem_of_getElem? (i := 14) rfl))
  b_sorted := free_ok X G (s.facts (List.mem_of_getElem? (i := 15) rfl))
  b_str := free_ok X G (s.facts (List.mem_of_getElem? (i := 16) rfl))
  b_tuple := free_ok X G (s.facts (List.mem_of_getElem? (i := 17) rfl))
  b_zip := free_ok X G (s.facts (List.mem_of_getElem? (i := 18) rfl))
  ki := ki_ok X G s (ks := ksC) (tb := tbC) (fun c hc => absurd hc (by simp [ksC])) (exC_at e 0)
  kf := kf_ok X G s (fs := fsC) (fun c hc => absurd hc (by simp [fsC])) (exC_at e 1)
  d_Ldraw := dd_ok X G s (List.mem_of_getElem? (i := 0) rfl) (List.mem_of_getElem? (i := 19) rfl) (fun _ _ _ _ _ _ us hl => match us, hl with | [_, _], _ => rfl)
  d_Lmixed := dd_ok X G s (List.mem_of_getElem? (i := 1) rfl) (List.mem_of_getElem? (i := 20) rfl) (fun _ _ _ _ _ _ us hl => match us, hl with | [_, _], _ => rfl)
  d_Lstart := dd_ok X G s (List.mem_of_getElem? (i := 2) rfl) (List.mem_of_getElem? (i := 21) rfl) (fun _ _ _ _ _ _ us hl => match us, hl with | [_], _ => rfl)
  d_Lmade_a := dd_ok X G s (List.mem_of_getElem? (i := 3) rfl) (List.mem_of_getElem? (i := 22) rfl) (fun _ _ _ _ _ _ us hl => match us, hl with | [_, _, _], _ => rfl)
  d_Lmade_b := dd_ok X G s (List.mem_of_getElem? (i := 4) rfl) (List.mem_of_getElem? (i := 23) rfl) (fun _ _ _ _ _ _ us hl => match us, hl with | [_, _, _], _ => rfl)
  d_Lmade_c := dd_ok X G s (List.mem_of_getElem? (i := 5) rfl) (List.mem_of_getElem? (i := 24) rfl) (fun _ _ _ _ _ _ us hl => match us, hl with | [_, _, _], _ => rfl)
  d_Lmade_d := dd_ok X G s (List.mem_of_getElem? (i := 6) rfl) (List.mem_of_getElem? (i := 25) rfl) (fun _ _ _ _ _ _ us hl => match us, hl with | [_, _, _], _ => rfl)
  d_Lkinds_a := dd_ok X G s (List.mem_of_getElem? (i := 7) rfl) (List.mem_of_getElem? (i := 26) rfl) (fun _ _ _ _ _ _ us hl => match us, hl with | [_], _ => rfl)
  d_Lkinds_b := dd_ok X G s (List.mem_of_getElem? (i := 8) rfl) (List.mem_of_getElem? (i := 27) rfl) (fun _ _ _ _ _ _ us hl => match us, hl with | [_], _ => rfl)
  d_Lkinds_c := dd_ok X G s (List.mem_of_getElem? (i := 9) rfl) (List.mem_of_getElem? (i := 28) rfl) (fun _ _ _ _ _ _ us hl => match us, hl with | [_], _ => rfl)
  d_Lkinds_d := dd_ok X G s (List.mem_of_getElem? (i := 10) rfl) (List.mem_of_getElem? (i := 29) rfl) (fun _ _ _ _ _ _ us hl => match us, hl with | [_], _ => rfl)
  d_Lkinds := dd_ok X G s (List.mem_of_getElem? (i := 11) rfl) (List.mem_of_getElem? (i := 30) rfl) (fun _ _ _ _ _ _ us hl => match us, hl with | [_], _ => rfl)
  d_Lis_own := dd_ok X G s (List.mem_of_getElem? (i := 12) rfl) (List.mem_of_getElem? (i := 31) rfl) (fun _ _ _ _ _ _ us hl => match us, hl with | [_, _], _ => rfl)
  d_Lsame := dd_ok X G s (List.mem_of_getElem? (i := 13) rfl) (List.mem_of_getElem? (i := 32) rfl) (fun _ _ _ _ _ _ us hl => match us, hl with | [_, _], _ => rfl)
  d_Lare_these := dd_ok X G s (List.mem_of_getElem? (i := 14) rfl) (List.mem_of_getElem? (i := 33) rfl) (fun _ _ _ _ _ _ us hl => match us, hl with | [_, _], _ => rfl)
  d_law := dd_ok X G s (List.mem_of_getElem? (i := 15) rfl) (List.mem_of_getElem? (i := 34) rfl) (fun _ _ _ _ _ _ us hl => match us, hl with | [_], _ => rfl)
  kx := kx_ok X G s (by decide +kernel) (fun c hc => List.mem_append_right _ (List.mem_map_of_mem hc)) (exC_at e 2)
  ev0_DealError := ev0_ok X G s (List.mem_of_getElem? (i := 35) rfl) (exC_at e 3)
  v_AsksOn := evi_ok X G s (List.mem_of_getElem? (i := 16) rfl) (List.mem_of_getElem? (i := 36) rfl) (exC_at e 4) (fun _ _ _ _ _ _ us hl => match us, hl with | [_, _], _ => rfl)
  v_BadAllotment := evi_ok X G s (List.mem_of_getElem? (i := 17) rfl) (List.mem_of_getElem? (i := 37) rfl) (exC_at e 5) (fun _ _ _ _ _ _ us hl => match us, hl with | [_, _], _ => rfl)
  v_BadAsk := evi_ok X G s (List.mem_of_getElem? (i := 18) rfl) (List.mem_of_getElem? (i := 38) rfl) (exC_at e 6) (fun _ _ _ _ _ _ us hl => match us, hl with | [_, _], _ => rfl)
  v_BadAsker := evi_ok X G s (List.mem_of_getElem? (i := 19) rfl) (List.mem_of_getElem? (i := 39) rfl) (exC_at e 7) (fun _ _ _ _ _ _ us hl => match us, hl with | [_, _], _ => rfl)
  v_BadBounds := evi_ok X G s (List.mem_of_getElem? (i := 20) rfl) (List.mem_of_getElem? (i := 40) rfl) (exC_at e 8) (fun _ _ _ _ _ _ us hl => match us, hl with | [_, _], _ => rfl)
  v_BadCrossing := evi_ok X G s (List.mem_of_getElem? (i := 21) rfl) (List.mem_of_getElem? (i := 41) rfl) (exC_at e 9) (fun _ _ _ _ _ _ us hl => match us, hl with | [_, _], _ => rfl)
  v_BadDealing := evi_ok X G s (List.mem_of_getElem? (i := 22) rfl) (List.mem_of_getElem? (i := 42) rfl) (exC_at e 10) (fun _ _ _ _ _ _ us hl => match us, hl with | [_, _], _ => rfl)
  v_BadDeed := evi_ok X G s (List.mem_of_getElem? (i := 23) rfl) (List.mem_of_getElem? (i := 43) rfl) (exC_at e 11) (fun _ _ _ _ _ _ us hl => match us, hl with | [_, _], _ => rfl)
  v_BadDepth := evi_ok X G s (List.mem_of_getElem? (i := 24) rfl) (List.mem_of_getElem? (i := 44) rfl) (exC_at e 12) (fun _ _ _ _ _ _ us hl => match us, hl with | [_, _], _ => rfl)
  v_BadDraw := evi_ok X G s (List.mem_of_getElem? (i := 25) rfl) (List.mem_of_getElem? (i := 45) rfl) (exC_at e 13) (fun _ _ _ _ _ _ us hl => match us, hl with | [_, _], _ => rfl)
  v_BadForm := evi_ok X G s (List.mem_of_getElem? (i := 26) rfl) (List.mem_of_getElem? (i := 46) rfl) (exC_at e 14) (fun _ _ _ _ _ _ us hl => match us, hl with | [_, _], _ => rfl)
  v_BadGivers := evi_ok X G s (List.mem_of_getElem? (i := 27) rfl) (List.mem_of_getElem? (i := 47) rfl) (exC_at e 15) (fun _ _ _ _ _ _ us hl => match us, hl with | [_, _], _ => rfl)
  v_BadGoods := evi_ok X G s (List.mem_of_getElem? (i := 28) rfl) (List.mem_of_getElem? (i := 48) rfl) (exC_at e 16) (fun _ _ _ _ _ _ us hl => match us, hl with | [_, _], _ => rfl)
  v_BadHouses := evi_ok X G s (List.mem_of_getElem? (i := 29) rfl) (List.mem_of_getElem? (i := 49) rfl) (exC_at e 17) (fun _ _ _ _ _ _ us hl => match us, hl with | [_, _], _ => rfl)
  v_BadKind := evi_ok X G s (List.mem_of_getElem? (i := 30) rfl) (List.mem_of_getElem? (i := 50) rfl) (exC_at e 18) (fun _ _ _ _ _ _ us hl => match us, hl with | [_, _], _ => rfl)
  v_BadKnown := evi_ok X G s (List.mem_of_getElem? (i := 31) rfl) (List.mem_of_getElem? (i := 51) rfl) (exC_at e 19) (fun _ _ _ _ _ _ us hl => match us, hl with | [_, _], _ => rfl)
  v_BadLetting := evi_ok X G s (List.mem_of_getElem? (i := 32) rfl) (List.mem_of_getElem? (i := 52) rfl) (exC_at e 20) (fun _ _ _ _ _ _ us hl => match us, hl with | [_, _], _ => rfl)
  v_BadLies := evi_ok X G s (List.mem_of_getElem? (i := 33) rfl) (List.mem_of_getElem? (i := 53) rfl) (exC_at e 21) (fun _ _ _ _ _ _ us hl => match us, hl with | [_, _], _ => rfl)
  v_BadLot := evi_ok X G s (List.mem_of_getElem? (i := 34) rfl) (List.mem_of_getElem? (i := 54) rfl) (exC_at e 22) (fun _ _ _ _ _ _ us hl => match us, hl with | [_, _], _ => rfl)
  v_BadLots := evi_ok X G s (List.mem_of_getElem? (i := 35) rfl) (List.mem_of_getElem? (i := 55) rfl) (exC_at e 23) (fun _ _ _ _ _ _ us hl => match us, hl with | [_, _], _ => rfl)
  v_BadLottery := evi_ok X G s (List.mem_of_getElem? (i := 36) rfl) (List.mem_of_getElem? (i := 56) rfl) (exC_at e 24) (fun _ _ _ _ _ _ us hl => match us, hl with | [_, _], _ => rfl)
  v_BadMarket := evi_ok X G s (List.mem_of_getElem? (i := 37) rfl) (List.mem_of_getElem? (i := 57) rfl) (exC_at e 25) (fun _ _ _ _ _ _ us hl => match us, hl with | [_, _], _ => rfl)
  v_BadName := evi_ok X G s (List.mem_of_getElem? (i := 38) rfl) (List.mem_of_getElem? (i := 58) rfl) (exC_at e 26) (fun _ _ _ _ _ _ us hl => match us, hl with | [_, _], _ => rfl)
  v_BadNeeds := evi_ok X G s (List.mem_of_getElem? (i := 39) rfl) (List.mem_of_getElem? (i := 59) rfl) (exC_at e 27) (fun _ _ _ _ _ _ us hl => match us, hl with | [_, _], _ => rfl)
  v_BadNotice := evi_ok X G s (List.mem_of_getElem? (i := 40) rfl) (List.mem_of_getElem? (i := 60) rfl) (exC_at e 28) (fun _ _ _ _ _ _ us hl => match us, hl with | [_, _], _ => rfl)
  v_BadNumber := evi_ok X G s (List.mem_of_getElem? (i := 41) rfl) (List.mem_of_getElem? (i := 61) rfl) (exC_at e 29) (fun _ _ _ _ _ _ us hl => match us, hl with | [_, _], _ => rfl)
  v_BadOrder := evi_ok X G s (List.mem_of_getElem? (i := 42) rfl) (List.mem_of_getElem? (i := 62) rfl) (exC_at e 30) (fun _ _ _ _ _ _ us hl => match us, hl with | [_, _], _ => rfl)
  v_BadPairing := evi_ok X G s (List.mem_of_getElem? (i := 43) rfl) (List.mem_of_getElem? (i := 63) rfl) (exC_at e 31) (fun _ _ _ _ _ _ us hl => match us, hl with | [_, _], _ => rfl)
  v_BadPairings := evi_ok X G s (List.mem_of_getElem? (i := 44) rfl) (List.mem_of_getElem? (i := 64) rfl) (exC_at e 32) (fun _ _ _ _ _ _ us hl => match us, hl with | [_, _], _ => rfl)
  v_BadPaper := evi_ok X G s (List.mem_of_getElem? (i := 45) rfl) (List.mem_of_getElem? (i := 65) rfl) (exC_at e 33) (fun _ _ _ _ _ _ us hl => match us, hl with | [_, _], _ => rfl)
  v_BadPapers := evi_ok X G s (List.mem_of_getElem? (i := 46) rfl) (List.mem_of_getElem? (i := 66) rfl) (exC_at e 34) (fun _ _ _ _ _ _ us hl => match us, hl with | [_, _], _ => rfl)
  v_BadPeople := evi_ok X G s (List.mem_of_getElem? (i := 47) rfl) (List.mem_of_getElem? (i := 67) rfl) (exC_at e 35) (fun _ _ _ _ _ _ us hl => match us, hl with | [_, _], _ => rfl)
  v_BadPlace := evi_ok X G s (List.mem_of_getElem? (i := 48) rfl) (List.mem_of_getElem? (i := 68) rfl) (exC_at e 36) (fun _ _ _ _ _ _ us hl => match us, hl with | [_, _], _ => rfl)
  v_BadQuestion := evi_ok X G s (List.mem_of_getElem? (i := 49) rfl) (List.mem_of_getElem? (i := 69) rfl) (exC_at e 37) (fun _ _ _ _ _ _ us hl => match us, hl with | [_, _], _ => rfl)
  v_BadRanks := evi_ok X G s (List.mem_of_getElem? (i := 50) rfl) (List.mem_of_getElem? (i := 70) rfl) (exC_at e 38) (fun _ _ _ _ _ _ us hl => match us, hl with | [_, _], _ => rfl)
  v_BadResult := evi_ok X G s (List.mem_of_getElem? (i := 51) rfl) (List.mem_of_getElem? (i := 71) rfl) (exC_at e 39) (fun _ _ _ _ _ _ us hl => match us, hl with | [_, _], _ => rfl)
  v_BadRing := evi_ok X G s (List.mem_of_getElem? (i := 52) rfl) (List.mem_of_getElem? (i := 72) rfl) (exC_at e 40) (fun _ _ _ _ _ _ us hl => match us, hl with | [_, _], _ => rfl)
  v_BadRow := evi_ok X G s (List.mem_of_getElem? (i := 53) rfl) (List.mem_of_getElem? (i := 73) rfl) (exC_at e 41) (fun _ _ _ _ _ _ us hl => match us, hl with | [_, _], _ => rfl)
  v_BadRule := evi_ok X G s (List.mem_of_getElem? (i := 54) rfl) (List.mem_of_getElem? (i := 74) rfl) (exC_at e 42) (fun _ _ _ _ _ _ us hl => match us, hl with | [_, _], _ => rfl)
  v_BadSession := evi_ok X G s (List.mem_of_getElem? (i := 55) rfl) (List.mem_of_getElem? (i := 75) rfl) (exC_at e 43) (fun _ _ _ _ _ _ us hl => match us, hl with | [_, _], _ => rfl)
  v_BadSides := evi_ok X G s (List.mem_of_getElem? (i := 56) rfl) (List.mem_of_getElem? (i := 76) rfl) (exC_at e 44) (fun _ _ _ _ _ _ us hl => match us, hl with | [_, _], _ => rfl)
  v_BadSteps := evi_ok X G s (List.mem_of_getElem? (i := 57) rfl) (List.mem_of_getElem? (i := 77) rfl) (exC_at e 45) (fun _ _ _ _ _ _ us hl => match us, hl with | [_, _], _ => rfl)
  v_BadStock := evi_ok X G s (List.mem_of_getElem? (i := 58) rfl) (List.mem_of_getElem? (i := 78) rfl) (exC_at e 46) (fun _ _ _ _ _ _ us hl => match us, hl with | [_, _], _ => rfl)
  v_BadTable := evi_ok X G s (List.mem_of_getElem? (i := 59) rfl) (List.mem_of_getElem? (i := 79) rfl) (exC_at e 47) (fun _ _ _ _ _ _ us hl => match us, hl with | [_, _], _ => rfl)
  v_BadText := evi_ok X G s (List.mem_of_getElem? (i := 60) rfl) (List.mem_of_getElem? (i := 80) rfl) (exC_at e 48) (fun _ _ _ _ _ _ us hl => match us, hl with | [_, _, _], _ => rfl)
  v_BadThings := evi_ok X G s (List.mem_of_getElem? (i := 61) rfl) (List.mem_of_getElem? (i := 81) rfl) (exC_at e 49) (fun _ _ _ _ _ _ us hl => match us, hl with | [_, _], _ => rfl)
  v_BadTown := evi_ok X G s (List.mem_of_getElem? (i := 62) rfl) (List.mem_of_getElem? (i := 82) rfl) (exC_at e 50) (fun _ _ _ _ _ _ us hl => match us, hl with | [_, _], _ => rfl)
  v_BadWish := evi_ok X G s (List.mem_of_getElem? (i := 63) rfl) (List.mem_of_getElem? (i := 83) rfl) (exC_at e 51) (fun _ _ _ _ _ _ us hl => match us, hl with | [_, _], _ => rfl)
  v_BadWishes := evi_ok X G s (List.mem_of_getElem? (i := 64) rfl) (List.mem_of_getElem? (i := 84) rfl) (exC_at e 52) (fun _ _ _ _ _ _ us hl => match us, hl with | [_, _], _ => rfl)
  v_HasTie := evi_ok X G s (List.mem_of_getElem? (i := 65) rfl) (List.mem_of_getElem? (i := 85) rfl) (exC_at e 53) (fun _ _ _ _ _ _ us hl => match us, hl with | [_, _, _], _ => rfl)
  v_InUse := evi_ok X G s (List.mem_of_getElem? (i := 66) rfl) (List.mem_of_getElem? (i := 86) rfl) (exC_at e 54) (fun _ _ _ _ _ _ us hl => match us, hl with | [_, _], _ => rfl)
  v_IsWatched := evi_ok X G s (List.mem_of_getElem? (i := 67) rfl) (List.mem_of_getElem? (i := 87) rfl) (exC_at e 55) (fun _ _ _ _ _ _ us hl => match us, hl with | [_, _], _ => rfl)
  v_NoBetterRow := evi_ok X G s (List.mem_of_getElem? (i := 68) rfl) (List.mem_of_getElem? (i := 88) rfl) (exC_at e 56) (fun _ _ _ _ _ _ us hl => match us, hl with | [_, _], _ => rfl)
  v_NoCount := evi_ok X G s (List.mem_of_getElem? (i := 69) rfl) (List.mem_of_getElem? (i := 89) rfl) (exC_at e 57) (fun _ _ _ _ _ _ us hl => match us, hl with | [_, _], _ => rfl)
  v_NoFirm := evi_ok X G s (List.mem_of_getElem? (i := 70) rfl) (List.mem_of_getElem? (i := 90) rfl) (exC_at e 58) (fun _ _ _ _ _ _ us hl => match us, hl with | [_, _], _ => rfl)
  v_NoPerson := evi_ok X G s (List.mem_of_getElem? (i := 71) rfl) (List.mem_of_getElem? (i := 91) rfl) (exC_at e 59) (fun _ _ _ _ _ _ us hl => match us, hl with | [_, _], _ => rfl)
  v_NoRule := evi_ok X G s (List.mem_of_getElem? (i := 72) rfl) (List.mem_of_getElem? (i := 92) rfl) (exC_at e 60) (fun _ _ _ _ _ _ us hl => match us, hl with | [_, _], _ => rfl)
  v_NoTie := evi_ok X G s (List.mem_of_getElem? (i := 73) rfl) (List.mem_of_getElem? (i := 93) rfl) (exC_at e 61) (fun _ _ _ _ _ _ us hl => match us, hl with | [_, _, _], _ => rfl)
  v_NotFirm := evi_ok X G s (List.mem_of_getElem? (i := 74) rfl) (List.mem_of_getElem? (i := 94) rfl) (exC_at e 62) (fun _ _ _ _ _ _ us hl => match us, hl with | [_, _], _ => rfl)
  v_NotNow := evi_ok X G s (List.mem_of_getElem? (i := 75) rfl) (List.mem_of_getElem? (i := 95) rfl) (exC_at e 63) (fun _ _ _ _ _ _ us hl => match us, hl with | [_, _], _ => rfl)
  v_NotWatched := evi_ok X G s (List.mem_of_getElem? (i := 76) rfl) (List.mem_of_getElem? (i := 96) rfl) (exC_at e 64) (fun _ _ _ _ _ _ us hl => match us, hl with | [_, _], _ => rfl)
  v_Stays := evi_ok X G s (List.mem_of_getElem? (i := 77) rfl) (List.mem_of_getElem? (i := 97) rfl) (exC_at e 65) (fun _ _ _ _ _ _ us hl => match us, hl with | [_, _, _], _ => rfl)
  v_TurnsRound := evi_ok X G s (List.mem_of_getElem? (i := 78) rfl) (List.mem_of_getElem? (i := 98) rfl) (exC_at e 66) (fun _ _ _ _ _ _ us hl => match us, hl with | [_, _, _], _ => rfl)
  v_WouldChange := evi_ok X G s (List.mem_of_getElem? (i := 79) rfl) (List.mem_of_getElem? (i := 99) rfl) (exC_at e 67) (fun _ _ _ _ _ _ us hl => match us, hl with | [_, _, _], _ => rfl)
end TL
end

section
set_option autoImplicit false
/-! TM, part a: rings of a pointing, in plain lists -/
namespace TM
section
variable {α : Type}
def itr (to : α → α) : Nat → α → α
  | 0, x => x
  | n + 1, x => itr to n (to x)
theorem itr_add (to : α → α) : ∀ (m n : Nat) (x : α), itr to (m + n) x = itr to n (itr to m x)
  | 0, n, x => by rw [Nat.zero_add]; rfl
  | m + 1, n, x => by rw [Nat.succ_add]; exact itr_add to m n (to x)
theorem itr_succ (to : α → α) (n : Nat) (x : α) : itr to (n + 1) x = to (itr to n x) := itr_add to n 1 x
def orb (to : α → α) (c : α) (n : Nat) : List α := (List.range n).map fun i => itr to i c
theorem orb_len (to : α → α) (c : α) (n : Nat) : (orb to c n).length = n := by simp [orb]
theorem orb_succ (to : α → α) (c : α) (n : Nat) : orb to c (n + 1) = orb to c n ++ [itr to n c] := by simp [orb, List.range_succ]
theorem orb_cons (to : α → α) (c : α) (n : Nat) : orb to c (n + 1) = c :: orb to (to c) n := by
  simp only [orb, List.range_succ_eq_map, List.map_cons, List.map_map]
  rfl
theorem orb_get {to : α → α} {c : α} {n i : Nat} (h : i < (orb to c n).length) : (orb to c n)[i] = itr to i c := by simp [orb]
theorem mem_orb {to : α → α} {c y : α} {n : Nat} : y ∈ orb to c n ↔ ∃ i, i < n ∧ y = itr to i c := by
  simp only [orb, List.mem_map, List.mem_range]
  exact ⟨fun ⟨i, h, e⟩ => ⟨i, h, e.symm⟩, fun ⟨i, h, e⟩ => ⟨i, h, e.symm⟩⟩
theorem itr_mul {to : α → α} {c : α} {n : Nat} (h : itr to n c = c) : ∀ k, itr to (n * k) c = c
  | 0 => rfl
  | k + 1 => by rw [Nat.mul_succ, itr_add, itr_mul h k, h]
theorem itr_mod {to : α → α} {c : α} {n : Nat} (h : itr to n c = c) (k : Nat) : itr to k c = itr to (k % n) c := by
  conv => lhs; rw [← Nat.div_add_mod k n]
  rw [itr_add, itr_mul h]
theorem itr_in {to : α → α} {c y : α} {n : Nat} (h0 : 0 < n) (h : itr to n c = c) (hy : y ∈ orb to c n) (k : Nat) : itr to k y ∈ orb to c n := by
  obtain ⟨i, hi, rfl⟩ := mem_orb.mp hy
  rw [← itr_add, itr_mod h]
  exact mem_orb.mpr ⟨_, Nat.mod_lt _ h0, rfl⟩
theorem itr_to {to : α → α} {c y z : α} {n : Nat} (h : itr to n c = c) (hy : y ∈ orb to c n) (hz : z ∈ orb to c n) : ∃ k, itr to k y = z := by
  obtain ⟨i, hi, rfl⟩ := mem_orb.mp hy
  obtain ⟨j, hj, rfl⟩ := mem_orb.mp hz
  refine ⟨n - i + j, ?_⟩
  rw [← itr_add, show i + (n - i + j) = n + j by omega, itr_add, h]
theorem orb_drop (to : α → α) (c : α) (n k : Nat) : (orb to c n).drop k = orb to (itr to k c) (n - k) := by
  refine List.ext_getElem (by simp [orb]) fun i h1 h2 => ?_
  rw [List.getElem_drop, orb_get, orb_get, itr_add]
theorem orb_take (to : α → α) (c : α) (n k : Nat) (h : k ≤ n) : (orb to c n).take k = orb to c k := by
  refine List.ext_getElem (by simp [orb]; omega) fun i h1 h2 => ?_
  rw [List.getElem_take, orb_get, orb_get]
theorem orb_app (to : α → α) (c : α) (m n : Nat) : orb to c (m + n) = orb to c m ++ orb to (itr to m c) n := by
  rw [← List.take_append_drop m (orb to c (m + n)), orb_take to c _ m (by omega), orb_drop]
  rw [show m + n - m = n by omega]
theorem orb_rot {to : α → α} {c : α} {n k : Nat} (h : itr to n c = c) (hk : k ≤ n) : (orb to c n).drop k ++ (orb to c n).take k = orb to (itr to k c) n := by
  rw [orb_drop, orb_take to c n k hk]
  have e : itr to (n - k) (itr to k c) = c := by rw [← itr_add, show k + (n - k) = n by omega]; exact h
  have q := orb_app to (itr to k c) (n - k) k
  rw [e, show n - k + k = n by omega] at q
  exact q.symm
theorem itr_rot {to : α → α} {c : α} {n k : Nat} (h : itr to n c = c) : itr to n (itr to k c) = itr to k c := by
  rw [← itr_add, Nat.add_comm, itr_add, h]
/-- the cycle's successor list -/
theorem orb_map {to : α → α} {c : α} {n : Nat} (h : itr to n c = c) : (orb to c n).map to = (orb to c n).drop 1 ++ (orb to c n).take 1 := by
  cases n with
  | zero => rfl
  | succ n =>
    rw [orb_rot h (by omega)]
    simp only [orb, List.map_map]
    refine List.map_congr_left fun i _ => ?_
    show to (itr to i c) = itr to i (to c)
    rw [← itr_succ to i c]; rfl
/-! ### the order -/
structure Tot (le : α → α → Prop) : Prop where
  refl : ∀ a, le a a
  trans : ∀ a b c, le a b → le b c → le a c
  anti : ∀ a b, le a b → le b a → a = b
  total : ∀ a b, le a b ∨ le b a
/-- a ring: a cycle from its least one on -/
def IsRing (le : α → α → Prop) (to : α → α) (r : List α) : Prop := ∃ c n, 0 < n ∧ r = orb to c n ∧ itr to n c = c ∧ r.Nodup ∧ ∀ y ∈ r, le c y
section
variable {le : α → α → Prop} {to : α → α} {r r' : List α} {x y : α}
theorem IsRing.closed (h : IsRing le to r) (hy : y ∈ r) (k : Nat) : itr to k y ∈ r := by
  obtain ⟨c, n, h0, rfl, h1, _, _⟩ := h
  exact itr_in h0 h1 hy k
theorem IsRing.uniq (T : Tot le) (h : IsRing le to r) (h' : IsRing le to r') (hy : y ∈ r) (hy' : y ∈ r') : r = r' := by
  have k := h
  have k' := h'
  obtain ⟨c, n, h0, rfl, h1, h2, h3⟩ := h
  obtain ⟨c', n', h0', rfl, h1', h2', h3'⟩ := h'
  have hc : c ∈ orb to c n := mem_orb.mpr ⟨0, h0, rfl⟩
  have hc' : c' ∈ orb to c' n' := mem_orb.mpr ⟨0, h0', rfl⟩
  obtain ⟨i, e⟩ := itr_to h1 hy hc
  obtain ⟨i', e'⟩ := itr_to h1' hy' hc'
  have a1 : c ∈ orb to c' n' := by rw [← e]; exact k'.closed hy' i
  have a2 : c' ∈ orb to c n := by rw [← e']; exact k.closed hy i'
  have q := T.anti _ _ (h3 _ a2) (h3' _ a1)
  subst q
  have key : ∀ m m', 0 < m → m < m' → itr to m c = c → (orb to c m').Nodup → False := fun m m' g0 g1 g2 g3 => by
    have := (List.nodup_iff_pairwise_ne.mp g3)
    have q := List.pairwise_iff_getElem.mp this 0 m (by rw [orb_len]; omega) (by rw [orb_len]; omega) g0
    rw [orb_get, orb_get] at q
    exact q g2.symm
  rcases Nat.lt_trichotomy n n' with g | g | g
  · exact (key n n' h0 g h1 h2').elim
  · rw [g]
  · exact (key n' n h0' g h1' h2).elim
theorem IsRing.nodup (h : IsRing le to r) : r.Nodup := by
  obtain ⟨c, n, h0, rfl, h1, h2, h3⟩ := h
  exact h2
theorem IsRing.head (h : IsRing le to r) : ∃ c t, r = c :: t ∧ ∀ y ∈ r, le c y := by
  obtain ⟨c, n, h0, rfl, h1, h2, h3⟩ := h
  obtain ⟨m, rfl⟩ : ∃ m, n = m + 1 := ⟨n - 1, by omega⟩
  exact ⟨c, _, orb_cons to c m, h3⟩
theorem IsRing.map (h : IsRing le to r) : r.map to = r.drop 1 ++ r.take 1 := by
  obtain ⟨c, n, h0, rfl, h1, h2, h3⟩ := h
  exact orb_map h1
theorem IsRing.inj (h : IsRing le to r) (hx : x ∈ r) (hy : y ∈ r) (e : to x = to y) : x = y := by
  obtain ⟨c, n, h0, rfl, h1, h2, h3⟩ := h
  have k : ((orb to c n).map to).Nodup := by
    rw [orb_map h1]
    exact (List.perm_append_comm.trans (by rw [List.take_append_drop])).nodup_iff.mpr h2
  obtain ⟨i, hi, rfl⟩ := List.mem_iff_getElem.mp hx
  obtain ⟨j, hj, rfl⟩ := List.mem_iff_getElem.mp hy
  rcases Nat.lt_trichotomy i j with g | g | g
  · have q := List.pairwise_iff_getElem.mp (List.nodup_iff_pairwise_ne.mp k) i j (by simpa using hi) (by simpa using hj) g
    simp only [List.getElem_map] at q
    exact (q e).elim
  · subst g; rfl
  · have q := List.pairwise_iff_getElem.mp (List.nodup_iff_pairwise_ne.mp k) j i (by simpa using hj) (by simpa using hi) g
    simp only [List.getElem_map] at q
    exact (q e.symm).elim
/-- on the way from x lies the ring r -/
def Reach (le : α → α → Prop) (to : α → α) (x : α) (r : List α) : Prop := IsRing le to r ∧ ∃ k, itr to k x ∈ r
theorem Reach.uniq (T : Tot le) (h : Reach le to x r) (h' : Reach le to x r') : r = r' := by
  obtain ⟨h1, k, h2⟩ := h
  obtain ⟨h1', k', h2'⟩ := h'
  have a := h1.closed h2 k'
  have b := h1'.closed h2' k
  rw [← itr_add] at a b
  rw [Nat.add_comm] at b
  exact h1.uniq T h1' a b
theorem Reach.back {m : Nat} (h : Reach le to (itr to m x) r) : Reach le to x r := by
  obtain ⟨h1, k, h2⟩ := h
  exact ⟨h1, m + k, by rw [itr_add]; exact h2⟩
theorem Reach.self (h : IsRing le to r) (hx : x ∈ r) : Reach le to x r := ⟨h, 0, hx⟩
/-- a cycle, turned to its least one, is a ring -/
theorem ring_rot {c : α} {n k : Nat} (h0 : 0 < n) (h1 : itr to n c = c) (hn : (orb to c n).Nodup) (hk : k < n) (hm : ∀ y ∈ orb to c n, le (itr to k c) y) : IsRing le to ((orb to c n).drop k ++ (orb to c n).take k) := by
  have e := orb_rot h1 (k := k) (by omega)
  have p : ((orb to c n).drop k ++ (orb to c n).take k).Perm (orb to c n) := List.perm_append_comm.trans (by rw [List.take_append_drop])
  refine ⟨itr to k c, n, h0, e, itr_rot h1, p.nodup_iff.mpr hn, fun y hy => hm y (p.mem_iff.mp hy)⟩
end
/-- equal: sorted lists without repeats of the same things -/
theorem sorted_uniq {le : α → α → Prop} (ha : ∀ a b, le a b → le b a → a = b) : ∀ {l l' : List α}, l.Pairwise le → l'.Pairwise le → l.Nodup → l'.Nodup → (∀ x, x ∈ l ↔ x ∈ l') → l = l'
  | [], l', _, _, _, _, h => by
    cases l' with
    | nil => rfl
    | cons y t => exact absurd ((h y).mpr (by simp)) (by simp)
  | x :: r, [], _, _, _, _, h => absurd ((h x).mp (by simp)) (by simp)
  | x :: r, y :: t, s, s', n, n', h => by
    obtain ⟨s1, s2⟩ := List.pairwise_cons.mp s
    obtain ⟨s1', s2'⟩ := List.pairwise_cons.mp s'
    obtain ⟨n1, n2⟩ := List.nodup_cons.mp n
    obtain ⟨n1', n2'⟩ := List.nodup_cons.mp n'
    have e : x = y := by
      rcases List.mem_cons.mp ((h x).mp (by simp)) with e | e
      · exact e
      · rcases List.mem_cons.mp ((h y).mpr (by simp)) with e' | e'
        · exact e'.symm
        · exact ha _ _ (s1 _ e') (s1' _ e)
    subst e
    rw [sorted_uniq ha s2 s2' n2 n2' fun z => ?_]
    refine ⟨fun hz => ?_, fun hz => ?_⟩
    · rcases List.mem_cons.mp ((h z).mp (List.mem_cons_of_mem _ hz)) with e | e
      · subst e; exact absurd hz n1
      · exact e
    · rcases List.mem_cons.mp ((h z).mpr (List.mem_cons_of_mem _ hz)) with e | e
      · subst e; exact absurd hz n1'
      · exact e
/-- all rings within S, ascending by their first -/
structure Rings (le : α → α → Prop) (to : α → α) (S : List α) (L : List (List α)) : Prop where
  ring : ∀ r ∈ L, IsRing le to r
  sub : ∀ r ∈ L, ∀ y ∈ r, y ∈ S
  all : ∀ x ∈ S, ∃ r ∈ L, Reach le to x r
  asc : L.Pairwise fun a b => ∀ x ∈ a.head?, ∀ y ∈ b.head?, le x y ∧ x ≠ y
theorem Rings.mem_iff {le : α → α → Prop} {to : α → α} {S : List α} {L L' : List (List α)} (T : Tot le) (h : Rings le to S L) (h' : Rings le to S L') (r : List α) (hr : r ∈ L) : r ∈ L' := by
  obtain ⟨c, t, e, _⟩ := (h.ring r hr).head
  have hc : c ∈ r := by rw [e]; simp
  obtain ⟨r', hr', q⟩ := h'.all c (h.sub r hr c hc)
  rw [Reach.uniq T (Reach.self (h.ring r hr) hc) q]
  exact hr'
theorem Rings.uniq {le : α → α → Prop} {to : α → α} {S : List α} {L L' : List (List α)} (T : Tot le) (h : Rings le to S L) (h' : Rings le to S L') : L = L' := by
  -- strictly ascending by the first: an order that fails both ways
  have nd : ∀ {M : List (List α)}, Rings le to S M → M.Nodup := fun {M} g => by
    refine List.nodup_iff_pairwise_ne.mpr (List.Pairwise.imp_of_mem (fun {a b} ha hb q => ?_) g.asc)
    obtain ⟨c, t, e, _⟩ := (g.ring a ha).head
    intro z
    subst z
    rw [e] at q
    exact (q c (by simp) c (by simp)).2 rfl
  have key : ∀ {M M' : List (List α)}, (∀ r ∈ M, IsRing le to r) → M.Pairwise (fun a b => ∀ x ∈ a.head?, ∀ y ∈ b.head?, le x y ∧ x ≠ y) → M.Pairwise fun a b => a = b ∨ ∀ x ∈ a.head?, ∀ y ∈ b.head?, le x y ∧ x ≠ y := fun _ q => q.imp fun z => .inr z
  induction L generalizing S L' with
  | nil =>
    cases L' with
    | nil => rfl
    | cons r t => exact absurd (h'.mem_iff T h r (by simp)) (by simp)
  | cons r t ih =>
    clear ih
    have main : ∀ {M M' : List (List α)}, (∀ r ∈ M, IsRing le to r) → (∀ r ∈ M', IsRing le to r) → M.Pairwise (fun a b => ∀ x ∈ a.head?, ∀ y ∈ b.head?, le x y ∧ x ≠ y) → M'.Pairwise (fun a b => ∀ x ∈ a.head?, ∀ y ∈ b.head?, le x y ∧ x ≠ y) → M.Nodup → M'.Nodup → (∀ r, r ∈ M ↔ r ∈ M') → M = M' := by
      intro M
      induction M with
      | nil =>
        intro M' _ _ _ _ _ _ q
        cases M' with
        | nil => rfl
        | cons r t => exact absurd ((q r).mpr (by simp)) (by simp)
      | cons a M ih =>
        intro M' g g' s s' n n' q
        cases M' with
        | nil => exact absurd ((q a).mp (by simp)) (by simp)
        | cons b M' =>
          obtain ⟨s1, s2⟩ := List.pairwise_cons.mp s
          obtain ⟨s1', s2'⟩ := List.pairwise_cons.mp s'
          obtain ⟨n1, n2⟩ := List.nodup_cons.mp n
          obtain ⟨n1', n2'⟩ := List.nodup_cons.mp n'
          have e : a = b := by
            rcases List.mem_cons.mp ((q a).mp (by simp)) with e | e
            · exact e
            · rcases List.mem_cons.mp ((q b).mpr (by simp)) with e' | e'
              · exact e'.symm
              · obtain ⟨c, t, ea, _⟩ := (g a (by simp)).head
                obtain ⟨c', t', eb, _⟩ := (g' b (by simp)).head
                have q1 := s1 _ e' c (by simp [ea]) c' (by simp [eb])
                have q2 := s1' _ e c' (by simp [eb]) c (by simp [ea])
                exact absurd (T.anti _ _ q1.1 q2.1) q1.2
          subst e
          rw [ih (fun r hr => g r (by simp [hr])) (fun r hr => g' r (by simp [hr])) s2 s2' n2 n2' fun z => ?_]
          refine ⟨fun hz => ?_, fun hz => ?_⟩
          · rcases List.mem_cons.mp ((q z).mp (List.mem_cons_of_mem _ hz)) with e | e
            · subst e; exact absurd hz n1
            · exact e
          · rcases List.mem_cons.mp ((q z).mpr (List.mem_cons_of_mem _ hz)) with e | e
            · subst e; exact absurd hz n1'
            · exact e
    exact main h.ring h'.ring h.asc h'.asc (nd h) (nd h') fun z => ⟨h.mem_iff T h' z, h'.mem_iff T h z⟩
theorem len_le_of_sub [DecidableEq α] : ∀ {m l : List α}, m.Nodup → (∀ x ∈ m, x ∈ l) → m.length ≤ l.length
  | [], l, _, _ => Nat.zero_le _
  | x :: m, l, n, h => by
    obtain ⟨n1, n2⟩ := List.nodup_cons.mp n
    have hx := h x (by simp)
    have q := len_le_of_sub (l := l.erase x) n2 fun y hy => (List.mem_erase_of_ne (by intro z; subst z; exact n1 hy)).mpr (h y (by simp [hy]))
    rw [List.length_erase_of_mem hx] at q
    have : 0 < l.length := List.length_pos_of_mem hx
    simp only [List.length_cons]
    omega
theorem all_of_len [DecidableEq α] {m l : List α} (n : m.Nodup) (h : ∀ x ∈ m, x ∈ l) (hl : l.length ≤ m.length) : ∀ y ∈ l, y ∈ m := fun y hy => by
  refine Decidable.byContradiction fun z => ?_
  have q := len_le_of_sub (m := y :: m) (l := l) (List.nodup_cons.mpr ⟨z, n⟩) fun x hx => by
    rcases List.mem_cons.mp hx with e | e
    · rw [e]; exact hy
    · exact h x e
  simp only [List.length_cons] at q
  omega
/-- an injection of a finite list into itself hits all -/
theorem onto_of_inj [DecidableEq α] {l : List α} {f : α → α} (hn : l.Nodup) (hf : ∀ x ∈ l, f x ∈ l) (hi : ∀ x ∈ l, ∀ y ∈ l, f x = f y → x = y) : ∀ y ∈ l, ∃ x ∈ l, f x = y := by
  intro y hy
  have h1 : (l.map f).Nodup := by
    refine List.pairwise_map.mpr (List.Pairwise.imp_of_mem (fun {a b} ha hb q => ?_) (List.nodup_iff_pairwise_ne.mp hn))
    exact fun e => q (hi a ha b hb e)
  have q := all_of_len h1 (fun z hz => by
    obtain ⟨x, hx, rfl⟩ := List.mem_map.mp hz
    exact hf x hx) (by simp) y hy
  obtain ⟨x, hx, e⟩ := List.mem_map.mp q
  exact ⟨x, hx, e⟩
end
end TM
end

section
set_option autoImplicit false
set_option linter.all false
/-! TM, part b: rounds of rings; what a closed lot gets -/
namespace TM
section
variable {α : Type} [DecidableEq α] {le : α → α → Prop}
/-- the first in a row that is left -/
def fst (row : α → List α) (left : List α) (x : α) : α := ((row x).filter fun y => decide (y ∈ left)).headD x
/-- the rounds of rows, from those who are left -/
inductive Rnds (le : α → α → Prop) (row : α → List α) : List α → List (List (List α)) → Prop
  | nil : Rnds le row [] []
  | cons {left : List α} {rs : List (List α)} {L : List (List (List α))} (hn : left ≠ []) (h : Rings le (fst row left) left rs) (t : Rnds le row (left.filter fun x => decide (x ∉ rs.flatten)) L) : Rnds le row left (rs :: L)
theorem Rnds.uniq (T : Tot le) {row : α → List α} {left : List α} {L : List (List (List α))} (h : Rnds le row left L) : ∀ {L' : List (List (List α))}, Rnds le row left L' → L = L' := by
  induction h with
  | nil =>
    intro L' h'
    cases h' with
    | nil => rfl
    | cons hn _ _ => exact absurd rfl hn
  | cons hn h t ih =>
    intro L' h'
    cases h' with
    | nil => exact absurd rfl hn
    | cons hn' h'' t' =>
      have e := Rings.uniq T h h''
      subst e
      rw [ih t']
/-- an allotment with the round in which each leaves: what all later facts need -/
structure Alt (row : α → List α) (S : List α) (a : α → α) (r : α → Nat) : Prop where
  mem : ∀ x ∈ S, a x ∈ S
  pick : ∀ x ∈ S, a x ∈ row x
  inj : ∀ x ∈ S, ∀ y ∈ S, a x = a y → x = y
  same : ∀ x ∈ S, r (a x) = r x
  ahead : ∀ x ∈ S, ∀ p q, row x = p ++ a x :: q → a x ∉ p → ∀ y ∈ p, y ∈ S → r y < r x
/-- a lot that is closed: whom one gets, and all that one likes better -/
structure Lot (row : α → List α) (S : List α) (a : α → α) (C : List α) : Prop where
  sub : ∀ x ∈ C, x ∈ S
  gets : ∀ x ∈ C, a x ∈ C
  better : ∀ x ∈ C, ∀ p q, row x = p ++ a x :: q → a x ∉ p → ∀ y ∈ p, y ∈ C
theorem split_first {l : List α} {y : α} (h : y ∈ l) : ∃ p q, l = p ++ y :: q ∧ y ∉ p := by
  induction l with
  | nil => cases h
  | cons x l ih =>
    by_cases e : y = x
    · subst e; exact ⟨[], l, rfl, by simp⟩
    · obtain ⟨p, q, e1, e2⟩ := ih ((List.mem_cons.mp h).resolve_left e)
      exact ⟨x :: p, q, by rw [e1]; rfl, by simp [e, e2]⟩
/-- whatever all others wish, a closed lot gets the same -/
theorem lot_same {row row' : α → List α} {S S' C : List α} {a a' : α → α} {r r' : α → Nat} (A : Alt row S a r) (A' : Alt row' S' a' r') (L : Lot row S a C) (hC : C.Nodup) (hS : ∀ x ∈ C, x ∈ S')
    (hrow : ∀ x ∈ C, row' x = (row x).filter fun y => decide (y ∈ S')) : ∀ x ∈ C, a' x = a x := by
  -- the order in a row is the same
  have key : ∀ n, ∀ x ∈ C, r x = n → a' x = a x := by
    intro n
    induction n using Nat.strongRecOn with
    | ind n IH =>
      -- those of the lot who leave in round n
      have key2 : ∀ m, ∀ x ∈ C, r x = n → r' x = m → a' x = a x := by
        intro m
        induction m using Nat.strongRecOn with
        | ind m IH2 =>
          intro x hx hn hm
          obtain ⟨p, q, e, hp⟩ := split_first (A.pick x (L.sub x hx))
          have hr := hrow x hx
          rw [e, List.filter_append, List.filter_cons_of_pos (by simpa using hS _ (L.gets x hx))] at hr
          -- where a' x stands
          have hm' := A'.pick x (hS x hx)
          rw [hr] at hm'
          by_cases e1 : a' x = a x
          · exact e1
          rcases List.mem_append.mp hm' with h1 | h1
          · -- better than a x: left earlier
            have hb : a' x ∈ p := (List.mem_filter.mp h1).1
            have hbC : a' x ∈ C := L.better x hx p q e hp _ hb
            have hlt : r (a' x) < n := by rw [← hn]; exact A.ahead x (L.sub x hx) p q e hp _ hb (L.sub _ hbC)
            -- the lot's people of that round get each other
            have hN : (C.filter fun y => decide (r y = r (a' x))).Nodup := hC.filter _
            obtain ⟨y, hy, ey⟩ := onto_of_inj (l := C.filter fun y => decide (r y = r (a' x))) (f := a) hN (fun y hy => by
                obtain ⟨y1, y2⟩ := List.mem_filter.mp hy
                refine List.mem_filter.mpr ⟨L.gets y y1, ?_⟩
                rw [A.same y (L.sub y y1)]
                exact y2) (fun y hy z hz e => A.inj y (L.sub y (List.mem_filter.mp hy).1) z (L.sub z (List.mem_filter.mp hz).1) e) (a' x) (List.mem_filter.mpr ⟨hbC, by simp⟩)
            obtain ⟨y1, y2⟩ := List.mem_filter.mp hy
            have y2 := of_decide_eq_true y2
            have q1 := IH _ hlt y y1 y2
            have q2 := A'.inj y (hS y y1) x (hS x hx) (q1.trans ey)
            subst q2
            omega
          · rcases List.mem_cons.mp h1 with h1 | h1
            · exact h1
            · -- behind a x: then a x has left earlier in the other market
              obtain ⟨p', q', e', hp'⟩ := split_first h1
              have hlt : r' (a x) < r' x := by
                by_cases hin : a' x ∈ p.filter fun y => decide (y ∈ S')
                · have hb : a' x ∈ p := (List.mem_filter.mp hin).1
                  -- as above
                  exfalso
                  have hbC : a' x ∈ C := L.better x hx p q e hp _ hb
                  have hlt : r (a' x) < n := by rw [← hn]; exact A.ahead x (L.sub x hx) p q e hp _ hb (L.sub _ hbC)
                  have hN : (C.filter fun y => decide (r y = r (a' x))).Nodup := hC.filter _
                  obtain ⟨y, hy, ey⟩ := onto_of_inj (l := C.filter fun y => decide (r y = r (a' x))) (f := a) hN (fun y hy => by
                      obtain ⟨y1, y2⟩ := List.mem_filter.mp hy
                      refine List.mem_filter.mpr ⟨L.gets y y1, ?_⟩
                      rw [A.same y (L.sub y y1)]
                      exact y2) (fun y hy z hz e => A.inj y (L.sub y (List.mem_filter.mp hy).1) z (L.sub z (List.mem_filter.mp hz).1) e) (a' x) (List.mem_filter.mpr ⟨hbC, by simp⟩)
                  obtain ⟨y1, y2⟩ := List.mem_filter.mp hy
                  have y2 := of_decide_eq_true y2
                  have q1 := IH _ hlt y y1 y2
                  have q2 := A'.inj y (hS y y1) x (hS x hx) (q1.trans ey)
                  subst q2
                  omega
                · refine A'.ahead x (hS x hx) (p.filter (fun y => decide (y ∈ S')) ++ a x :: p') q' (by rw [hr, e']; simp) (fun z => ?_) (a x) (by simp) (hS _ (L.gets x hx))
                  rcases List.mem_append.mp z with z | z
                  · exact hin z
                  · rcases List.mem_cons.mp z with z | z
                    · exact e1 z
                    · exact hp' z
              -- those of round n whose other round is that of a x
              have hN : (C.filter fun y => decide (r y = n) && decide (r' y = r' (a x))).Nodup := hC.filter _
              have hsame : ∀ y ∈ C, r y = n → r' y = r' (a x) → a' y = a y := fun y y1 y2 y3 => IH2 _ (by omega : r' (a x) < m) y y1 y2 y3
              obtain ⟨y, hy, ey⟩ := onto_of_inj (l := C.filter fun y => decide (r y = n) && decide (r' y = r' (a x))) (f := a) hN (fun y hy => by
                  obtain ⟨y1, y2⟩ := List.mem_filter.mp hy
                  simp only [Bool.and_eq_true, decide_eq_true_eq] at y2
                  refine List.mem_filter.mpr ⟨L.gets y y1, ?_⟩
                  have q1 := A.same y (L.sub y y1)
                  have q2 := A'.same y (hS y y1)
                  rw [hsame y y1 y2.1 y2.2] at q2
                  simp only [Bool.and_eq_true, decide_eq_true_eq]
                  exact ⟨q1.trans y2.1, q2.trans y2.2⟩) (fun y hy z hz e => A.inj y (L.sub y (List.mem_filter.mp hy).1) z (L.sub z (List.mem_filter.mp hz).1) e) (a x) (List.mem_filter.mpr ⟨L.gets x hx, by
                  simp only [Bool.and_eq_true, decide_eq_true_eq, and_true]
                  rw [A.same x (L.sub x hx)]; exact hn⟩)
              obtain ⟨y1, y2⟩ := List.mem_filter.mp hy
              simp only [Bool.and_eq_true, decide_eq_true_eq] at y2
              have q2 := A.inj y (L.sub y y1) x (L.sub x hx) ey
              subst q2
              omega
      exact fun x hx hn => key2 _ x hx hn rfl
  exact fun x hx => key _ x hx rfl
/-- whom one gets, and in which round -/
def allot (row : α → List α) : List α → List (List (List α)) → α → α
  | left, rs :: L, x => if x ∈ rs.flatten then fst row left x else allot row (left.filter fun y => decide (y ∉ rs.flatten)) L x
  | _, [], x => x
def rnd : List (List (List α)) → α → Nat
  | rs :: L, x => if x ∈ rs.flatten then 0 else rnd L x + 1
  | [], _ => 0
theorem fst_spec {row : α → List α} {left : List α} {x : α} (hx : x ∈ left) (hr : x ∈ row x) : ∃ p q, row x = p ++ fst row left x :: q ∧ (∀ y ∈ p, y ∉ left) ∧ fst row left x ∈ left := by
  have key : ∀ l : List α, x ∈ l → ∃ p q, l = p ++ ((l.filter fun y => decide (y ∈ left)).headD x) :: q ∧ (∀ y ∈ p, y ∉ left) ∧ ((l.filter fun y => decide (y ∈ left)).headD x) ∈ left := by
    intro l
    induction l with
    | nil => intro h; cases h
    | cons z l ih =>
      intro h
      by_cases hz : z ∈ left
      · rw [List.filter_cons_of_pos (by simpa using hz)]
        exact ⟨[], l, rfl, by simp, hz⟩
      · rw [List.filter_cons_of_neg (by simpa using hz)]
        obtain ⟨p, q, e1, e2, e3⟩ := ih ((List.mem_cons.mp h).resolve_left fun e => hz (e ▸ hx))
        refine ⟨z :: p, q, ?_, ?_, e3⟩
        · conv => lhs; rw [e1]
          rfl
        · intro y hy
          rcases List.mem_cons.mp hy with e | e
          · rw [e]; exact hz
          · exact e2 y e
  exact key (row x) hr
theorem Rings.mem_flat {to : α → α} {S : List α} {L : List (List α)} {x : α} (h : Rings le to S L) : x ∈ L.flatten ↔ ∃ r ∈ L, x ∈ r := by
  rw [List.mem_flatten]
theorem Rings.ne {to : α → α} {S : List α} {L : List (List α)} (h : Rings le to S L) (hS : S ≠ []) : L.flatten ≠ [] := by
  cases S with
  | nil => exact absurd rfl hS
  | cons x S =>
    obtain ⟨r, hr, _⟩ := h.all x (by simp)
    obtain ⟨c, t, e, _⟩ := (h.ring r hr).head
    intro z
    have : c ∈ L.flatten := List.mem_flatten.mpr ⟨r, hr, by rw [e]; simp⟩
    rw [z] at this
    cases this
theorem Rings.flat_nodup (T : Tot le) {to : α → α} {S : List α} : ∀ {L : List (List α)}, Rings le to S L → L.flatten.Nodup := by
  intro L h
  have h1 := h.ring
  have h2 := h.asc
  clear h
  induction L with
  | nil => exact .nil
  | cons r L ih =>
    obtain ⟨s1, s2⟩ := List.pairwise_cons.mp h2
    rw [List.flatten_cons, List.nodup_append]
    refine ⟨(h1 r (by simp)).nodup, ih (fun r hr => h1 r (by simp [hr])) s2, fun a ha b hb e => ?_⟩
    subst e
    obtain ⟨r', hr', hb⟩ := List.mem_flatten.mp hb
    have e := (h1 r (by simp)).uniq T (h1 r' (by simp [hr'])) ha hb
    subst e
    obtain ⟨c, t, e, _⟩ := (h1 r (by simp)).head
    exact (s1 r hr' c (by simp [e]) c (by simp [e])).2 rfl
theorem rnds_alt (T : Tot le) {row : α → List α} {S : List α} {L : List (List (List α))} (h : Rnds le row S L) : (∀ x ∈ S, x ∈ row x) → Alt row S (allot row S L) (rnd L) := by
  induction h with
  | nil => exact fun _ => ⟨fun x hx => absurd hx (by simp), fun x hx => absurd hx (by simp), fun x hx => absurd hx (by simp), fun x hx => absurd hx (by simp), fun x hx => absurd hx (by simp)⟩
  | @cons left rs L hn h t ih =>
    intro hr
    have I := ih fun x hx => hr x (List.mem_filter.mp hx).1
    have hin : ∀ x ∈ left, x ∉ rs.flatten → x ∈ left.filter fun y => decide (y ∉ rs.flatten) := fun x h1 h2 => List.mem_filter.mpr ⟨h1, by simpa using h2⟩
    have hto : ∀ x ∈ rs.flatten, fst row left x ∈ rs.flatten := fun x hx => by
      obtain ⟨r, h1, h2⟩ := List.mem_flatten.mp hx
      exact List.mem_flatten.mpr ⟨r, h1, (h.ring r h1).closed h2 1⟩
    have hsub : ∀ x ∈ rs.flatten, x ∈ left := fun x hx => by
      obtain ⟨r, h1, h2⟩ := List.mem_flatten.mp hx
      exact h.sub r h1 x h2
    have a0 : ∀ x ∈ rs.flatten, allot row left (rs :: L) x = fst row left x := fun x hx => by simp only [allot, if_pos hx]
    have a1 : ∀ x, x ∉ rs.flatten → allot row left (rs :: L) x = allot row (left.filter fun y => decide (y ∉ rs.flatten)) L x := fun x hx => by simp only [allot, if_neg hx]
    have r0 : ∀ x ∈ rs.flatten, rnd (rs :: L) x = 0 := fun x hx => by simp only [rnd, if_pos hx]
    have r1 : ∀ x, x ∉ rs.flatten → rnd (rs :: L) x = rnd L x + 1 := fun x hx => by simp only [rnd, if_neg hx]
    have late : ∀ x ∈ left, x ∉ rs.flatten → allot row left (rs :: L) x ∈ left ∧ allot row left (rs :: L) x ∉ rs.flatten := fun x hx hf => by
      rw [a1 x hf]
      have q := List.mem_filter.mp (I.mem x (hin x hx hf))
      exact ⟨q.1, by simpa using q.2⟩
    refine ⟨fun x hx => ?_, fun x hx => ?_, fun x hx y hy e => ?_, fun x hx => ?_, fun x hx p q e hp y hy hyS => ?_⟩
    · by_cases hf : x ∈ rs.flatten
      · rw [a0 x hf]; exact hsub _ (hto x hf)
      · exact (late x hx hf).1
    · by_cases hf : x ∈ rs.flatten
      · rw [a0 x hf]
        obtain ⟨p, q, e, _⟩ := fst_spec hx (hr x hx)
        rw [e]; simp
      · rw [a1 x hf]; exact I.pick x (hin x hx hf)
    · by_cases hf : x ∈ rs.flatten <;> by_cases hg : y ∈ rs.flatten
      · rw [a0 x hf, a0 y hg] at e
        obtain ⟨r, h1, h2⟩ := List.mem_flatten.mp hf
        obtain ⟨r', h1', h2'⟩ := List.mem_flatten.mp hg
        have k1 : fst row left x ∈ r := (h.ring r h1).closed h2 1
        have k2 : fst row left y ∈ r' := (h.ring r' h1').closed h2' 1
        rw [← e] at k2
        have := (h.ring r h1).uniq T (h.ring r' h1') k1 k2
        subst this
        exact (h.ring r h1).inj h2 h2' e
      · have k := (late y hy hg).2
        rw [← e, a0 x hf] at k
        exact absurd (hto x hf) k
      · have k := (late x hx hf).2
        rw [e, a0 y hg] at k
        exact absurd (hto y hg) k
      · rw [a1 x hf, a1 y hg] at e
        exact I.inj x (hin x hx hf) y (hin y hy hg) e
    · by_cases hf : x ∈ rs.flatten
      · rw [a0 x hf, r0 x hf, r0 _ (hto x hf)]
      · rw [r1 _ (late x hx hf).2, r1 x hf, a1 x hf, I.same x (hin x hx hf)]
    · by_cases hf : x ∈ rs.flatten
      · rw [a0 x hf] at e hp
        obtain ⟨p', q', e', hp', hl⟩ := fst_spec hx (hr x hx)
        -- both split at the first
        exfalso
        rw [e'] at e
        have key : ∀ (p' p q' q : List α) (z : α), z ∉ p → z ∉ p' → p' ++ z :: q' = p ++ z :: q → p' = p := by
          intro p'
          induction p' with
          | nil =>
            intro p q' q z h1 h2 e
            cases p with
            | nil => rfl
            | cons w p => simp only [List.nil_append, List.cons_append, List.cons.injEq] at e; exact absurd (by rw [e.1]; simp) h1
          | cons v p' ih =>
            intro p q' q z h1 h2 e
            cases p with
            | nil => simp only [List.nil_append, List.cons_append, List.cons.injEq] at e; exact absurd (by rw [e.1]; simp) h2
            | cons w p =>
              simp only [List.cons_append, List.cons.injEq] at e
              rw [e.1, ih p q' q z (fun z => h1 (by simp [z])) (fun z => h2 (by simp [z])) e.2]
        have := key p' p q' q _ hp (fun z => hp' _ z hl) e
        subst this
        exact hp' y hy hyS
      · by_cases hg : y ∈ rs.flatten
        · rw [r0 y hg, r1 x hf]; omega
        · rw [a1 x hf] at e hp
          rw [r1 y hg, r1 x hf]
          have := I.ahead x (hin x hx hf) p q e hp y hy (hin y hyS hg)
          omega
/-- all leave, each once -/
theorem rnds_all (T : Tot le) {row : α → List α} {S : List α} {L : List (List (List α))} (h : Rnds le row S L) : (∀ x, x ∈ L.flatten.flatten ↔ x ∈ S) ∧ L.flatten.flatten.Nodup := by
  induction h with
  | nil => exact ⟨by simp, by simp⟩
  | @cons left rs L hn h t ih =>
    have hsub : ∀ x ∈ rs.flatten, x ∈ left := fun x hx => by
      obtain ⟨r, h1, h2⟩ := List.mem_flatten.mp hx
      exact h.sub r h1 x h2
    rw [List.flatten_cons, List.flatten_append]
    refine ⟨fun x => ?_, List.nodup_append.mpr ⟨h.flat_nodup T, ih.2, fun a ha b hb e => ?_⟩⟩
    · rw [List.mem_append, ih.1, List.mem_filter]
      refine ⟨fun q => q.elim (hsub x) (·.1), fun q => ?_⟩
      by_cases hf : x ∈ rs.flatten
      · exact .inl hf
      · exact .inr ⟨q, by simpa using hf⟩
    · subst e
      have := (List.mem_filter.mp ((ih.1 a).mp hb)).2
      simp only [decide_eq_true_eq] at this
      exact this ha
/-- each ring's people get the next one on it -/
theorem rnds_next (T : Tot le) {row : α → List α} {S : List α} {L : List (List (List α))} (h : Rnds le row S L) : ∀ rg ∈ L.flatten, IsRing le (allot row S L) rg := by
  have orbC : ∀ {f g : α → α} {c : α} {n : Nat}, (∀ y ∈ orb f c n, f y = g y) → ∀ i, i ≤ n → itr g i c = itr f i c := by
    intro f g c n hfg i
    induction i with
    | zero => intro _; rfl
    | succ i ih =>
      intro hi
      rw [itr_succ, itr_succ, ih (by omega)]
      exact (hfg _ (mem_orb.mpr ⟨i, by omega, rfl⟩)).symm
  have cong : ∀ {f g : α → α} {r : List α}, IsRing le f r → (∀ y ∈ r, f y = g y) → IsRing le g r := by
    intro f g r hr hfg
    obtain ⟨c, n, h0, rfl, h1, h2, h3⟩ := hr
    refine ⟨c, n, h0, ?_, by rw [orbC hfg n (Nat.le_refl _)]; exact h1, h2, h3⟩
    refine List.map_congr_left fun i hi => (orbC hfg i ?_).symm
    have := List.mem_range.mp hi
    omega
  induction h with
  | nil => simp
  | @cons left rs L hn h t ih =>
    intro rg hrg
    rw [List.flatten_cons, List.mem_append] at hrg
    rcases hrg with hrg | hrg
    · refine cong (h.ring rg hrg) fun y hy => ?_
      simp only [allot, if_pos (List.mem_flatten.mpr ⟨rg, hrg, hy⟩)]
    · refine cong (ih rg hrg) fun y hy => ?_
      have : y ∈ L.flatten.flatten := List.mem_flatten.mpr ⟨rg, hrg, hy⟩
      have := (List.mem_filter.mp (((rnds_all T t).1 y).mp this)).2
      simp only [decide_eq_true_eq] at this
      simp only [allot, if_neg this]
/-- the least closed set with a thing -/
structure Clo (sc : α → List α) (x : α) (F : List α) : Prop where
  has : x ∈ F
  closed : ∀ y ∈ F, ∀ z ∈ sc y, z ∈ F
  least : ∀ P : α → Prop, P x → (∀ y, P y → ∀ z ∈ sc y, P z) → ∀ y ∈ F, P y
theorem Clo.iff {sc : α → List α} {x : α} {F F' : List α} (h : Clo sc x F) (h' : Clo sc x F') (y : α) : y ∈ F ↔ y ∈ F' :=
  ⟨h.least _ h'.has h'.closed y, h'.least _ h.has h.closed y⟩
end
end TM
end

section
set_option Elab.async false
set_option linter.all false
set_option autoImplicit false
set_option maxRecDepth 100000
/-! TM, part c: reckoning with mirrors -/
namespace TL
open PySem PySem.Spec PyProof.Rows L2 TM
variable [TabL]
/-! ### steps -/
theorem seq_nx {s t : MS} {ρ g ρ' g' : List D} (h : s ρ g = .nx ρ' g') : mSeq s t ρ g = t ρ' g' := by unfold mSeq; rw [h]
@[simp] theorem bind_ok {α β : Type} {a : α} {g : List D} {k : α → List D → R β} : (R.ok a g).bind k = k a g := rfl
@[simp] theorem st_ok {α : Type} {a : α} {g : List D} {k : α → List D → RS} : (R.ok a g).st k = k a g := rfl
@[simp] theorem nox_ok {α : Type} {a : α} {g : List D} : (R.ok a g).nox = R.ok a g := rfl
section
variable {ρ g : List D}
@[simp] theorem vw_non : vw g .non = .non := rfl
@[simp] theorem vw_bl (b : Bool) : vw g (.bl b) = .bl b := rfl
@[simp] theorem vw_int (i : Int) : vw g (.int i) = .int i := rfl
@[simp] theorem vw_str (x : Str) : vw g (.str x) = .str x := rfl
@[simp] theorem vw_lst (xs : List D) : vw g (.lst xs) = .lst xs := rfl
@[simp] theorem vw_tup (xs : List D) : vw g (.tup xs) = .tup xs := rfl
@[simp] theorem vw_dct (xs : List (Key × D)) : vw g (.dct xs) = .dct xs := rfl
@[simp] theorem vw_ins (c : Str) (fs : List (Str × D)) : vw g (.ins c fs) = .ins c fs := rfl
@[simp] theorem vwe_fn (x : Str) : vw g (.fn x) = .fn x := rfl
@[simp] theorem vw_hot (i : Nat) : vw g (.hot i) = g.getD i .non := rfl
@[simp] theorem mVar_e (i : Nat) : mVar i ρ g = .ok (ρ.getD i .non) g := rfl
@[simp] theorem mC_e (d : D) : mC d ρ g = .ok d g := rfl
@[simp] theorem m1_e (a : M D) (k : D → List D → R D) : m1 a k ρ g = (a ρ g).bind k := rfl
@[simp] theorem m2_e (a b : M D) (k : D → D → List D → R D) : m2 a b k ρ g = (a ρ g).bind fun d g1 => (b ρ g1).bind fun e g2 => k d e g2 := rfl
@[simp] theorem asB_e (b : Bool) : asB (.bl b) g = .ok b g := rfl
@[simp] theorem mB_e (a : M D) : mB a ρ g = (a ρ g).bind asB := rfl
@[simp] theorem truB_bl (b : Bool) : truB (.bl b) g = some b := rfl
@[simp] theorem truB_lst (xs : List D) : truB (.lst xs) g = some (!xs.isEmpty) := rfl
@[simp] theorem truB_dct (xs : List (Key × D)) : truB (.dct xs) g = some (!xs.isEmpty) := rfl
def tru1 (d : D) (g : List D) : R Bool := match truB d g with | some b => .ok b g | none => .no
@[simp] theorem mTru_e (m : M D) : mTru m ρ g = (m ρ g).bind tru1 := rfl
@[simp] theorem tru1_bl (b : Bool) : tru1 (.bl b) g = .ok b g := rfl
@[simp] theorem tru1_lst (xs : List D) : tru1 (.lst xs) g = .ok (!xs.isEmpty) g := rfl
@[simp] theorem tru1_dct (xs : List (Key × D)) : tru1 (.dct xs) g = .ok (!xs.isEmpty) g := rfl
@[simp] theorem mNotT_e (a : M Bool) : mNotT a ρ g = (a ρ g).bind fun t g' => .ok (!t) g' := rfl
@[simp] theorem mOrT_e (a b : M Bool) : mOrT a b ρ g = (a ρ g).bind fun t g' => if t = true then .ok true g' else b ρ g' := rfl
@[simp] theorem mAndT_e (a b : M Bool) : mAndT a b ρ g = (a ρ g).bind fun t g' => if t = true then b ρ g' else .ok false g' := rfl
@[simp] theorem mAndV_e (a b : M D) : mAndV a b ρ g = (a ρ g).bind fun d g' => match d with | .bl true => b ρ g' | .bl false => .ok (.bl false) g' | _ => .no := rfl
@[simp] theorem mIte_e {α : Type} (c : M Bool) (a b : M α) : mIte c a b ρ g = (c ρ g).bind fun t g' => if t = true then a ρ g' else b ρ g' := rfl
@[simp] theorem mIf_e (c : M Bool) (a b : MS) : mIf c a b ρ g = (c ρ g).st fun t g' => if t = true then a ρ g' else b ρ g' := rfl
@[simp] theorem mRet_e (m : M D) : mRet m ρ g = (m ρ g).st fun d g' => .rt d g' := rfl
@[simp] theorem mRetF_e (m : M D) : mRetF m ρ g = (m ρ g).st fun d g' => .ro d g' := rfl
@[simp] theorem mRetO_e (i : Nat) : mRetO i ρ g = .ro (ρ.getD i .non) g := rfl
@[simp] theorem mSkip_e : mSkip ρ g = .nx ρ g := rfl
@[simp] theorem mExp_e (m : M D) : mExp m ρ g = (m ρ g).st fun _ g' => .nx ρ g' := rfl
@[simp] theorem mCall_e (m : MF) (a : M (List D)) : mCall m a ρ g = (a ρ g).bind m := rfl
@[simp] theorem mL_e (a : M (List D)) (k : List D → List D → R D) : mL a k ρ g = (a ρ g).bind k := rfl
@[simp] theorem mNil_e : mNil ρ g = .ok [] g := rfl
@[simp] theorem mCons_e (a : M D) (b : M (List D)) : mCons a b ρ g = (a ρ g).bind fun d g1 => (b ρ g1).bind fun ds g2 => .ok (d :: ds) g2 := rfl
@[simp] theorem mSet_e (i : Nat) (m : M D) : mSet i m ρ g = (m ρ g).st fun d g' => .nx (ρ.set i d) g' := rfl
@[simp] theorem mPar_e (i j : Nat) (ma mb : M D) : mPar i j ma mb ρ g = (ma ρ g).st fun d g1 => (mb ρ g1).st fun e g2 => .nx ((ρ.set i d).set j e) g2 := rfl
@[simp] theorem mEmpty_e : mEmpty ρ g = .ok (.dct []) g := rfl
@[simp] theorem mYes_e : mYes ρ g = .ok true g := rfl
@[simp] theorem kList_nil : kList [] g = .ok (.lst []) g := rfl
@[simp] theorem mIter_e (m : M D) : mIter m ρ g = (m ρ g).bind kIter := rfl
@[simp] theorem kIter_lst (xs : List D) : kIter (.lst xs) g = .ok xs g := rfl
@[simp] theorem kIter_tup (xs : List D) : kIter (.tup xs) g = .ok xs g := rfl
@[simp] theorem kIter_dct (xs : List (Key × D)) : kIter (.dct xs) g = .ok (xs.map fun p => kD p.1) g := rfl
@[simp] theorem kLen_lst (xs : List D) : kLen [.lst xs] g = .ok (.int xs.length) g := rfl
@[simp] theorem kLen_tup (xs : List D) : kLen [.tup xs] g = .ok (.int xs.length) g := rfl
@[simp] theorem kLen_dct (xs : List (Key × D)) : kLen [.dct xs] g = .ok (.int xs.length) g := rfl
@[simp] theorem mNx_ok {α : Type} {m : M α} {a : α} {g' : List D} (h : m ρ g = .ok a g') : mNx m ρ g = .ok a g' := by unfold mNx; rw [h]
@[simp] theorem mSome_e (m : M D) : mSome m ρ g = (m ρ g).bind fun d g' => match vw g' d with | .int i => .ok (some i) g' | _ => .no := rfl
@[simp] theorem mNone_e : mNone ρ g = .ok none g := rfl
@[simp] theorem mSl_e (m : M D) (lo hi : M (Option Int)) (k : D → Option Int → Option Int → List D → R D) : mSl m lo hi k ρ g = (m ρ g).bind fun d g1 => (lo ρ g1).bind fun l g2 => (hi ρ g2).bind fun h g3 => k d l h g3 := rfl
@[simp] theorem kSl_lst (xs : List D) (lo hi : Option Int) : kSl (.lst xs) lo hi g = .ok (.lst (cutL xs lo hi)) g := rfl
end
/-- what a def's body hands back -/
theorem fn_rt {n : Nat} {b : MS} {ds g g' : List D} {d : D} (h : b (ds ++ List.replicate n .non) g = .rt d g') : mFn n b ds g = .ok d g' := by unfold mFn; rw [h]; rfl
theorem fn_ro {n : Nat} {b : MS} {ds g g' : List D} {d : D} (h : b (ds ++ List.replicate n .non) g = .ro d g') : mFnF n b ds g = .ok d g' := by unfold mFnF; rw [h]; rfl
/-! ### loops -/
theorem while_inv {c : M Bool} {b : MS} (I : Nat → List D → List D → Prop) (P : List D → List D → Prop)
    (h : ∀ n ρ g, I n ρ g → (∃ g', c ρ g = .ok false g' ∧ P ρ g') ∨ ∃ g1 ρ' g' m, c ρ g = .ok true g1 ∧ b ρ g1 = .nx ρ' g' ∧ m < n ∧ I m ρ' g') {n : Nat} {ρ g : List D} (h0 : I n ρ g) (hn : n < FU) :
    ∃ ρ' g', mWhile c b ρ g = .nx ρ' g' ∧ P ρ' g' := by
  unfold mWhile
  generalize FU = F at hn
  induction F generalizing n ρ g with
  | zero => omega
  | succ F ih =>
    rcases h n ρ g h0 with ⟨g', e, p⟩ | ⟨g1, ρ', g', m, e1, e2, hm, hI⟩
    · exact ⟨ρ, g', by simp only [loopW, e, st_ok]; rfl, p⟩
    · obtain ⟨ρ2, g2, e3, p⟩ := ih hI (by omega)
      exact ⟨ρ2, g2, by simp only [loopW, e1, st_ok, e2, if_true]; exact e3, p⟩
theorem FU_big : 100000000 < FU := by unfold FU; decide
theorem loopF_inv {α : Type} {k : KT} {b : MS} (F : α → D) (I : List α → List α → List D → List D → Prop)
    (h : ∀ don x rest ρ g, I don (x :: rest) ρ g → ∃ ρ1 ρ' g', k (F x) ρ g = some ρ1 ∧ b ρ1 g = .nx ρ' g' ∧ I (don ++ [x]) rest ρ' g') :
    ∀ xs don ρ g, I don xs ρ g → ∃ ρ' g', loopF k b (xs.map F) ρ g = .nx ρ' g' ∧ I (don ++ xs) [] ρ' g'
  | [], don, ρ, g, h0 => ⟨ρ, g, rfl, by rw [List.append_nil]; exact h0⟩
  | x :: xs, don, ρ, g, h0 => by
    obtain ⟨ρ1, ρ', g', e1, e2, h1⟩ := h don x xs ρ g h0
    obtain ⟨ρ2, g2, e3, h2⟩ := loopF_inv F I h xs _ ρ' g' h1
    refine ⟨ρ2, g2, ?_, by rw [List.append_assoc] at h2; exact h2⟩
    simp only [List.map_cons, loopF, e1, e2]
    exact e3
/-- a loop without early ends -/
theorem for_inv {α : Type} {mi : M (List D)} {k : KT} {b : MS} {ρ g g0 : List D} (F : α → D) (xs : List α) (I : List α → List α → List D → List D → Prop) (hi : mi ρ g = .ok (xs.map F) g0) (h0 : I [] xs ρ g0)
    (h : ∀ don x rest ρ g, I don (x :: rest) ρ g → ∃ ρ1 ρ' g', k (F x) ρ g = some ρ1 ∧ b ρ1 g = .nx ρ' g' ∧ I (don ++ [x]) rest ρ' g') : ∃ ρ' g', mFor mi k b ρ g = .nx ρ' g' ∧ I xs [] ρ' g' := by
  obtain ⟨ρ', g', e, q⟩ := loopF_inv F I h xs [] ρ g0 h0
  exact ⟨ρ', g', by simp only [mFor, hi, st_ok]; exact e, by simpa using q⟩
theorem compL_pure {α : Type} {k : KT} {c : M Bool} {e : M D} {ρ g : List D} (F : α → D) (T : α → Bool) (E : α → D) : ∀ xs : List α,
    (∀ x ∈ xs, ∃ ρ1, k (F x) ρ g = some ρ1 ∧ c ρ1 g = .ok (T x) g ∧ (T x = true → e ρ1 g = .ok (E x) g)) → compL k c e (xs.map F) ρ g = .ok ((xs.filter T).map E) g
  | [], _ => rfl
  | x :: xs, h => by
    obtain ⟨ρ1, e1, e2, e3⟩ := h x (by simp)
    have ih := compL_pure F T E xs fun y hy => h y (by simp [hy])
    simp only [List.map_cons, compL, e1, e2, nox_ok, bind_ok]
    cases hT : T x with
    | false => rw [if_neg (by decide), List.filter_cons_of_neg (by simp [hT])]; exact ih
    | true => rw [if_pos rfl, List.filter_cons_of_pos hT]; simp only [e3 hT, nox_ok, bind_ok, ih, List.map_cons]
theorem compLg_pure {α : Type} {k : KT} {c : M Bool} {e : M D} {ρ g : List D} (F : α → D) (E : α → D) : ∀ xs : List α,
    (∀ x ∈ xs, ∃ ρ1, k (F x) ρ g = some ρ1 ∧ c ρ1 g = .ok true g ∧ e ρ1 g = .ok (E x) g) → compLg k c e (xs.map F) ρ g = .ok (xs.map E) g
  | [], _ => rfl
  | x :: xs, h => by
    obtain ⟨ρ1, e1, e2, e3⟩ := h x (by simp)
    have ih := compLg_pure F E xs fun y hy => h y (by simp [hy])
    simp only [List.map_cons, compLg, e1, e2, nox_ok, bind_ok, eqDL_rf, if_true, e3, ih]
theorem compL_inv {α : Type} {k : KT} {c : M Bool} {e : M D} {ρ : List D} (F : α → D) (I : List D → List α → List D → Prop)
    (h : ∀ acc x rest g, I acc (x :: rest) g → ∃ ρ1 t g1, k (F x) ρ g = some ρ1 ∧ c ρ1 g = .ok t g1 ∧ ((t = false ∧ I acc rest g1) ∨ ∃ y g2, t = true ∧ e ρ1 g1 = .ok y g2 ∧ I (acc ++ [y]) rest g2)) :
    ∀ xs acc g, I acc xs g → ∃ ys g', compL k c e (xs.map F) ρ g = .ok ys g' ∧ I (acc ++ ys) [] g'
  | [], acc, g, h0 => ⟨[], g, rfl, by rw [List.append_nil]; exact h0⟩
  | x :: xs, acc, g, h0 => by
    obtain ⟨ρ1, t, g1, e1, e2, h1⟩ := h acc x xs g h0
    simp only [List.map_cons, compL, e1, e2, nox_ok, bind_ok]
    rcases h1 with ⟨rfl, h1⟩ | ⟨y, g2, rfl, e3, h1⟩
    · obtain ⟨ys, g', e4, h2⟩ := compL_inv F I h xs acc g1 h1
      exact ⟨ys, g', by rw [if_neg (by decide)]; exact e4, h2⟩
    · obtain ⟨ys, g', e4, h2⟩ := compL_inv F I h xs (acc ++ [y]) g2 h1
      refine ⟨y :: ys, g', ?_, by rw [List.append_assoc] at h2; exact h2⟩
      rw [if_pos rfl]
      simp only [e3, nox_ok, bind_ok, e4]
/-- a comprehension's value -/
theorem comp_pure {α : Type} {mi : M (List D)} {k : KT} {c : M Bool} {e : M D} {ρ g g0 : List D} (F : α → D) (T : α → Bool) (E : α → D) (xs : List α) (hi : mi ρ g = .ok (xs.map F) g0)
    (h : ∀ x ∈ xs, ∃ ρ1, k (F x) ρ g0 = some ρ1 ∧ c ρ1 g0 = .ok (T x) g0 ∧ (T x = true → e ρ1 g0 = .ok (E x) g0)) (hl : xs.length ≤ 16777216) : mComp mi k c e ρ g = .ok (.lst ((xs.filter T).map E)) g0 := by
  simp only [mComp, hi, bind_ok, compL_pure F T E xs h, kList]
  have := List.length_filter_le T xs
  rw [if_pos (by rw [List.length_map]; omega)]
theorem comp_map {α : Type} {mi : M (List D)} {k : KT} {e : M D} {ρ g g0 : List D} (F : α → D) (E : α → D) (xs : List α) (hi : mi ρ g = .ok (xs.map F) g0)
    (h : ∀ x ∈ xs, ∃ ρ1, k (F x) ρ g0 = some ρ1 ∧ e ρ1 g0 = .ok (E x) g0) (hl : xs.length ≤ 16777216) : mComp mi k mYes e ρ g = .ok (.lst (xs.map E)) g0 := by
  have q := comp_pure (c := mYes) (e := e) F (fun _ => true) E xs hi (fun x hx => by
    obtain ⟨ρ1, e1, e2⟩ := h x hx
    exact ⟨ρ1, e1, rfl, fun _ => e2⟩) hl
  rwa [List.filter_eq_self.mpr (fun _ _ => rfl)] at q
/-! ### names as keys -/
abbrev leS (x y : Str) : Prop := x.cps.toList ≤ y.cps.toList
theorem totS : Tot leS := ⟨fun a => List.le_refl _, fun a b c => List.le_trans, fun a b h1 h2 => PySem.W.str_of_cps (List.le_antisymm h1 h2), fun a b => List.le_total _ _⟩
def mk (S : List Str) (F : Str → D) : List (Key × D) := S.map fun x => (.inr x, F x)
def sD (S : List Str) : List D := S.map D.str
theorem mk_len (S : List Str) (F : Str → D) : (mk S F).length = S.length := by simp [mk]
theorem mk_nil (F : Str → D) : mk [] F = [] := rfl
theorem mk_app (S T : List Str) (F : Str → D) : mk (S ++ T) F = mk S F ++ mk T F := by simp [mk]
theorem mk_congr {S : List Str} {F G : Str → D} (h : ∀ x ∈ S, F x = G x) : mk S F = mk S G := List.map_congr_left fun x hx => by rw [h x hx]
theorem lookK_mk (F : Str → D) (x : Str) : ∀ S : List Str, lookK (mk S F) (.inr x) = if x ∈ S then some (F x) else none
  | [] => rfl
  | y :: S => by
    have ih := lookK_mk F x S
    unfold lookK at ih ⊢
    simp only [mk, List.map_cons, List.find?_cons]
    by_cases h : y = x
    · subst h; simp
    · have e : decide ((Sum.inr y : Key) = .inr x) = false := by simpa using h
      rw [e]
      show ((mk S F).find? _).map _ = _
      rw [ih]
      have : x ≠ y := fun z => h z.symm
      simp [this]
theorem lookK_in {S : List Str} {F : Str → D} {x : Str} (h : x ∈ S) : lookK (mk S F) (.inr x) = some (F x) := by rw [lookK_mk, if_pos h]
theorem any_mk (F : Str → D) (x : Str) (S : List Str) : ((mk S F).any fun p => decide (p.1 = .inr x)) = decide (x ∈ S) := by
  induction S with
  | nil => rfl
  | cons y S ih =>
    simp only [mk, List.map_cons, List.any_cons] at ih ⊢
    rw [ih]
    by_cases h : y = x
    · subst h; simp
    · have h' : x ≠ y := fun z => h z.symm
      simp [h, h']
theorem putD_new {S : List Str} {F : Str → D} {x : Str} (d : D) (h : x ∉ S) : putD (mk S F) (.inr x) d = mk S F ++ [(.inr x, d)] := by
  unfold putD
  rw [any_mk, if_neg (by simpa using h)]
theorem putD_snoc {S : List Str} {F : Str → D} {x : Str} (h : x ∉ S) : putD (mk S F) (.inr x) (F x) = mk (S ++ [x]) F := by
  rw [putD_new _ h, mk_app]; rfl
theorem putD_old {S : List Str} {F : Str → D} {x : Str} (d : D) (h : x ∈ S) : putD (mk S F) (.inr x) d = mk S fun y => if y = x then d else F y := by
  unfold putD
  rw [any_mk, if_pos (by simpa using h)]
  simp only [mk, List.map_map]
  refine List.map_congr_left fun y _ => ?_
  by_cases e : y = x
  · subst e; simp
  · simp [e]
/-- a dict with one more key -/
def addS (S : List Str) (x : Str) : List Str := if x ∈ S then S else S ++ [x]
theorem putD_mk {S : List Str} {F : Str → D} {x : Str} (d : D) : putD (mk S F) (.inr x) d = mk (addS S x) fun y => if y = x then d else F y := by
  unfold addS
  by_cases h : x ∈ S
  · rw [if_pos h, putD_old d h]
  · rw [if_neg h, putD_new d h, mk_app]
    congr 1
    · exact mk_congr fun y hy => (if_neg (by intro z; subst z; exact h hy)).symm
    · simp [mk]
theorem dropD_mk (S : List Str) (F : Str → D) (x : Str) : dropD (mk S F) (.inr x) = mk (S.filter fun y => decide (y ≠ x)) F := by
  unfold dropD mk
  rw [List.filter_map]
  congr 1
  refine List.filter_congr fun y _ => ?_
  simp
theorem strKeys_mk (F : Str → D) : ∀ S : List Str, strKeys (mk S F) = some S
  | [] => rfl
  | x :: S => by
    show (strKeys (mk S F)).map _ = _
    rw [strKeys_mk F S]; rfl
theorem keys_mk (S : List Str) (F : Str → D) : (mk S F).map (fun p => kD p.1) = sD S := by
  simp only [mk, sD, List.map_map]; rfl
theorem compD_mk {k : KT} {c : M Bool} {ek ev : M D} {ρ g : List D} {α : Type} (F : α → D) (T : α → Bool) (K : α → Str) (G : Str → D) : ∀ (xs : List α) (S : List Str), ((xs.filter T).map K).Nodup → (∀ x ∈ xs, T x = true → K x ∉ S) → S.length + xs.length < 16777216 →
    (∀ x ∈ xs, ∃ ρ1, k (F x) ρ g = some ρ1 ∧ c ρ1 g = .ok (T x) g ∧ (T x = true → ek ρ1 g = .ok (.str (K x)) g ∧ ev ρ1 g = .ok (G (K x)) g)) → compD k c ek ev (xs.map F) ρ (mk S G) g = .ok (mk (S ++ (xs.filter T).map K) G) g
  | [], S, _, _, _, _ => by simp [compD]
  | x :: xs, S, n, hS, hl, h => by
    obtain ⟨ρ1, e1, e2, e3⟩ := h x (by simp)
    have hr := fun y hy => h y (List.mem_cons_of_mem x hy)
    simp only [List.length_cons] at hl
    simp only [List.map_cons, compD, e1, e2, nox_ok, bind_ok]
    cases hT : T x with
    | false =>
      rw [List.filter_cons_of_neg (by simp [hT])] at n ⊢
      rw [if_neg (by decide)]
      exact compD_mk F T K G xs S n (fun y hy => hS y (by simp [hy])) (by omega) hr
    | true =>
      rw [List.filter_cons_of_pos hT, List.map_cons] at n ⊢
      obtain ⟨n1, n2⟩ := List.nodup_cons.mp n
      rw [if_pos rfl]
      obtain ⟨q1, q2⟩ := e3 hT
      have hx := hS x (by simp) hT
      simp only [q1, q2, nox_ok, bind_ok, keyD]
      rw [if_pos (by rw [mk_len]; omega), putD_snoc hx]
      rw [compD_mk F T K G xs (S ++ [K x]) n2 (fun y hy hTy z => ?_) (by simp; omega) hr]
      · simp
      · rcases List.mem_append.mp z with z | z
        · exact hS y (by simp [hy]) hTy z
        · exact n1 (List.mem_map.mpr ⟨y, List.mem_filter.mpr ⟨hy, hTy⟩, List.mem_singleton.mp z⟩)
/-- {x: .. for x in names} -/
theorem compD_names {mi : M (List D)} {k : KT} {ek ev : M D} {ρ g g0 : List D} (G : Str → D) (xs : List Str) (hi : mi ρ g = .ok (sD xs) g0) (n : xs.Nodup) (hl : xs.length < 16777216)
    (h : ∀ x ∈ xs, ∃ ρ1, k (.str x) ρ g0 = some ρ1 ∧ ek ρ1 g0 = .ok (.str x) g0 ∧ ev ρ1 g0 = .ok (G x) g0) : mCompD mi k mYes ek ev ρ g = .ok (.dct (mk xs G)) g0 := by
  have e : xs.filter (fun _ => true) = xs := List.filter_eq_self.mpr fun _ _ => rfl
  have q := compD_mk (k := k) (c := mYes) (ek := ek) (ev := ev) (ρ := ρ) (g := g0) D.str (fun _ => true) id G xs [] (by rw [e]; simpa using n) (fun _ _ _ => by simp) (by simpa using hl) fun x hx => by
    obtain ⟨ρ1, e1, e2, e3⟩ := h x hx
    exact ⟨ρ1, e1, rfl, fun _ => ⟨e2, e3⟩⟩
  rw [e] at q
  simp only [mCompD, hi, bind_ok]
  have q' : compD k mYes ek ev (sD xs) ρ [] g0 = .ok (mk ([] ++ xs.map id) G) g0 := q
  rw [q']
  simp
/-! ### sorted -/
def sortS (S : List Str) : List Str := S.mergeSort fun a b => decide (leS a b)
theorem sortS_perm (S : List Str) : (sortS S).Perm S := List.mergeSort_perm _ _
theorem sortS_mem {S : List Str} {x : Str} : x ∈ sortS S ↔ x ∈ S := (sortS_perm S).mem_iff
theorem sortS_len (S : List Str) : (sortS S).length = S.length := (sortS_perm S).length_eq
theorem sortS_nodup {S : List Str} : (sortS S).Nodup ↔ S.Nodup := (sortS_perm S).nodup_iff
theorem sortS_pw (S : List Str) : (sortS S).Pairwise leS := by
  have q := List.pairwise_mergeSort (le := fun a b => decide (leS a b)) (fun a b c h1 h2 => by
    simp only [decide_eq_true_eq] at h1 h2 ⊢
    exact totS.trans a b c h1 h2) (fun a b => by
    have := totS.total a b
    simpa using this) S
  exact q.imp fun h => of_decide_eq_true h
theorem sortS_eq {S T : List Str} (hS : S.Nodup) (hT : T.Nodup) (hp : T.Pairwise leS) (h : ∀ x, x ∈ S ↔ x ∈ T) : sortS S = T :=
  sorted_uniq totS.anti (sortS_pw S) hp (sortS_nodup.mpr hS) hT fun x => by rw [sortS_mem, h]
theorem sortS_congr {S T : List Str} (hS : S.Nodup) (hT : T.Nodup) (h : ∀ x, x ∈ S ↔ x ∈ T) : sortS S = sortS T := sortS_eq hS (sortS_nodup.mpr hT) (sortS_pw T) fun x => by rw [sortS_mem, h]
theorem sD_sort (S : List Str) : (sD S).mergeSort leD = sD (sortS S) := by
  unfold sD sortS
  rw [List.map_mergeSort (s := leD) (f := D.str)]
  intro a _ b _
  rw [leD_str]
theorem kSort_mk {S : List Str} {F : Str → D} {g : List D} (h : S.length < 64) : kSort [.dct (mk S F)] g = .ok (.lst (sD (sortS S))) g := by
  simp only [kSort, vw, strKeys_mk, if_pos h]
  rw [← sD_sort]; rfl
theorem toPs_sD : ∀ S : List Str, toPs (sD S) = some (S.map PyData.str)
  | [] => by simp [sD, toPs]
  | x :: S => by
    show toPs (.str x :: sD S) = _
    simp [toPs, toP, toPs_sD S]
theorem sortOk_str {S : List Str} (h : S.length ≤ 16777216) : sortOk (S.map PyData.str) = true := by
  unfold sortOk
  simp only [Bool.and_eq_true, Bool.or_eq_true, List.all_eq_true, decide_eq_true_eq, List.mem_map, List.length_map]
  refine ⟨⟨⟨?_, .inr ?_⟩, ?_⟩, h⟩
  · rintro p ⟨x, _, rfl⟩ q ⟨y, _, rfl⟩
    simp [PySem.W.alike]
  · rintro p ⟨x, _, rfl⟩; rfl
  · rintro p ⟨x, _, rfl⟩; simp [PyData.depth]
theorem kSort_sD {S : List Str} {g : List D} (h : S.length ≤ 16777216) : kSort [.lst (sD S)] g = .ok (.lst (sD (sortS S))) g := by
  simp only [kSort, vw, toPs_sD, sortOk_str h, if_true, sD_sort]
/-! ### keys, lists of names -/
section
variable {S : List Str} {F : Str → D} {x : Str} {g : List D}
theorem kIdx_mk (h : x ∈ S) : kIdx (.dct (mk S F)) (.str x) g = .ok (F x) g := by simp only [kIdx, vw_dct, vw_str, keyD, lookK_in h]
theorem kIn_mk : kIn (.str x) (.dct (mk S F)) g = .ok (.bl (decide (x ∈ S))) g := by
  simp only [kIn, inB, vw_dct, vw_str, keyD, lookK_mk, Option.bind_some]
  by_cases h : x ∈ S <;> simp [h]
theorem kNotIn_mk : kNotIn (.str x) (.dct (mk S F)) g = .ok (.bl (decide (x ∉ S))) g := by
  simp only [kNotIn, inB, vw_dct, vw_str, keyD, lookK_mk, Option.bind_some]
  by_cases h : x ∈ S <;> simp [h]
theorem mPut_mk {ρ : List D} {i : Nat} {mk' mv : M D} {d : D} (hS : ρ.getD i .non = .dct (mk S F)) (h1 : mv ρ g = .ok d g) (h2 : mk' ρ g = .ok (.str x) g) (hl : S.length < 16777216) : mPut i mk' mv ρ g = .nx (ρ.set i (.dct (mk (addS S x) fun y => if y = x then d else F y))) g := by
  simp only [mPut, h1, st_ok, h2, vw_str, hS, putC, keyD, Option.bind_some]
  rw [if_pos (by rw [mk_len]; exact hl), putD_mk]
theorem mPut_set {ρ : List D} {i : Nat} {mk' mv : M D} (hS : ρ.getD i .non = .dct (mk S F)) (h1 : mv ρ g = .ok (F x) g) (h2 : mk' ρ g = .ok (.str x) g) (hl : S.length < 16777216) (hx : x ∉ S) : mPut i mk' mv ρ g = .nx (ρ.set i (.dct (mk (S ++ [x]) F))) g := by
  simp only [mPut, h1, st_ok, h2, vw_str, hS, putC, keyD, Option.bind_some]
  rw [if_pos (by rw [mk_len]; exact hl), putD_snoc hx]
end
end TL
end

section
set_option Elab.async false
set_option linter.all false
set_option autoImplicit false
set_option maxRecDepth 100000
/-! TM, part d: lists of texts: least, place, cuts, equality -/
namespace TL
open PySem PySem.Spec PyProof.Rows L2 TM
variable [TabL]
abbrev okS (x : Str) : Prop := SeqAt.shaped (.str x) = true
section
variable {x y : Str} {S : List Str} {g : List D}
theorem eqP_str (hx : okS x) (hy : okS y) : eqP (.str x) (.str y) g = some (decide (x = y)) := by
  have e : PyData.eqv (.str x) (.str y) = decide (x = y) := by
    simp only [PyData.eqv]
    by_cases h : x = y <;> simp [h]
  simp only [eqP, vw_str, toP, Option.bind_some]
  rw [if_pos ⟨hx, hy⟩, e]
theorem kEq_str (hx : okS x) (hy : okS y) : kEq (.str x) (.str y) g = .ok (.bl (decide (x = y))) g := by simp only [kEq, eqP_str hx hy]
theorem kNe_str (hx : okS x) (hy : okS y) : kNe (.str x) (.str y) g = .ok (.bl (decide (x ≠ y))) g := by
  simp only [kNe, eqP_str hx hy]
  by_cases h : x = y <;> simp [h]
theorem shaped_strs (h : ∀ x ∈ S, okS x) : PyData.canLayAll0 (S.map PyData.str) = true ∧ PyData.depthAll (S.map PyData.str) ≤ 1 := by
  induction S with
  | nil => exact ⟨by simp [PyData.canLayAll0], by simp [PyData.depthAll]⟩
  | cons x S ih =>
    obtain ⟨a, b⟩ := ih fun y hy => h y (by simp [hy])
    have hx := SeqAt.canLay_of_shaped (h x (by simp))
    have hd : (PyData.str x).depth ≤ 1 := by simp [PyData.depth]
    simp only [List.map_cons, PyData.canLayAll0, PyData.depthAll]
    refine ⟨by rw [hx, a]; rfl, ?_⟩
    omega
theorem shaped_list (h : ∀ x ∈ S, okS x) : SeqAt.shaped (.list (S.map PyData.str)) = true := by
  obtain ⟨a, b⟩ := shaped_strs h
  unfold SeqAt.shaped
  rw [Bool.and_eq_true, decide_eq_true_eq]
  refine ⟨by simpa [PyData.canLay0] using a, ?_⟩
  have : PyData.depth (.list (S.map PyData.str)) = PyData.depthAll (S.map PyData.str) + 1 := by simp [PyData.depth]
  omega
theorem shaped_tuple (h : ∀ x ∈ S, okS x) : SeqAt.shaped (.tuple (S.map PyData.str)) = true := by
  obtain ⟨a, b⟩ := shaped_strs h
  unfold SeqAt.shaped
  rw [Bool.and_eq_true, decide_eq_true_eq]
  refine ⟨by simpa [PyData.canLay0] using a, ?_⟩
  have : PyData.depth (.tuple (S.map PyData.str)) = PyData.depthAll (S.map PyData.str) + 1 := by simp [PyData.depth]
  omega
theorem any_strs (x : Str) : ∀ S : List Str, ((S.map PyData.str).any fun z => PyData.eqv z (.str x)) = decide (x ∈ S)
  | [] => rfl
  | y :: S => by
    rw [List.map_cons, List.any_cons, any_strs x S]
    simp only [PyData.eqv]
    by_cases h : y = x
    · subst h; simp
    · have : x ≠ y := fun z => h z.symm
      simp [h, this]
theorem inB_list (hx : okS x) (h : ∀ x ∈ S, okS x) : inB (.str x) (.lst (sD S)) g = some (decide (x ∈ S)) := by
  simp only [inB, vw_lst, vw_str, toP, Option.bind_some, toPs_sD]
  rw [if_pos ⟨hx, shaped_list h⟩, any_strs]
theorem kIn_list (hx : okS x) (h : ∀ x ∈ S, okS x) : kIn (.str x) (.lst (sD S)) g = .ok (.bl (decide (x ∈ S))) g := by simp only [kIn, inB_list hx h]
theorem kNotIn_list (hx : okS x) (h : ∀ x ∈ S, okS x) : kNotIn (.str x) (.lst (sD S)) g = .ok (.bl (decide (x ∉ S))) g := by
  simp only [kNotIn, inB_list hx h]
  by_cases h : x ∈ S <;> simp [h]
theorem inB_tup (hx : okS x) (h : ∀ x ∈ S, okS x) : inB (.str x) (.tup (sD S)) g = some (decide (x ∈ S)) := by
  simp only [inB, vw_tup, vw_str, toP, Option.bind_some, toPs_sD]
  rw [if_pos ⟨hx, shaped_tuple h⟩, any_strs]
theorem kNotIn_tup (hx : okS x) (h : ∀ x ∈ S, okS x) : kNotIn (.str x) (.tup (sD S)) g = .ok (.bl (decide (x ∉ S))) g := by
  simp only [kNotIn, inB_tup hx h]
  by_cases h : x ∈ S <;> simp [h]
/-- the list is not empty -/
theorem kNe_nil (h : ∀ x ∈ S, okS x) : kNe (.lst (sD S)) (.lst []) g = .ok (.bl (decide (S ≠ []))) g := by
  have e0 : toPs ([] : List D) = some [] := by simp [toPs]
  simp only [kNe, eqP, vw_lst, toP, toPs_sD, e0, Option.map_some, Option.bind_some]
  rw [if_pos ⟨shaped_list h, shaped_list (S := []) (by simp)⟩]
  cases S with
  | nil => simp [PyData.eqv, PyData.eqvAll]
  | cons x S => simp [PyData.eqv, PyData.eqvAll]
/-! ### least -/
def minS (x : Str) (S : List Str) : Str := S.foldl (fun a y => if y.cps.toList < a.cps.toList then y else a) x
theorem minD_strs (x : Str) : ∀ S : List Str, PySem.W.minD (.str x) (S.map .str) = .str (minS x S) := by
  intro S
  unfold PySem.W.minD minS
  induction S generalizing x with
  | nil => rfl
  | cons y S ih =>
    rw [List.map_cons, List.foldl_cons, List.foldl_cons, ← ih]
    rw [PySem.W.dataLt_str]
    by_cases h : y.cps.toList < x.cps.toList
    · rw [if_pos (by simpa using h), if_pos h]
    · rw [if_neg (by simpa using h), if_neg h]
theorem minS_spec : ∀ (S : List Str) (x : Str), minS x S ∈ x :: S ∧ ∀ y ∈ x :: S, leS (minS x S) y
  | [], x => ⟨by simp [minS], fun y hy => by rw [List.mem_singleton.mp hy]; exact totS.refl x⟩
  | z :: S, x => by
    have e : minS x (z :: S) = minS (if z.cps.toList < x.cps.toList then z else x) S := rfl
    obtain ⟨a, b⟩ := minS_spec S (if z.cps.toList < x.cps.toList then z else x)
    rw [e]
    by_cases h : z.cps.toList < x.cps.toList
    · rw [if_pos h] at a b ⊢
      refine ⟨List.mem_cons_of_mem _ a, fun y hy => ?_⟩
      rcases List.mem_cons.mp hy with q | q
      · rw [q]; exact totS.trans _ _ _ (b z (by simp)) (List.le_of_lt h)
      · exact b y q
    · rw [if_neg h] at a b ⊢
      refine ⟨?_, fun y hy => ?_⟩
      · rcases List.mem_cons.mp a with q | q
        · rw [q]; simp
        · simp [q]
      · rcases List.mem_cons.mp hy with q | q
        · rw [q]; exact b x (by simp)
        · rcases List.mem_cons.mp q with q | q
          · rw [q]; exact totS.trans _ _ _ (b x (by simp)) (List.not_lt.mp h)
          · exact b y (by simp [q])
theorem kMin_sD (hS : S ≠ []) : ∃ m ∈ S, (∀ y ∈ S, leS m y) ∧ kMin [.lst (sD S)] g = .ok (.str m) g := by
  cases S with
  | nil => exact absurd rfl hS
  | cons x S =>
    obtain ⟨a, b⟩ := minS_spec S x
    refine ⟨minS x S, a, b, ?_⟩
    have ok : minOk (.str x) (S.map .str) = true := by
      have dep : ∀ T : List Str, PyData.depthAll (T.map PyData.str) ≤ 1 := fun T => by
        induction T with
        | nil => simp [PyData.depthAll]
        | cons z T ih =>
          have hd : (PyData.str z).depth ≤ 1 := by simp [PyData.depth]
          simp only [List.map_cons, PyData.depthAll]
          omega
      have d1 := dep (x :: S)
      unfold minOk
      have e : (PyData.str x :: S.map .str) = (x :: S).map .str := rfl
      rw [e]
      simp only [Bool.and_eq_true, List.all_eq_true, decide_eq_true_eq, List.mem_map]
      refine ⟨⟨?_, ?_⟩, by omega⟩
      · rintro p ⟨u, _, rfl⟩ q ⟨v, _, rfl⟩
        simp [PySem.W.alike]
      · rintro p ⟨u, _, rfl⟩; rfl
    simp only [kMin, vw_lst, toPs_sD, List.map_cons, ok, if_true, minD_strs, ofScalar]
/-! ### place -/
theorem firstAt_strs (x : Str) : ∀ (S : List Str) (j : Nat), x ∈ S → firstAt (S.map .str) (.str x) j = some (j + S.idxOf x)
  | [], j, h => by cases h
  | y :: S, j, h => by
    rw [List.map_cons]
    unfold firstAt
    by_cases e : y = x
    · subst e
      rw [if_pos (by simp [PyData.eqv])]
      simp
    · have hx := (List.mem_cons.mp h).resolve_left fun z => e z.symm
      rw [if_neg (by simpa [PyData.eqv] using e), firstAt_strs x S (j + 1) hx, List.idxOf_cons]
      have : (y == x) = false := by simpa using e
      rw [this]
      simp only [cond_false]
      congr 1
      omega
theorem kIndex_sD (hx : x ∈ S) (h : ∀ x ∈ S, okS x) : kIndex [.str x] (.lst (sD S)) g = .ok (.int (S.idxOf x : Nat)) g := by
  simp only [kIndex, vw_lst, vw_str, toPs_sD, toP]
  rw [if_pos ⟨shaped_list h, h x hx⟩, firstAt_strs x S 0 hx]
  simp
/-! ### cuts -/
theorem cutL_from {α : Type} (xs : List α) (k : Nat) (h : k ≤ xs.length) : cutL xs (some (k : Int)) none = xs.drop k := by
  unfold cutL
  rw [HT.sIx_nat, HT.sIx_none, Nat.min_eq_left h]
  exact List.take_of_length_le (by simp)
theorem cutL_to {α : Type} (xs : List α) (k : Nat) : cutL xs none (some (k : Int)) = xs.take k := by
  unfold cutL
  rw [HT.sIx_nat, HT.sIx_none, List.drop_zero, Nat.sub_zero]
  rcases Nat.le_total k xs.length with h | h
  · rw [Nat.min_eq_left h]
  · rw [Nat.min_eq_right h, List.take_length, List.take_of_length_le h]
theorem sD_drop (S : List Str) (k : Nat) : (sD S).drop k = sD (S.drop k) := by simp [sD]
theorem sD_take (S : List Str) (k : Nat) : (sD S).take k = sD (S.take k) := by simp [sD]
theorem sD_len (S : List Str) : (sD S).length = S.length := by simp [sD]
theorem sD_app (S T : List Str) : sD (S ++ T) = sD S ++ sD T := by simp [sD]
theorem kCat_lst (xs ys : List D) (h : xs.length + ys.length ≤ 16777216) : kCat (.lst xs) (.lst ys) g = .ok (.lst (xs ++ ys)) g := by
  simp only [kCat, vw_lst, if_pos h]
theorem atI_nat {α : Type} (xs : List α) (i : Nat) (h : i < xs.length) : atI xs (i : Int) = xs[i]? := by
  unfold atI ixN
  rw [if_pos (by omega), if_pos (by omega)]
  simp
theorem atI_neg {α : Type} (xs : List α) (i : Nat) (h : 0 < i) (h2 : i ≤ xs.length) : atI xs (-(i : Int)) = xs[xs.length - i]? := by
  unfold atI ixN
  rw [if_neg (by omega), if_pos (by omega)]
  simp only [Option.bind_some]
  congr 1
  omega
theorem mMth_append {ρ : List D} {i : Nat} {a : M (List D)} {xs : List D} {d : D} {g1 : List D} (h : ρ.getD i .non = .lst xs) (ha : a ρ g = .ok [d] g1) (hl : xs.length < 16777216) : mMth "list" i a kAppend ρ g = .nx (ρ.set i (.lst (xs ++ [d]))) g1 := by
  simp only [mMth, mMthG, h, tyB, ha, st_ok, kAppend, if_pos hl]
  rfl
theorem mMth_extend {ρ : List D} {i : Nat} {a : M (List D)} {xs ys : List D} {d : D} {g1 : List D} (h : ρ.getD i .non = .lst xs) (ha : a ρ g = .ok [d] g1) (hd : vw g1 d = .lst ys) (hl : xs.length + ys.length ≤ 16777216) : mMth "list" i a kExtend ρ g = .nx (ρ.set i (.lst (xs ++ ys))) g1 := by
  simp only [mMth, mMthG, h, tyB, ha, st_ok, kExtend, hd, if_pos hl]
  rfl
theorem mIndex_sD {ρ : List D} {m : M D} {a : M (List D)} (hm : m ρ g = .ok (.lst (sD S)) g) (ha : a ρ g = .ok [.str x] g) (hx : x ∈ S) (h : ∀ x ∈ S, okS x) : mIndex m a ρ g = .ok (.int (S.idxOf x : Nat)) g := by
  simp only [mIndex, hm, bind_ok, vw_lst, ha, kIndex_sD hx h]
end
end TL
end

section
set_option Elab.async false
set_option linter.all false
set_option autoImplicit false
set_option maxRecDepth 100000
/-! TM, part l: drawing -/
namespace TL
open PySem PySem.Spec PyProof.Rows L2 TM
variable [TabL]
/-- the spring of draws as the hot things 0 and 1 -/
def Stm (cs : List Int) (q n x : Int) (h : List D) : List D := .lst (cs.map D.int) :: .lst [.hot 0, .int q, .int n, .int x] :: h
structure Gs (n : Nat) (g h : List D) : Prop where
  ex : ∃ (cs : List Int) (q x : Int) (m : Nat), g = Stm cs q m x h ∧ cs.length ≤ 63 ∧ 0 ≤ q ∧ 0 ≤ x ∧ x < 2147483647 ∧ m ≤ n
theorem Gs.mono {n n' : Nat} {g h : List D} (a : Gs n g h) (l : n ≤ n') : Gs n' g h := by
  obtain ⟨cs, q, x, m, e, h1, h2, h3, h4, h5⟩ := a.ex
  exact ⟨cs, q, x, m, e, h1, h2, h3, h4, by omega⟩
section
variable {cs : List Int} {q n x : Int} {h ρ : List D} {m : Int}
abbrev r5 (m : Int) (a b c : D) : List D := [.hot 1, .int m, a, b, c]
theorem st0 (a b c : D) : m2 (mVar 0) (mC (.int 0)) kIdx (r5 m a b c) (Stm cs q n x h) = .ok (.hot 0) (Stm cs q n x h) := rfl
theorem st1 (a b c : D) : m2 (mVar 0) (mC (.int 1)) kIdx (r5 m a b c) (Stm cs q n x h) = .ok (.int q) (Stm cs q n x h) := rfl
theorem st2 (a b c : D) : m2 (mVar 0) (mC (.int 2)) kIdx (r5 m a b c) (Stm cs q n x h) = .ok (.int n) (Stm cs q n x h) := rfl
theorem st3 (a b c : D) : m2 (mVar 0) (mC (.int 3)) kIdx (r5 m a b c) (Stm cs q n x h) = .ok (.int x) (Stm cs q n x h) := rfl
theorem pu1 {a b c : D} {mv : M D} {z : Int} {g : List D} (hv : mv (r5 m a b c) g = .ok (.int z) (Stm cs q n x h)) : mPutH (mVar 0) (mC (.int 1)) mv (r5 m a b c) g = .nx (r5 m a b c) (Stm cs z n x h) := by
  unfold mPutH; rw [hv]; rfl
theorem pu2 {a b c : D} {mv : M D} {z : Int} {g : List D} (hv : mv (r5 m a b c) g = .ok (.int z) (Stm cs q n x h)) : mPutH (mVar 0) (mC (.int 2)) mv (r5 m a b c) g = .nx (r5 m a b c) (Stm cs q z x h) := by
  unfold mPutH; rw [hv]; rfl
theorem pu3 {a b c : D} {mv : M D} {z : Int} {g : List D} (hv : mv (r5 m a b c) g = .ok (.int z) (Stm cs q n x h)) : mPutH (mVar 0) (mC (.int 3)) mv (r5 m a b c) g = .nx (r5 m a b c) (Stm cs q n z h) := by
  unfold mPutH; rw [hv]; rfl
theorem kAdd_i (a b : Int) (g : List D) : kAdd (.int a) (.int b) g = .ok (.int (a + b)) g := rfl
theorem kMul_i (a b : Int) (g : List D) (hb : b.natAbs < 18446744073709551616) : kMul (.int a) (.int b) g = .ok (.int (a * b)) g := by
  simp only [kMul, vw_int, if_pos (Or.inr hb : a.natAbs < _ ∨ b.natAbs < _)]
theorem kMul_j (a b : Int) (g : List D) (hb : a.natAbs < 18446744073709551616) : kMul (.int a) (.int b) g = .ok (.int (a * b)) g := by
  simp only [kMul, vw_int, if_pos (Or.inl hb : a.natAbs < _ ∨ b.natAbs < _)]
theorem kMod_i (a b : Int) (g : List D) (hb : 0 < b) : kMod (.int a) (.int b) g = .ok (.int (a % b)) g := by simp only [kMod, vw_int, if_pos hb]
theorem kFdiv_i (a b : Int) (g : List D) (hb : 0 < b) (hb2 : b < 18446744073709551616) : kFdiv (.int a) (.int b) g = .ok (.int (a / b)) g := by simp only [kFdiv, vw_int, if_pos (And.intro hb hb2)]
theorem kInt_i (a : Int) (g : List D) : kInt [.int a] g = .ok (.int a) g := rfl
theorem kPow_i (a b : Int) (g : List D) (h1 : 0 ≤ b) (h2 : b ≤ 1000000) (h3 : a.natAbs < 18446744073709551616) : kPow (.int a) (.int b) g = .ok (.int (a ^ b.toNat)) g := by simp only [kPow, vw_int, if_pos (And.intro h1 (And.intro h2 h3))]
theorem kGe_i (a b : Int) (g : List D) : kGe (.int a) (.int b) g = .ok (.bl (decide (b ≤ a))) g := rfl
theorem kGt_i (a b : Int) (g : List D) : kGt (.int a) (.int b) g = .ok (.bl (decide (b < a))) g := rfl
theorem kEq_i (a b : Int) (g : List D) : kEq (.int a) (.int b) g = .ok (.bl (decide (a = b))) g := by
  have s : ∀ i : Int, SeqAt.shaped (.int i) = true := fun i => rfl
  simp only [kEq, eqP, vw_int, toP, Option.bind_some]
  rw [if_pos ⟨s a, s b⟩]
  simp only [PyData.eqv]
  by_cases e : a = b <;> simp [e]
theorem ints_shaped : ∀ cs : List Int, PyData.canLayAll0 (cs.map PyData.int) = true ∧ PyData.depthAll (cs.map PyData.int) ≤ 1
  | [] => ⟨by simp [PyData.canLayAll0], by simp [PyData.depthAll]⟩
  | c :: cs => by
    obtain ⟨a, b⟩ := ints_shaped cs
    have hd : (PyData.int c).depth ≤ 1 := by simp [PyData.depth]
    simp only [List.map_cons, PyData.canLayAll0, PyData.depthAll, PyData.canLay0]
    exact ⟨by rw [a]; rfl, by omega⟩
theorem toPs_ints : ∀ cs : List Int, toPs (cs.map D.int) = some (cs.map PyData.int)
  | [] => by simp [toPs]
  | c :: cs => by simp [toPs, toP, toPs_ints cs]
theorem kNe_cells (cs : List Int) (g : List D) (e : D) (he : vw g e = .lst (cs.map D.int)) : kNe e (.lst []) g = .ok (.bl (decide (cs ≠ []))) g := by
  have s : SeqAt.shaped (.list (cs.map PyData.int)) = true := by
    obtain ⟨a, b⟩ := ints_shaped cs
    unfold SeqAt.shaped
    rw [Bool.and_eq_true, decide_eq_true_eq]
    refine ⟨by simpa [PyData.canLay0] using a, ?_⟩
    have : PyData.depth (.list (cs.map PyData.int)) = PyData.depthAll (cs.map PyData.int) + 1 := by simp [PyData.depth]
    omega
  have e0 : toPs ([] : List D) = some [] := by simp [toPs]
  simp only [kNe, eqP, vw_lst, he, toP, toPs_ints, e0, Option.map_some, Option.bind_some]
  rw [if_pos ⟨s, shaped_list (S := []) (by simp)⟩]
  cases cs with
  | nil => simp [PyData.eqv, PyData.eqvAll]
  | cons x S => simp [PyData.eqv, PyData.eqvAll]
theorem draw_ok {k : Nat} {g : List D} (hm : 0 < m) (hm2 : m < 1000000) (G : Gs k g h) (hk : k < 1000000000) : ∃ r g', 0 ≤ r ∧ r < m ∧ f_Ldraw [.hot 1, .int m] g = .ok (.int r) g' ∧ Gs (k + 1) g' h := by
  obtain ⟨cs, q, x, n, rfl, h1, h2, h3, h4, h5⟩ := G.ex
  -- the loop over the cells
  have w := while_inv (c := mAndT (mB (m2 (m2 (mVar 0) (mC (.int 1)) kIdx) (mC (.int 0)) kEq)) (mB (m2 (m2 (mVar 0) (mC (.int 0)) kIdx) (mL mNil kList) kNe))) (b := (mSeq (mSet 3 (mHm "list" (m2 (mVar 0) (mC (.int 0)) kIdx) (mCons (mC (.int 0)) mNil) kPopAt))
  (mSeq (mPutH (mVar 0) (mC (.int 3)) (m2 (mL (mCons (m2 (m2 (m2 (m2 (mVar 0) (mC (.int 3)) kIdx) (mC (.int 8191)) kMul) (mVar 3) kAdd) (mC (.int 3)) kAdd) mNil) kInt) (mC (.int 2147483647)) kMod))
  (mPutH (mVar 0) (mC (.int 1)) (mIte (mB (m2 (mVar 3) (m2 (mC (.int 10)) (mC (.int 18)) kPow) kGe)) (mVar 3) (mC (.int 0)))))))
    (fun l ρ g' => ∃ cs q x b, ρ = r5 m .non b .non ∧ g' = Stm cs q ((n : Int) + 1) x h ∧ l = cs.length ∧ cs.length ≤ 63 ∧ 0 ≤ q ∧ 0 ≤ x ∧ x < 2147483647)
    (fun ρ g' => ∃ cs q x b, ρ = r5 m .non b .non ∧ g' = Stm cs q ((n : Int) + 1) x h ∧ cs.length ≤ 63 ∧ 0 ≤ q ∧ 0 ≤ x ∧ x < 2147483647)
    (fun l ρ g' ⟨cs, q, x, b, er, eg, el, h1, h2, h3, h4⟩ => by
      subst er eg el
      by_cases hq : q = 0
      · by_cases hc : cs = []
        · refine .inl ⟨Stm cs q ((n : Int) + 1) x h, ?_, cs, q, x, b, rfl, rfl, h1, h2, h3, h4⟩
          rw [mAndT_e, mB_e, m2_e, st1]
          simp only [bind_ok, mC_e, kEq_i, hq, asB_e, decide_true, if_true]
          rw [mB_e, m2_e, st0]
          simp only [bind_ok, mL_e, mNil_e, kList_nil]
          rw [kNe_cells cs _ _ rfl]
          simp [hc]
        · cases cs with
          | nil => exact absurd rfl hc
          | cons c cs =>
            refine .inr ⟨Stm (c :: cs) q ((n : Int) + 1) x h, r5 m .non (.int c) .non, Stm cs (if 1000000000000000000 ≤ c then c else 0) ((n : Int) + 1) ((x * 8191 + c + 3) % 2147483647) h, cs.length, ?_, ?_, by simp, cs, _, _, _, rfl, rfl, rfl, by simp at h1; omega, by split <;> omega, Int.emod_nonneg _ (by decide), Int.emod_lt_of_pos _ (by decide)⟩
            · rw [mAndT_e, mB_e, m2_e, st1]
              simp only [bind_ok, mC_e, kEq_i, hq, asB_e, decide_true, if_true]
              rw [mB_e, m2_e, st0]
              simp only [bind_ok, mL_e, mNil_e, kList_nil]
              rw [kNe_cells (c :: cs) _ _ rfl]
              simp
            · refine Eq.trans (seq_nx (ρ' := r5 m .non (.int c) .non) (g' := Stm cs q ((n : Int) + 1) x h) (by
                rw [mSet_e]
                have e : mHm "list" (m2 (mVar 0) (mC (.int 0)) kIdx) (mCons (mC (.int 0)) mNil) kPopAt (r5 m .non b .non) (Stm (c :: cs) q ((n : Int) + 1) x h) = .ok (.int c) (Stm cs q ((n : Int) + 1) x h) := by
                  unfold mHm
                  rw [st0]
                  have e1 : (Stm (c :: cs) q ((n : Int) + 1) x h).getD 0 .non = .lst (D.int c :: cs.map D.int) := rfl
                  have e2 : kPopAt (.lst (D.int c :: cs.map D.int)) [.int 0] (Stm (c :: cs) q ((n : Int) + 1) x h) = some (.lst (cs.map D.int), .int c) := by
                    have e3 : seqIndex? 0 (D.int c :: cs.map D.int).length = some 0 := by simp [seqIndex?]
                    simp only [kPopAt, vw_int, e3]
                    rfl
                  simp only [bind_ok, e1, tyB, mCons_e, mC_e, mNil_e, e2]
                  rfl
                rw [e]
                rfl)) ?_
              refine Eq.trans (seq_nx (pu3 (cs := cs) (q := q) (n := (n : Int) + 1) (x := x) (h := h) (z := (x * 8191 + c + 3) % 2147483647) (by
                rw [m2_e, mL_e, mCons_e, m2_e, m2_e, m2_e, st3]
                simp only [bind_ok, mC_e, kMul_i x 8191 _ (by decide), mVar_e, List.getD_cons_succ, List.getD_cons_zero, kAdd_i, mNil_e, kInt_i, kMod_i _ 2147483647 _ (by decide)]))) ?_
              refine pu1 (cs := cs) (q := q) (n := (n : Int) + 1) (x := (x * 8191 + c + 3) % 2147483647) (h := h) ?_
              have e10 : ((10 : Int) ^ (18 : Int).toNat) = 1000000000000000000 := by decide
              simp only [mIte_e, mB_e, m2_e, mVar_e, mC_e, bind_ok, List.getD_cons_succ, List.getD_cons_zero, kPow_i 10 18 _ (by decide) (by decide) (by decide), e10, kGe_i, asB_e, decide_eq_true_eq]
              split <;> rfl
      · refine .inl ⟨Stm cs q ((n : Int) + 1) x h, ?_, cs, q, x, b, rfl, rfl, h1, h2, h3, h4⟩
        rw [mAndT_e, mB_e, m2_e, st1]
        simp only [bind_ok, mC_e, kEq_i, hq, asB_e, decide_false]
        rfl) (n := cs.length) (ρ := r5 m .non .non .non) (g := Stm cs q ((n : Int) + 1) x h) ⟨cs, q, x, .non, rfl, rfl, rfl, h1, h2, h3, h4⟩ (Nat.lt_of_lt_of_le (by omega) (Nat.le_of_lt FU_big))
  obtain ⟨ρ', g', e1, cs', q', x', b, rfl, rfl, h1', h2', h3', h4'⟩ := w
  have first : mPutH (mVar 0) (mC (.int 2)) (m2 (m2 (mVar 0) (mC (.int 2)) kIdx) (mC (.int 1)) kAdd) (r5 m .non .non .non) (Stm cs q n x h) = .nx (r5 m .non .non .non) (Stm cs q ((n : Int) + 1) x h) := pu2 (by
    rw [m2_e, st2]; rfl)
  by_cases hq : 0 < q'
  · refine ⟨q' % m, Stm cs' (q' / m) ((n : Int) + 1) x' h, Int.emod_nonneg _ (by omega), Int.emod_lt_of_pos _ hm, fn_rt ?_, ⟨cs', q' / m, x', n + 1, rfl, h1', Int.ediv_nonneg h2' (by omega), h3', h4', by omega⟩⟩
    show b_Ldraw (r5 m .non .non .non) _ = _
    unfold b_Ldraw
    refine Eq.trans (seq_nx first) ?_
    refine Eq.trans (seq_nx e1) ?_
    unfold mSeq
    rw [mIf_e, mB_e, m2_e, st1]
    simp only [bind_ok, mC_e, kGt_i, decide_eq_true hq, asB_e, st_ok, if_true]
    rw [mSet_e, m2_e, mL_e, mCons_e, st1]
    simp only [bind_ok, mNil_e, kInt_i, mVar_e, List.getD_cons_succ, List.getD_cons_zero, kMod_i _ _ _ hm, st_ok, List.set_cons_succ, List.set_cons_zero]
    rw [pu1 (cs := cs') (q := q') (n := (n : Int) + 1) (x := x') (h := h) (z := q' / m) (by
      rw [m2_e, st1]
      simp only [bind_ok, mVar_e, List.getD_cons_succ, List.getD_cons_zero, kFdiv_i _ _ _ hm (by omega)])]
    rfl
  · have hb1 : (x' + 7919 * ((n : Int) + 1) + 104729).natAbs < 18446744073709551616 := by omega
    generalize hmx : ((x' + 7919 * ((n : Int) + 1) + 104729) ^ 5) % 2147483629 = mx
    have hmx0 : 0 ≤ mx := by rw [← hmx]; exact Int.emod_nonneg _ (by decide)
    have hmx1 : mx < 2147483629 := by rw [← hmx]; exact Int.emod_lt_of_pos _ (by decide)
    have hb2 : (mx * 48271 + 30011 * ((n : Int) + 1) + 29).natAbs < 18446744073709551616 := by omega
    refine ⟨(mx * 48271 + 30011 * ((n : Int) + 1) + 29) ^ 3 % 1000000007 % m, Stm cs' q' ((n : Int) + 1) x' h, Int.emod_nonneg _ (by omega), Int.emod_lt_of_pos _ hm, fn_rt ?_, ⟨cs', q', x', n + 1, rfl, h1', h2', h3', h4', by omega⟩⟩
    show b_Ldraw (r5 m .non .non .non) _ = _
    unfold b_Ldraw
    refine Eq.trans (seq_nx first) ?_
    refine Eq.trans (seq_nx e1) ?_
    refine Eq.trans (seq_nx (ρ' := r5 m .non b .non) (g' := Stm cs' q' ((n : Int) + 1) x' h) (by
      rw [mIf_e, mB_e, m2_e, st1]
      simp only [bind_ok, mC_e, kGt_i, decide_eq_false hq, asB_e, st_ok]
      rfl)) ?_
    refine Eq.trans (seq_nx (ρ' := r5 m (.int mx) b .non) (g' := Stm cs' q' ((n : Int) + 1) x' h) (by
      rw [mSet_e, m2_e, mL_e, mCons_e, m2_e, m2_e, m2_e, st3]
      simp only [bind_ok]
      rw [m2_e]
      simp only [mC_e, bind_ok]
      rw [st2]
      have e5 : (5 : Int).toNat = 5 := rfl
      simp only [bind_ok, kMul_j 7919 _ _ (by decide), kAdd_i, kPow_i _ 5 _ (by decide) (by decide) hb1, mNil_e, kInt_i, kMod_i _ 2147483629 _ (by decide), e5, hmx, st_ok]
      rfl)) ?_
    rw [mRet_e, m2_e, m2_e, mL_e, mCons_e, m2_e, m2_e, m2_e, m2_e]
    simp only [mVar_e, List.getD_cons_succ, List.getD_cons_zero, mC_e, bind_ok, kMul_i mx 48271 _ (by decide)]
    rw [m2_e]
    simp only [mC_e, bind_ok]
    rw [st2]
    have e3 : (3 : Int).toNat = 3 := rfl
    simp only [bind_ok, kMul_j 30011 _ _ (by decide), kAdd_i, kPow_i _ 3 _ (by decide) (by decide) hb2, mNil_e, kInt_i, kMod_i _ 1000000007 _ (by decide), e3, mVar_e, List.getD_cons_succ, List.getD_cons_zero, kMod_i _ _ _ hm, st_ok]
end
end TL
end

section
set_option Elab.async false
set_option linter.all false
set_option autoImplicit false
set_option maxRecDepth 100000
/-! TM, part m: drawn names -/
namespace TL
open PySem PySem.Spec PyProof.Rows L2 TM
variable [TabL]
/-! ### hot things -/
theorem mHm_e {T : String} {m : M D} {a : M (List D)} {kM : D → List D → List D → Option (D × D)} {ρ g g1 g2 ds : List D} {i : Nat} {v d' rs : D} (hm : m ρ g = .ok (.hot i) g1) (ht : tyB T (g1.getD i .non) = true) (ha : a ρ g1 = .ok ds g2) (hv : g2.getD i .non = v) (hk : kM v ds g2 = some (d', rs)) : mHm T m a kM ρ g = .ok rs (g2.set i d') := by
  unfold mHm
  rw [hm]
  simp only [bind_ok, ht, if_true, ha, hv, hk]
theorem Gs.len {n : Nat} {g h : List D} (G : Gs n g h) : g.length = 2 + h.length := by
  obtain ⟨cs, q, x, m, rfl, _⟩ := G.ex
  simp [Stm]; omega
theorem Gs.snoc {n : Nat} {g h : List D} (G : Gs n g h) (v : D) : Gs n (g ++ [v]) (h ++ [v]) := by
  obtain ⟨cs, q, x, m, rfl, h1⟩ := G.ex
  exact ⟨cs, q, x, m, rfl, h1⟩
theorem Gs.last {n : Nat} {g h : List D} {v : D} (G : Gs n g (h ++ [v])) : g[2 + h.length]? = some v ∧ g.getD (2 + h.length) .non = v := by
  obtain ⟨cs, q, x, m, rfl, _⟩ := G.ex
  have e : (Stm cs q m x (h ++ [v]))[2 + h.length]? = some v := by
    rw [Nat.add_comm]
    show (h ++ [v])[h.length]? = _
    simp
  exact ⟨e, by rw [List.getD_eq_getElem?_getD, e]; rfl⟩
theorem Gs.set {n : Nat} {g h : List D} {v : D} (G : Gs n g (h ++ [v])) (v' : D) : Gs n (g.set (2 + h.length) v') (h ++ [v']) := by
  obtain ⟨cs, q, x, m, rfl, h1⟩ := G.ex
  refine ⟨cs, q, x, m, ?_, h1⟩
  rw [Nat.add_comm]
  show _ :: _ :: (h ++ [v]).set h.length v' = _
  rw [List.set_append_right _ _ (Nat.le_refl _)]
  simp [Stm]
def hOk (h : List D) : Prop := ∀ d ∈ h, ∀ n, 2 ≤ n → hb n d = true
theorem hbL_all {n : Nat} : ∀ {xs : List D}, (∀ d ∈ xs, hb n d = true) → hbL n xs = true
  | [], _ => by simp [hbL]
  | x :: xs, h => by
    simp only [hbL]
    rw [h x (by simp), hbL_all fun d hd => h d (by simp [hd])]
    rfl
theorem hb_sD (n : Nat) (S : List Str) : hb n (.lst (sD S)) = true := by
  simp only [hb]
  refine hbL_all fun d hd => ?_
  obtain ⟨x, _, rfl⟩ := List.mem_map.mp hd
  simp [hb]
theorem hb_sDt (n : Nat) (S : List Str) : hb n (.tup (sD S)) = true := by
  simp only [hb]
  refine hbL_all fun d hd => ?_
  obtain ⟨x, _, rfl⟩ := List.mem_map.mp hd
  simp [hb]
theorem Gs.drop1 {n : Nat} {g h h2 : List D} (G : Gs n g (h ++ h2)) (hk : hOk h) : dropOk (2 + h.length) g = true ∧ Gs n (g.take (2 + h.length)) h := by
  obtain ⟨cs, q, x, m, rfl, h1⟩ := G.ex
  have et : (Stm cs q m x (h ++ h2)).take (2 + h.length) = Stm cs q m x h := by
    rw [Nat.add_comm]
    show _ :: _ :: (h ++ h2).take h.length = _
    rw [List.take_left' rfl]
    rfl
  refine ⟨?_, by rw [et]; exact ⟨cs, q, x, m, rfl, h1⟩⟩
  unfold dropOk
  rw [et, Bool.and_eq_true, decide_eq_true_eq]
  refine ⟨by simp [Stm]; omega, List.all_eq_true.mpr fun d hd => ?_⟩
  rw [Bool.or_eq_true]
  left
  rcases List.mem_cons.mp hd with e | hd
  · rw [e]
    simp only [hb]
    refine hbL_all fun d hd => ?_
    obtain ⟨x, _, rfl⟩ := List.mem_map.mp hd
    simp [hb]
  · rcases List.mem_cons.mp hd with e | hd
    · rw [e]
      simp [hb, hbL]
      omega
    · exact hk d hd _ (by omega)
theorem drop_ok {m : MF} {ds g g' h h2 : List D} {d : D} {k n : Nat} (G0 : Gs k g h) (e : m ds g = .ok d g') (G : Gs n g' (h ++ h2)) (hk : hOk h) (hd : hb (2 + h.length) d = true) : ∃ g2, mDrop m ds g = .ok d g2 ∧ Gs n g2 h := by
  obtain ⟨q1, q2⟩ := G.drop1 hk
  refine ⟨g'.take (2 + h.length), ?_, q2⟩
  unfold mDrop
  rw [e, G0.len]
  simp only [hd, q1, Bool.and_self, if_true]
theorem range_upto (n : Nat) (hn : n < 1000000) (g : List D) : kRng [.int (n : Nat)] g = .ok ((List.range n).map fun j : Nat => D.int (j : Int)) g := by
  simp only [kRng, vw_int]
  rw [if_pos (by omega)]
  rfl
theorem mRng_ok {a : M (List D)} {ρ g : List D} {n : Nat} (ha : a ρ g = .ok [.int (n : Nat)] g) (hn : n < 1000000) : mRng a ρ g = .ok ((List.range n).map fun j : Nat => D.int (j : Int)) g := by
  unfold mRng
  rw [ha, bind_ok, range_upto n hn]
end TL
end

section
set_option Elab.async false
set_option linter.all false
set_option autoImplicit false
set_option maxRecDepth 100000
/-! TM, part n: drawn orders, rows, loose things -/
namespace TL
open PySem PySem.Spec PyProof.Rows L2 TM
variable [TabL]
section
variable {g h : List D} {k : Nat}
theorem perm_unmap {α : Type} {f : α → D} (u : D → α) (hu : ∀ x, u (f x) = x) {ys : List D} {l : List α} (p : ys.Perm (l.map f)) : ∃ l' : List α, l'.Perm l ∧ ys = l'.map f := by
  refine ⟨ys.map u, ?_, ?_⟩
  · have := p.map u
    rw [List.map_map] at this
    have e : l.map (u ∘ f) = l := by
      conv => rhs; rw [← List.map_id l]
      exact List.map_congr_left fun x _ => hu x
    rwa [e] at this
  · rw [List.map_map]
    conv => lhs; rw [← List.map_id ys]
    refine List.map_congr_left fun y hy => ?_
    obtain ⟨x, _, rfl⟩ := List.mem_map.mp (p.mem_iff.mp hy)
    show f x = f (u (f x))
    rw [hu]
theorem erase_perm {α : Type} : ∀ (l : List α) (i : Nat) (hi : i < l.length), (l[i] :: l.eraseIdx i).Perm l
  | [], i, hi => absurd hi (by simp)
  | x :: l, 0, hi => List.Perm.refl _
  | x :: l, i + 1, hi => by
    have hi' : i < l.length := by simpa using hi
    have ih := erase_perm l i hi'
    show (l[i] :: x :: l.eraseIdx i).Perm (x :: l)
    exact (List.Perm.swap _ _ _).trans (ih.cons x)
theorem kPopAt_ok {xs : List D} {i : Nat} (hi : i < xs.length) (hl : xs.length < 1000000) : kPopAt (.lst xs) [.int (i : Nat)] g = some (.lst (xs.eraseIdx i), xs[i]) := by
  have e : seqIndex? (i : Int) xs.length = some i := by
    unfold seqIndex?
    have h1 : ¬ ((i : Int) < 0) := by omega
    simp only [if_neg h1]
    have h2 : (0 : Int) ≤ i := by omega
    have h3 : (i : Int) < (xs.length : Int) := by omega
    simp [h2, h3]
  simp only [kPopAt, vw_int]
  rw [if_pos (by omega), e, Option.bind_some, List.getElem?_eq_getElem hi]
  rfl
theorem kLen_vw {d : D} {xs : List D} (e : vw g d = .lst xs) : kLen [d] g = .ok (.int xs.length) g := by simp only [kLen, e]
theorem mixed_ok {xs : List D} (hx : ∀ d ∈ xs, ∀ n, 2 ≤ n → hb n d = true) (hl : xs.length ≤ 60) (G : Gs k g h) (hh : hOk h) (hk : k < 900000000) :
    ∃ ys g', f_Lmixed [.hot 1, .lst xs] g = .ok (.lst ys) g' ∧ ys.Perm xs ∧ Gs (k + 60) g' h := by
  have G1 := G.snoc (.lst xs)
  have hj : vw (g ++ [.lst xs]) (.hot (2 + h.length)) = .lst xs := G1.last.2
  obtain ⟨ys, g', e1, left, G2, hp, hlen⟩ := compL_inv (k := kName 3) (c := mYes) (e := mHm "list" (mVar 2) (mCons (mCall f_Ldraw (mCons (mVar 0) (mCons (mL (mCons (mVar 2) mNil) kLen) mNil))) mNil) kPopAt) (ρ := [.hot 1, .lst xs, .hot (2 + h.length), .non]) (fun j : Nat => D.int (j : Int))
    (fun acc rest g' => ∃ left, Gs (k + (xs.length - rest.length)) g' (h ++ [.lst left]) ∧ (acc ++ left).Perm xs ∧ left.length = rest.length) (fun acc j rest g' ⟨left, G', hp, hlen⟩ => by
      simp only [List.length_cons] at hlen G'
      have hpl := hp.length_eq
      rw [List.length_append] at hpl
      obtain ⟨r, g2, r0, r1, ed, G2⟩ := draw_ok (m := (left.length : Nat)) (by omega) (by omega) G' (by omega)
      obtain ⟨i, rfl⟩ : ∃ i : Nat, r = i := ⟨r.toNat, by omega⟩
      have hi : i < left.length := by omega
      refine ⟨[.hot 1, .lst xs, .hot (2 + h.length), .int (j : Int)], true, g', rfl, rfl, .inr ⟨left[i], g2.set (2 + h.length) (.lst (left.eraseIdx i)), rfl, ?_, left.eraseIdx i, ?_, ?_, ?_⟩⟩
      · have kl : kLen [.hot (2 + h.length)] g' = .ok (.int left.length) g' := kLen_vw G'.last.2
        refine mHm_e (g1 := g') (g2 := g2) (ds := [.int (i : Nat)]) (i := 2 + h.length) (v := .lst left) (by rfl) (by rw [G'.last.2]; rfl) ?_ G2.last.2 (kPopAt_ok hi (by omega))
        simp only [mCons_e, mCall_e, mNil_e, mVar_e, bind_ok, List.getD_cons_succ, List.getD_cons_zero, mL_e, kl, ed]
      · have := G2.set (.lst (left.eraseIdx i))
        exact this.mono (by omega)
      · have q : (left[i] :: left.eraseIdx i).Perm left := erase_perm left i hi
        have : (acc ++ [left[i]] ++ left.eraseIdx i) = acc ++ (left[i] :: left.eraseIdx i) := by simp
        rw [this]
        exact (List.Perm.append_left acc q).trans hp
      · rw [List.length_eraseIdx_of_lt hi]; omega) (List.range xs.length) [] (g ++ [.lst xs]) ⟨xs, by rw [List.length_range]; exact G1.mono (by omega), by simp, by simp⟩
  have hl0 : left = [] := by simpa using hlen
  subst hl0
  simp only [List.append_nil, List.nil_append] at hp
  have hlen := hp.length_eq
  have body : mFn 2 b_Lmixed [.hot 1, .lst xs] g = .ok (.lst ys) g' := by
    refine fn_rt ?_
    show b_Lmixed [.hot 1, .lst xs, .non, .non] g = _
    unfold b_Lmixed
    refine Eq.trans (seq_nx (ρ' := [.hot 1, .lst xs, .hot (2 + h.length), .non]) (g' := g ++ [.lst xs]) (by
      have kl : kListOf [.lst xs] g = .ok (.lst xs) g := rfl
      simp only [mSet_e, mHot, mL_e, mCons_e, mNil_e, mVar_e, bind_ok, List.getD_cons_succ, List.getD_cons_zero, kl, G.len, st_ok]
      rfl)) ?_
    have er := mRng_ok (a := mCons (mL (mCons (mVar 2) mNil) kLen) mNil) (ρ := [.hot 1, .lst xs, .hot (2 + h.length), .non]) (g := g ++ [.lst xs]) (n := xs.length) (by
      have kl : kLen [.hot (2 + h.length)] (g ++ [.lst xs]) = .ok (.int xs.length) (g ++ [.lst xs]) := kLen_vw G1.last.2
      simp only [mCons_e, mNil_e, mL_e, mVar_e, bind_ok, List.getD_cons_succ, List.getD_cons_zero, kl]) (by omega)
    rw [mRet_e]
    unfold mComp
    rw [er, bind_ok, e1, bind_ok]
    unfold kList
    rw [if_pos (by omega)]
    rfl
  obtain ⟨g3, e3, G3⟩ := drop_ok G body G2 hh (by
    simp only [hb]
    exact hbL_all fun d hd => hx d (hp.mem_iff.mp hd) _ (by omega))
  exact ⟨ys, g3, e3, hp, G3.mono (by simp; omega)⟩
end
end TL
end

section
set_option Elab.async false
set_option linter.all false
set_option autoImplicit false
set_option maxRecDepth 100000
set_option maxHeartbeats 0
namespace TL
open PySem PySem.Spec PyProof.Rows L2 TM
variable [TabL]
/-- one class of errors: its name, its fields, the def that makes it -/
structure Er where
  c : Str
  fs : List Str
  q : Str
/-- what stands for one in the lists made of x and y -/
def Er.vals (e : Er) (x y : D) : List D := if e.fs.length = 1 then [x] else [x, y]
def Er.exc (e : Er) (x y : D) : D := .exc e.c (e.fs.zip (e.vals x y)).reverse
def Er.row (e : Er) (x y : D) : D := .tup [e.exc x y, e.exc x y, .lam e.q e.fs, .lst (e.vals x y)]
def er_a : List Er := [⟨"AsksOn", ["many"], lamQ "_law_made_a"⟩, ⟨"BadAllotment", ["thing"], lamQ "_law_made_a"⟩, ⟨"BadAsk", ["thing"], lamQ "_law_made_a"⟩, ⟨"BadAsker", ["thing"], lamQ "_law_made_a"⟩, ⟨"BadBounds", ["thing"], lamQ "_law_made_a"⟩, ⟨"BadCrossing", ["thing"], lamQ "_law_made_a"⟩, ⟨"BadDealing", ["thing"], lamQ "_law_made_a"⟩, ⟨"BadDeed", ["thing"], lamQ "_law_made_a"⟩, ⟨"BadDepth", ["thing"], lamQ "_law_made_a"⟩, ⟨"BadDraw", ["thing"], lamQ "_law_made_a"⟩, ⟨"BadForm", ["thing"], lamQ "_law_made_a"⟩, ⟨"BadGivers", ["index"], lamQ "_law_made_a"⟩, ⟨"BadGoods", ["index"], lamQ "_law_made_a"⟩, ⟨"BadHouses", ["thing"], lamQ "_law_made_a"⟩, ⟨"BadKind", ["thing"], lamQ "_law_made_a"⟩, ⟨"BadKnown", ["thing"], lamQ "_law_made_a"⟩, ⟨"BadLetting", ["thing"], lamQ "_law_made_a"⟩, ⟨"BadLies", ["thing"], lamQ "_law_made_a"⟩]
theorem made_a (x y z : D) (g : List D) : f_Lmade_a [x, y, z] g = .ok (.lst (er_a.map fun e => e.row x y)) g := by kernel_rfl
def er_b : List Er := [⟨"BadLot", ["index"], lamQ "_law_made_b"⟩, ⟨"BadLots", ["thing"], lamQ "_law_made_b"⟩, ⟨"BadLottery", ["fault"], lamQ "_law_made_b"⟩, ⟨"BadMarket", ["thing"], lamQ "_law_made_b"⟩, ⟨"BadName", ["thing"], lamQ "_law_made_b"⟩, ⟨"BadNeeds", ["index"], lamQ "_law_made_b"⟩, ⟨"BadNotice", ["thing"], lamQ "_law_made_b"⟩, ⟨"BadNumber", ["thing"], lamQ "_law_made_b"⟩, ⟨"BadOrder", ["index"], lamQ "_law_made_b"⟩, ⟨"BadPairing", ["thing"], lamQ "_law_made_b"⟩, ⟨"BadPairings", ["index"], lamQ "_law_made_b"⟩, ⟨"BadPaper", ["thing"], lamQ "_law_made_b"⟩, ⟨"BadPapers", ["index"], lamQ "_law_made_b"⟩, ⟨"BadPeople", ["index"], lamQ "_law_made_b"⟩, ⟨"BadPlace", ["thing"], lamQ "_law_made_b"⟩, ⟨"BadQuestion", ["thing"], lamQ "_law_made_b"⟩, ⟨"BadRanks", ["thing"], lamQ "_law_made_b"⟩, ⟨"BadResult", ["thing"], lamQ "_law_made_b"⟩]
theorem made_b (x y z : D) (g : List D) : f_Lmade_b [x, y, z] g = .ok (.lst (er_b.map fun e => e.row x y)) g := by kernel_rfl
def er_c : List Er := [⟨"BadRing", ["thing"], lamQ "_law_made_c"⟩, ⟨"BadRow", ["index"], lamQ "_law_made_c"⟩, ⟨"BadRule", ["thing"], lamQ "_law_made_c"⟩, ⟨"BadSession", ["thing"], lamQ "_law_made_c"⟩, ⟨"BadSides", ["thing"], lamQ "_law_made_c"⟩, ⟨"BadSteps", ["thing"], lamQ "_law_made_c"⟩, ⟨"BadStock", ["thing"], lamQ "_law_made_c"⟩, ⟨"BadTable", ["fault"], lamQ "_law_made_c"⟩, ⟨"BadText", ["line", "sign"], lamQ "_law_made_c"⟩, ⟨"BadThings", ["thing"], lamQ "_law_made_c"⟩, ⟨"BadTown", ["thing"], lamQ "_law_made_c"⟩, ⟨"BadWish", ["thing"], lamQ "_law_made_c"⟩, ⟨"BadWishes", ["thing"], lamQ "_law_made_c"⟩, ⟨"HasTie", ["one", "other"], lamQ "_law_made_c"⟩, ⟨"InUse", ["question"], lamQ "_law_made_c"⟩, ⟨"IsWatched", ["question"], lamQ "_law_made_c"⟩, ⟨"NoBetterRow", ["thing"], lamQ "_law_made_c"⟩, ⟨"NoCount", ["thing"], lamQ "_law_made_c"⟩]
theorem made_c (x y z : D) (g : List D) : f_Lmade_c [x, y, z] g = .ok (.lst (er_c.map fun e => e.row x y)) g := by kernel_rfl
def er_d : List Er := [⟨"NoFirm", ["ring"], lamQ "_law_made_d"⟩, ⟨"NoPerson", ["thing"], lamQ "_law_made_d"⟩, ⟨"NoRule", ["thing"], lamQ "_law_made_d"⟩, ⟨"NoTie", ["one", "other"], lamQ "_law_made_d"⟩, ⟨"NotFirm", ["pairing"], lamQ "_law_made_d"⟩, ⟨"NotNow", ["why"], lamQ "_law_made_d"⟩, ⟨"NotWatched", ["question"], lamQ "_law_made_d"⟩, ⟨"Stays", ["one", "other"], lamQ "_law_made_d"⟩, ⟨"TurnsRound", ["person", "ring"], lamQ "_law_made_d"⟩, ⟨"WouldChange", ["question", "why"], lamQ "_law_made_d"⟩]
theorem made_d (x y z : D) (g : List D) : f_Lmade_d [x, y, z] g = .ok (.lst (er_d.map fun e => e.row x y)) g := by kernel_rfl
def ers : List Er := er_a ++ er_b ++ er_c ++ er_d
theorem own_0 (fs : List (Str × D)) (g : List D) : f_Lis_own [.exc "AsksOn" fs, .int ((0 : Nat) : Int)] g = .ok (.bl true) g := by kernel_rfl
theorem own_1 (fs : List (Str × D)) (g : List D) : f_Lis_own [.exc "BadAllotment" fs, .int ((1 : Nat) : Int)] g = .ok (.bl true) g := by kernel_rfl
theorem own_2 (fs : List (Str × D)) (g : List D) : f_Lis_own [.exc "BadAsk" fs, .int ((2 : Nat) : Int)] g = .ok (.bl true) g := by kernel_rfl
theorem own_3 (fs : List (Str × D)) (g : List D) : f_Lis_own [.exc "BadAsker" fs, .int ((3 : Nat) : Int)] g = .ok (.bl true) g := by kernel_rfl
theorem own_4 (fs : List (Str × D)) (g : List D) : f_Lis_own [.exc "BadBounds" fs, .int ((4 : Nat) : Int)] g = .ok (.bl true) g := by kernel_rfl
theorem own_5 (fs : List (Str × D)) (g : List D) : f_Lis_own [.exc "BadCrossing" fs, .int ((5 : Nat) : Int)] g = .ok (.bl true) g := by kernel_rfl
theorem own_6 (fs : List (Str × D)) (g : List D) : f_Lis_own [.exc "BadDealing" fs, .int ((6 : Nat) : Int)] g = .ok (.bl true) g := by kernel_rfl
theorem own_7 (fs : List (Str × D)) (g : List D) : f_Lis_own [.exc "BadDeed" fs, .int ((7 : Nat) : Int)] g = .ok (.bl true) g := by kernel_rfl
theorem own_8 (fs : List (Str × D)) (g : List D) : f_Lis_own [.exc "BadDepth" fs, .int ((8 : Nat) : Int)] g = .ok (.bl true) g := by kernel_rfl
theorem own_9 (fs : List (Str × D)) (g : List D) : f_Lis_own [.exc "BadDraw" fs, .int ((9 : Nat) : Int)] g = .ok (.bl true) g := by kernel_rfl
theorem own_10 (fs : List (Str × D)) (g : List D) : f_Lis_own [.exc "BadForm" fs, .int ((10 : Nat) : Int)] g = .ok (.bl true) g := by kernel_rfl
theorem own_11 (fs : List (Str × D)) (g : List D) : f_Lis_own [.exc "BadGivers" fs, .int ((11 : Nat) : Int)] g = .ok (.bl true) g := by kernel_rfl
theorem own_12 (fs : List (Str × D)) (g : List D) : f_Lis_own [.exc "BadGoods" fs, .int ((12 : Nat) : Int)] g = .ok (.bl true) g := by kernel_rfl
theorem own_13 (fs : List (Str × D)) (g : List D) : f_Lis_own [.exc "BadHouses" fs, .int ((13 : Nat) : Int)] g = .ok (.bl true) g := by kernel_rfl
theorem own_14 (fs : List (Str × D)) (g : List D) : f_Lis_own [.exc "BadKind" fs, .int ((14 : Nat) : Int)] g = .ok (.bl true) g := by kernel_rfl
theorem own_15 (fs : List (Str × D)) (g : List D) : f_Lis_own [.exc "BadKnown" fs, .int ((15 : Nat) : Int)] g = .ok (.bl true) g := by kernel_rfl
theorem own_16 (fs : List (Str × D)) (g : List D) : f_Lis_own [.exc "BadLetting" fs, .int ((16 : Nat) : Int)] g = .ok (.bl true) g := by kernel_rfl
theorem own_17 (fs : List (Str × D)) (g : List D) : f_Lis_own [.exc "BadLies" fs, .int ((17 : Nat) : Int)] g = .ok (.bl true) g := by kernel_rfl
theorem own_18 (fs : List (Str × D)) (g : List D) : f_Lis_own [.exc "BadLot" fs, .int ((18 : Nat) : Int)] g = .ok (.bl true) g := by kernel_rfl
theorem own_19 (fs : List (Str × D)) (g : List D) : f_Lis_own [.exc "BadLots" fs, .int ((19 : Nat) : Int)] g = .ok (.bl true) g := by kernel_rfl
theorem own_20 (fs : List (Str × D)) (g : List D) : f_Lis_own [.exc "BadLottery" fs, .int ((20 : Nat) : Int)] g = .ok (.bl true) g := by kernel_rfl
theorem own_21 (fs : List (Str × D)) (g : List D) : f_Lis_own [.exc "BadMarket" fs, .int ((21 : Nat) : Int)] g = .ok (.bl true) g := by kernel_rfl
theorem own_22 (fs : List (Str × D)) (g : List D) : f_Lis_own [.exc "BadName" fs, .int ((22 : Nat) : Int)] g = .ok (.bl true) g := by kernel_rfl
theorem own_23 (fs : List (Str × D)) (g : List D) : f_Lis_own [.exc "BadNeeds" fs, .int ((23 : Nat) : Int)] g = .ok (.bl true) g := by kernel_rfl
theorem own_24 (fs : List (Str × D)) (g : List D) : f_Lis_own [.exc "BadNotice" fs, .int ((24 : Nat) : Int)] g = .ok (.bl true) g := by kernel_rfl
theorem own_25 (fs : List (Str × D)) (g : List D) : f_Lis_own [.exc "BadNumber" fs, .int ((25 : Nat) : Int)] g = .ok (.bl true) g := by kernel_rfl
theorem own_26 (fs : List (Str × D)) (g : List D) : f_Lis_own [.exc "BadOrder" fs, .int ((26 : Nat) : Int)] g = .ok (.bl true) g := by kernel_rfl
theorem own_27 (fs : List (Str × D)) (g : List D) : f_Lis_own [.exc "BadPairing" fs, .int ((27 : Nat) : Int)] g = .ok (.bl true) g := by kernel_rfl
theorem own_28 (fs : List (Str × D)) (g : List D) : f_Lis_own [.exc "BadPairings" fs, .int ((28 : Nat) : Int)] g = .ok (.bl true) g := by kernel_rfl
theorem own_29 (fs : List (Str × D)) (g : List D) : f_Lis_own [.exc "BadPaper" fs, .int ((29 : Nat) : Int)] g = .ok (.bl true) g := by kernel_rfl
theorem own_30 (fs : List (Str × D)) (g : List D) : f_Lis_own [.exc "BadPapers" fs, .int ((30 : Nat) : Int)] g = .ok (.bl true) g := by kernel_rfl
theorem own_31 (fs : List (Str × D)) (g : List D) : f_Lis_own [.exc "BadPeople" fs, .int ((31 : Nat) : Int)] g = .ok (.bl true) g := by kernel_rfl
theorem own_32 (fs : List (Str × D)) (g : List D) : f_Lis_own [.exc "BadPlace" fs, .int ((32 : Nat) : Int)] g = .ok (.bl true) g := by kernel_rfl
theorem own_33 (fs : List (Str × D)) (g : List D) : f_Lis_own [.exc "BadQuestion" fs, .int ((33 : Nat) : Int)] g = .ok (.bl true) g := by kernel_rfl
theorem own_34 (fs : List (Str × D)) (g : List D) : f_Lis_own [.exc "BadRanks" fs, .int ((34 : Nat) : Int)] g = .ok (.bl true) g := by kernel_rfl
theorem own_35 (fs : List (Str × D)) (g : List D) : f_Lis_own [.exc "BadResult" fs, .int ((35 : Nat) : Int)] g = .ok (.bl true) g := by kernel_rfl
theorem own_36 (fs : List (Str × D)) (g : List D) : f_Lis_own [.exc "BadRing" fs, .int ((36 : Nat) : Int)] g = .ok (.bl true) g := by kernel_rfl
theorem own_37 (fs : List (Str × D)) (g : List D) : f_Lis_own [.exc "BadRow" fs, .int ((37 : Nat) : Int)] g = .ok (.bl true) g := by kernel_rfl
theorem own_38 (fs : List (Str × D)) (g : List D) : f_Lis_own [.exc "BadRule" fs, .int ((38 : Nat) : Int)] g = .ok (.bl true) g := by kernel_rfl
theorem own_39 (fs : List (Str × D)) (g : List D) : f_Lis_own [.exc "BadSession" fs, .int ((39 : Nat) : Int)] g = .ok (.bl true) g := by kernel_rfl
theorem own_40 (fs : List (Str × D)) (g : List D) : f_Lis_own [.exc "BadSides" fs, .int ((40 : Nat) : Int)] g = .ok (.bl true) g := by kernel_rfl
theorem own_41 (fs : List (Str × D)) (g : List D) : f_Lis_own [.exc "BadSteps" fs, .int ((41 : Nat) : Int)] g = .ok (.bl true) g := by kernel_rfl
theorem own_42 (fs : List (Str × D)) (g : List D) : f_Lis_own [.exc "BadStock" fs, .int ((42 : Nat) : Int)] g = .ok (.bl true) g := by kernel_rfl
theorem own_43 (fs : List (Str × D)) (g : List D) : f_Lis_own [.exc "BadTable" fs, .int ((43 : Nat) : Int)] g = .ok (.bl true) g := by kernel_rfl
theorem own_44 (fs : List (Str × D)) (g : List D) : f_Lis_own [.exc "BadText" fs, .int ((44 : Nat) : Int)] g = .ok (.bl true) g := by kernel_rfl
theorem own_45 (fs : List (Str × D)) (g : List D) : f_Lis_own [.exc "BadThings" fs, .int ((45 : Nat) : Int)] g = .ok (.bl true) g := by kernel_rfl
theorem own_46 (fs : List (Str × D)) (g : List D) : f_Lis_own [.exc "BadTown" fs, .int ((46 : Nat) : Int)] g = .ok (.bl true) g := by kernel_rfl
theorem own_47 (fs : List (Str × D)) (g : List D) : f_Lis_own [.exc "BadWish" fs, .int ((47 : Nat) : Int)] g = .ok (.bl true) g := by kernel_rfl
theorem own_48 (fs : List (Str × D)) (g : List D) : f_Lis_own [.exc "BadWishes" fs, .int ((48 : Nat) : Int)] g = .ok (.bl true) g := by kernel_rfl
theorem own_49 (fs : List (Str × D)) (g : List D) : f_Lis_own [.exc "HasTie" fs, .int ((49 : Nat) : Int)] g = .ok (.bl true) g := by kernel_rfl
theorem own_50 (fs : List (Str × D)) (g : List D) : f_Lis_own [.exc "InUse" fs, .int ((50 : Nat) : Int)] g = .ok (.bl true) g := by kernel_rfl
theorem own_51 (fs : List (Str × D)) (g : List D) : f_Lis_own [.exc "IsWatched" fs, .int ((51 : Nat) : Int)] g = .ok (.bl true) g := by kernel_rfl
theorem own_52 (fs : List (Str × D)) (g : List D) : f_Lis_own [.exc "NoBetterRow" fs, .int ((52 : Nat) : Int)] g = .ok (.bl true) g := by kernel_rfl
theorem own_53 (fs : List (Str × D)) (g : List D) : f_Lis_own [.exc "NoCount" fs, .int ((53 : Nat) : Int)] g = .ok (.bl true) g := by kernel_rfl
theorem own_54 (fs : List (Str × D)) (g : List D) : f_Lis_own [.exc "NoFirm" fs, .int ((54 : Nat) : Int)] g = .ok (.bl true) g := by kernel_rfl
theorem own_55 (fs : List (Str × D)) (g : List D) : f_Lis_own [.exc "NoPerson" fs, .int ((55 : Nat) : Int)] g = .ok (.bl true) g := by kernel_rfl
theorem own_56 (fs : List (Str × D)) (g : List D) : f_Lis_own [.exc "NoRule" fs, .int ((56 : Nat) : Int)] g = .ok (.bl true) g := by kernel_rfl
theorem own_57 (fs : List (Str × D)) (g : List D) : f_Lis_own [.exc "NoTie" fs, .int ((57 : Nat) : Int)] g = .ok (.bl true) g := by kernel_rfl
theorem own_58 (fs : List (Str × D)) (g : List D) : f_Lis_own [.exc "NotFirm" fs, .int ((58 : Nat) : Int)] g = .ok (.bl true) g := by kernel_rfl
theorem own_59 (fs : List (Str × D)) (g : List D) : f_Lis_own [.exc "NotNow" fs, .int ((59 : Nat) : Int)] g = .ok (.bl true) g := by kernel_rfl
theorem own_60 (fs : List (Str × D)) (g : List D) : f_Lis_own [.exc "NotWatched" fs, .int ((60 : Nat) : Int)] g = .ok (.bl true) g := by kernel_rfl
theorem own_61 (fs : List (Str × D)) (g : List D) : f_Lis_own [.exc "Stays" fs, .int ((61 : Nat) : Int)] g = .ok (.bl true) g := by kernel_rfl
theorem own_62 (fs : List (Str × D)) (g : List D) : f_Lis_own [.exc "TurnsRound" fs, .int ((62 : Nat) : Int)] g = .ok (.bl true) g := by kernel_rfl
theorem own_63 (fs : List (Str × D)) (g : List D) : f_Lis_own [.exc "WouldChange" fs, .int ((63 : Nat) : Int)] g = .ok (.bl true) g := by kernel_rfl
end TL
end

section
set_option Elab.async false
set_option linter.all false
set_option autoImplicit false
set_option maxRecDepth 100000
set_option maxHeartbeats 0
namespace TL
open PySem PySem.Spec PyProof.Rows L2 TM
variable [TabL]
def Good (j : Nat) (e : Er) : Prop := (∀ (fs : List (Str × D)) (g : List D), f_Lis_own [.exc e.c fs, .int (j : Int)] g = .ok (.bl true) g) ∧ ∀ (x y : D) (g : List D), kLamF xsC fxC e.fs (e.exc x y) g = .ok (.lst (e.vals x y)) g
def AllE (P : Nat → Er → Prop) : Nat → List Er → Prop
  | _, [] => True
  | n, e :: r => P n e ∧ AllE P (n + 1) r
theorem allE_cons {P : Nat → Er → Prop} {n : Nat} {e : Er} {r : List Er} (a : P n e) (b : AllE P (n + 1) r) : AllE P n (e :: r) := ⟨a, b⟩
def en : Nat → List Er → List (Nat × Er)
  | _, [] => []
  | n, e :: r => (n, e) :: en (n + 1) r
theorem allE_mem {P : Nat → Er → Prop} : ∀ {l : List Er} {n : Nat}, AllE P n l → ∀ p ∈ en n l, P p.1 p.2
  | [], _, _, p, hp => by simp [en] at hp
  | e :: r, n, h, p, hp => by
    rcases List.mem_cons.mp hp with rfl | hp
    · exact h.1
    · exact allE_mem h.2 p hp
theorem en_snd : ∀ {l : List Er} {n : Nat}, (en n l).map (·.2) = l
  | [], _ => rfl
  | e :: r, n => by simp only [en, List.map_cons, en_snd]
theorem all_good : AllE Good 0 ers := allE_cons ⟨own_0, fun _ _ _ => by kernel_rfl⟩ <| allE_cons ⟨own_1, fun _ _ _ => by kernel_rfl⟩ <| allE_cons ⟨own_2, fun _ _ _ => by kernel_rfl⟩ <| allE_cons ⟨own_3, fun _ _ _ => by kernel_rfl⟩ <| allE_cons ⟨own_4, fun _ _ _ => by kernel_rfl⟩ <| allE_cons ⟨own_5, fun _ _ _ => by kernel_rfl⟩ <| allE_cons ⟨own_6, fun _ _ _ => by kernel_rfl⟩ <| allE_cons ⟨own_7, fun _ _ _ => by kernel_rfl⟩ <| allE_cons ⟨own_8, fun _ _ _ => by kernel_rfl⟩ <| allE_cons ⟨own_9, fun _ _ _ => by kernel_rfl⟩ <| allE_cons ⟨own_10, fun _ _ _ => by kernel_rfl⟩ <| allE_cons ⟨own_11, fun _ _ _ => by kernel_rfl⟩ <| allE_cons ⟨own_12, fun _ _ _ => by kernel_rfl⟩ <| allE_cons ⟨own_13, fun _ _ _ => by kernel_rfl⟩ <| allE_cons ⟨own_14, fun _ _ _ => by kernel_rfl⟩ <| allE_cons ⟨own_15, fun _ _ _ => by kernel_rfl⟩ <| allE_cons ⟨own_16, fun _ _ _ => by kernel_rfl⟩ <| allE_cons ⟨own_17, fun _ _ _ => by kernel_rfl⟩ <| allE_cons ⟨own_18, fun _ _ _ => by kernel_rfl⟩ <| allE_cons ⟨own_19, fun _ _ _ => by kernel_rfl⟩ <| allE_cons ⟨own_20, fun _ _ _ => by kernel_rfl⟩ <| allE_cons ⟨own_21, fun _ _ _ => by kernel_rfl⟩ <| allE_cons ⟨own_22, fun _ _ _ => by kernel_rfl⟩ <| allE_cons ⟨own_23, fun _ _ _ => by kernel_rfl⟩ <| allE_cons ⟨own_24, fun _ _ _ => by kernel_rfl⟩ <| allE_cons ⟨own_25, fun _ _ _ => by kernel_rfl⟩ <| allE_cons ⟨own_26, fun _ _ _ => by kernel_rfl⟩ <| allE_cons ⟨own_27, fun _ _ _ => by kernel_rfl⟩ <| allE_cons ⟨own_28, fun _ _ _ => by kernel_rfl⟩ <| allE_cons ⟨own_29, fun _ _ _ => by kernel_rfl⟩ <| allE_cons ⟨own_30, fun _ _ _ => by kernel_rfl⟩ <| allE_cons ⟨own_31, fun _ _ _ => by kernel_rfl⟩ <| allE_cons ⟨own_32, fun _ _ _ => by kernel_rfl⟩ <| allE_cons ⟨own_33, fun _ _ _ => by kernel_rfl⟩ <| allE_cons ⟨own_34, fun _ _ _ => by kernel_rfl⟩ <| allE_cons ⟨own_35, fun _ _ _ => by kernel_rfl⟩ <| allE_cons ⟨own_36, fun _ _ _ => by kernel_rfl⟩ <| allE_cons ⟨own_37, fun _ _ _ => by kernel_rfl⟩ <| allE_cons ⟨own_38, fun _ _ _ => by kernel_rfl⟩ <| allE_cons ⟨own_39, fun _ _ _ => by kernel_rfl⟩ <| allE_cons ⟨own_40, fun _ _ _ => by kernel_rfl⟩ <| allE_cons ⟨own_41, fun _ _ _ => by kernel_rfl⟩ <| allE_cons ⟨own_42, fun _ _ _ => by kernel_rfl⟩ <| allE_cons ⟨own_43, fun _ _ _ => by kernel_rfl⟩ <| allE_cons ⟨own_44, fun _ _ _ => by kernel_rfl⟩ <| allE_cons ⟨own_45, fun _ _ _ => by kernel_rfl⟩ <| allE_cons ⟨own_46, fun _ _ _ => by kernel_rfl⟩ <| allE_cons ⟨own_47, fun _ _ _ => by kernel_rfl⟩ <| allE_cons ⟨own_48, fun _ _ _ => by kernel_rfl⟩ <| allE_cons ⟨own_49, fun _ _ _ => by kernel_rfl⟩ <| allE_cons ⟨own_50, fun _ _ _ => by kernel_rfl⟩ <| allE_cons ⟨own_51, fun _ _ _ => by kernel_rfl⟩ <| allE_cons ⟨own_52, fun _ _ _ => by kernel_rfl⟩ <| allE_cons ⟨own_53, fun _ _ _ => by kernel_rfl⟩ <| allE_cons ⟨own_54, fun _ _ _ => by kernel_rfl⟩ <| allE_cons ⟨own_55, fun _ _ _ => by kernel_rfl⟩ <| allE_cons ⟨own_56, fun _ _ _ => by kernel_rfl⟩ <| allE_cons ⟨own_57, fun _ _ _ => by kernel_rfl⟩ <| allE_cons ⟨own_58, fun _ _ _ => by kernel_rfl⟩ <| allE_cons ⟨own_59, fun _ _ _ => by kernel_rfl⟩ <| allE_cons ⟨own_60, fun _ _ _ => by kernel_rfl⟩ <| allE_cons ⟨own_61, fun _ _ _ => by kernel_rfl⟩ <| allE_cons ⟨own_62, fun _ _ _ => by kernel_rfl⟩ <| allE_cons ⟨own_63, fun _ _ _ => by kernel_rfl⟩ <| trivial
/-! ### the things drawn -/
def someD : List D := [.non, .int 5, .int (-1), .bl true, .str "a", .str "", .lst [.int 1, .str "b"], .tup [.int 2, .non], .dct [(.inr "a", .int 1)], .lst [.lst [.str "x"]], .int (10 ^ 30), .tup [.str "s", .int 3], .bl false, .int 0, .int 1]
def AreOk (x y : D) (g : List D) : Prop := f_Lare_these [.lst [x], .lst [x]] g = .ok (.bl true) g ∧ f_Lare_these [.lst [x, y], .lst [x, y]] g = .ok (.bl true) g
section
variable {g : List D}
theorem all_yes {α : Type} (l : List α) : kAll [.lst (l.map fun _ => D.bl true)] g = .ok (.bl true) g := by
  have bd : boolsD (l.map fun _ => D.bl true) = some (l.map fun _ => true) := by
    induction l with
    | nil => rfl
    | cons c l ih => simp only [List.map_cons, boolsD, ih, Option.map_some]
  simp only [kAll, vw_lst, bd]
  rw [show (l.map fun _ => true).all id = true from List.all_eq_true.mpr fun b hb => by
    obtain ⟨_, _, rfl⟩ := List.mem_map.mp hb
    rfl]
/-- lists or tuples that are the same, thing by thing -/
theorem sm_seq {n : Nat} {d e : D} {xs ys : List D} {tp : Bool} (hd : vw g d = (if tp then .tup xs else .lst xs)) (he : vw g e = (if tp then .tup ys else .lst ys)) (hl : xs.length = ys.length) (hz : xs.length ≤ 16777216) (hn : isNon e = false)
    (hs : ∀ p ∈ xs.zip ys, f_Lsame n [p.1, p.2] g = .ok (.bl true) g) : f_Lsame (n + 1) [d, e] g = .ok (.bl true) g := by
  have isi : ∀ (c : D) (zs : List D) (cs : List Cl), vw g c = (if tp then .tup zs else .lst zs) → kIsi ksC tbC cs c g = .ok (.bl (cs.any (isB tbC (if tp then .tup zs else .lst zs)))) g := fun c zs cs hc => by
    have hk : knownB ksC (if tp then .tup zs else .lst zs) = true := by cases tp <;> rfl
    simp only [kIsi, hc, hk]
    rfl
  refine fn_rt ?_
  show b_Lsame (f_Lsame n) [d, e, .non, .non] g = _
  unfold b_Lsame
  have t9 : ∀ zs : List D, [Cl.bt "str"].any (isB tbC (if tp then .tup zs else .lst zs)) = false := fun zs => by cases tp <;> rfl
  have t0 : ∀ zs : List D, [Cl.bt "list", Cl.bt "tuple"].any (isB tbC (if tp then .tup zs else .lst zs)) = true := fun zs => by cases tp <;> rfl
  have t1 : ∀ zs : List D, [Cl.bt "list"].any (isB tbC (if tp then .tup zs else .lst zs)) = !tp := fun zs => by cases tp <;> rfl
  have t2 : ∀ zs : List D, [Cl.bt "tuple"].any (isB tbC (if tp then .tup zs else .lst zs)) = tp := fun zs => by cases tp <;> rfl
  have kb : ∀ b : Bool, kNe (.bl b) (.bl b) g = .ok (.bl false) g := fun b => by
    have s : SeqAt.shaped (.bool b) = true := by cases b <;> rfl
    simp only [kNe, eqP, vw_bl, toP, Option.bind_some]
    rw [if_pos ⟨s, s⟩]
    cases b <;> simp [PyData.eqv]
  have kd : kLen [d] g = .ok (.int xs.length) g := by
    simp only [kLen, hd]
    cases tp <;> rfl
  have ke : kLen [e] g = .ok (.int ys.length) g := by
    simp only [kLen, he]
    cases tp <;> rfl
  have kz : kZipG d e g = .ok (zipD xs ys) g := by
    simp only [kZipG, hd, he]
    cases tp <;> rfl
  have cg := compLg_pure (k := kTupT 2 (kCons (kName 2) (kCons (kName 3) kNil))) (c := mYes) (e := mCall (f_Lsame n) (mCons (mVar 2) (mCons (mVar 3) mNil))) (ρ := [d, e, .non, .non]) (g := g) (fun p : D × D => D.tup [p.1, p.2]) (fun _ => .bl true) (xs.zip ys) fun p hp => ⟨[d, e, p.1, p.2], rfl, rfl, by
    simp only [mCall_e, mCons_e, mNil_e, mVar_e, bind_ok, List.getD_cons_succ, List.getD_cons_zero, hs p hp]⟩
  have cg : compLg (kTupT 2 (kCons (kName 2) (kCons (kName 3) kNil))) mYes (mCall (f_Lsame n) (mCons (mVar 2) (mCons (mVar 3) mNil))) (zipD xs ys) [d, e, .non, .non] g = .ok ((xs.zip ys).map fun _ => .bl true) g := cg
  have kn : kIsN e .non g = .ok (.bl false) g := by rw [← hn]; rfl
  refine Eq.trans (seq_nx (ρ' := [d, e, .non, .non]) (g' := g) (by
    rw [mIf_e, mB_e, m2_e]
    simp only [mVar_e, mC_e, bind_ok, List.getD_cons_succ, List.getD_cons_zero, kn, asB_e, st_ok]
    rfl)) ?_
  refine Eq.trans (seq_nx (ρ' := [d, e, .non, .non]) (g' := g) (by
    rw [mIf_e, mTru_e, m1_e]
    simp only [mVar_e, bind_ok, List.getD_cons_succ, List.getD_cons_zero, isi e ys _ he, t9, tru1_bl, st_ok]
    rfl)) ?_
  unfold mSeq
  rw [mIf_e, mTru_e, m1_e]
  simp only [mVar_e, bind_ok, List.getD_cons_succ, List.getD_cons_zero, isi e ys _ he, t0, tru1_bl, st_ok, if_true]
  rw [mIf_e, mOrT_e, mB_e, m2_e, m1_e]
  simp only [m1_e, mVar_e, bind_ok, List.getD_cons_succ, List.getD_cons_zero, isi e ys _ he, isi d xs _ hd, t1, kb, asB_e]
  rw [if_neg (by decide), mB_e, m2_e, m1_e]
  simp only [m1_e, mVar_e, bind_ok, List.getD_cons_succ, List.getD_cons_zero, isi e ys _ he, isi d xs _ hd, t2, kb, asB_e, st_ok]
  rw [if_neg (by decide)]
  simp only [mSkip_e, mRet_e, mAndV_e, m2_e, mL_e, mCons_e, mNil_e, mVar_e, bind_ok, List.getD_cons_succ, List.getD_cons_zero, kd, ke, hl, kEq_i, decide_true]
  simp only [mCompG, mZipG, mCons_e, mNil_e, mVar_e, bind_ok, List.getD_cons_succ, List.getD_cons_zero, kz, cg]
  unfold kList
  rw [if_pos (by rw [List.length_map, List.length_zip]; omega)]
  simp only [bind_ok, all_yes, st_ok]
theorem zip_same {α : Type} {P : α × α → Prop} {l : List α} (h : ∀ x ∈ l, P (x, x)) : ∀ p ∈ l.zip l, P p := by
  induction l with
  | nil => intro p hp; simp at hp
  | cons x l ih =>
    intro p hp
    rw [List.zip_cons_cons] at hp
    rcases List.mem_cons.mp hp with e | hp
    · rw [e]; exact h x (by simp)
    · exact ih (fun y hy => h y (by simp [hy])) p hp
def Sm (n : Nat) (x : D) (g : List D) : Prop := f_Lsame n [x, x] g = .ok (.bl true) g
theorem sm_lst {n : Nat} {x : D} {xs : List D} (h : vw g x = .lst xs) (hz : xs.length ≤ 1000) (hn : isNon x = false) (hs : ∀ y ∈ xs, Sm n y g) : Sm (n + 1) x g := sm_seq (tp := false) h h rfl (by omega) hn (zip_same fun y hy => hs y hy)
theorem sm_tup {n : Nat} {x : D} {xs : List D} (h : vw g x = .tup xs) (hz : xs.length ≤ 1000) (hn : isNon x = false) (hs : ∀ y ∈ xs, Sm n y g) : Sm (n + 1) x g := sm_seq (tp := true) h h rfl (by omega) hn (zip_same fun y hy => hs y hy)
theorem sm_dct : Sm 9 (.dct [(.inr "a", .int 1)]) g := by
  have h : Sm 8 (.lst [.tup [.str "a", .int 1]]) g := sm_lst rfl (by decide) rfl fun y hy => by
    rw [List.mem_singleton.mp hy]
    refine sm_tup rfl (by decide) rfl fun z hz => ?_
    simp only [List.mem_cons, List.not_mem_nil, or_false] at hz
    rcases hz with rfl | rfl <;> (unfold Sm; kernel_rfl)
  refine fn_rt ?_
  show b_Lsame (f_Lsame 8) [.dct [(.inr "a", .int 1)], .dct [(.inr "a", .int 1)], .non, .non] g = _
  unfold b_Lsame
  refine Eq.trans (seq_nx (ρ' := [.dct [(.inr "a", .int 1)], .dct [(.inr "a", .int 1)], .non, .non]) (g' := g) (by kernel_rfl)) ?_
  refine Eq.trans (seq_nx (ρ' := [.dct [(.inr "a", .int 1)], .dct [(.inr "a", .int 1)], .non, .non]) (g' := g) (by kernel_rfl)) ?_
  refine Eq.trans (seq_nx (ρ' := [.dct [(.inr "a", .int 1)], .dct [(.inr "a", .int 1)], .non, .non]) (g' := g) (by kernel_rfl)) ?_
  have c : mCall (f_Lsame 8) (mCons (mLItems (mVar 0)) (mCons (mLItems (mVar 1)) mNil)) [.dct [(.inr "a", .int 1)], .dct [(.inr "a", .int 1)], .non, .non] g = .ok (.bl true) g := by
    rw [mCall_e, show mCons (mLItems (mVar 0)) (mCons (mLItems (mVar 1)) mNil) [.dct [(.inr "a", .int 1)], .dct [(.inr "a", .int 1)], .non, .non] g = .ok [.lst [.tup [.str "a", .int 1]], .lst [.tup [.str "a", .int 1]]] g by kernel_rfl, bind_ok]
    exact h
  have i1 : ∀ i : Nat, (i = 0 ∨ i = 1) → m1 (mVar i) (kIsi ksC tbC [.bt "dict"]) [.dct [(.inr "a", .int 1)], .dct [(.inr "a", .int 1)], .non, .non] g = .ok (.bl true) g := fun i hi => by
    rcases hi with rfl | rfl <;> kernel_rfl
  unfold mSeq
  simp only [mIf_e, mTru_e, i1 1 (.inr rfl), bind_ok, tru1_bl, st_ok, if_true, mRet_e, mAndV_e, i1 0 (.inl rfl), c]
theorem sm_some {x : D} (hx : x ∈ someD) : Sm 9 x g := by
  have leaf : ∀ n : Nat, (n = 7 ∨ n = 8) → ∀ y : D, (y = .int 1 ∨ y = .str "b" ∨ y = .int 2 ∨ y = .non ∨ y = .str "x" ∨ y = .str "s" ∨ y = .int 3) → Sm n y g := fun n hn y hy => by
    rcases hn with rfl | rfl <;> rcases hy with rfl | rfl | rfl | rfl | rfl | rfl | rfl <;> (unfold Sm; kernel_rfl)
  simp only [someD, List.mem_cons, List.not_mem_nil, or_false] at hx
  rcases hx with rfl | rfl | rfl | rfl | rfl | rfl | rfl | rfl | rfl | rfl | rfl | rfl | rfl | rfl | rfl
  · unfold Sm; kernel_rfl
  · unfold Sm; kernel_rfl
  · unfold Sm; kernel_rfl
  · unfold Sm; kernel_rfl
  · unfold Sm; kernel_rfl
  · unfold Sm; kernel_rfl
  · exact sm_lst rfl (by decide) rfl fun y hy => leaf 8 (.inr rfl) y (by simp only [List.mem_cons, List.not_mem_nil, or_false] at hy; rcases hy with rfl | rfl <;> simp)
  · exact sm_tup rfl (by decide) rfl fun y hy => leaf 8 (.inr rfl) y (by simp only [List.mem_cons, List.not_mem_nil, or_false] at hy; rcases hy with rfl | rfl <;> simp)
  · exact sm_dct
  · refine sm_lst rfl (by decide) rfl fun y hy => ?_
    rw [List.mem_singleton.mp hy]
    exact sm_lst rfl (by decide) rfl fun z hz => leaf 7 (.inl rfl) z (by rw [List.mem_singleton.mp hz]; simp)
  · unfold Sm; kernel_rfl
  · exact sm_tup rfl (by decide) rfl fun y hy => leaf 8 (.inr rfl) y (by simp only [List.mem_cons, List.not_mem_nil, or_false] at hy; rcases hy with rfl | rfl <;> simp)
  · unfold Sm; kernel_rfl
  · unfold Sm; kernel_rfl
  · unfold Sm; kernel_rfl
theorem are_of {x y : D} (hx : Sm 9 x g) (hy : Sm 9 y g) : AreOk x y g := by
  have one : ∀ xs : List D, xs.length ≤ 1000 → (∀ z ∈ xs, Sm 9 z g) → f_Lare_these [.lst xs, .lst xs] g = .ok (.bl true) g := fun xs hl h => by
    refine fn_rt ?_
    show b_Lare_these [.lst xs, .lst xs] g = _
    unfold b_Lare_these
    have := sm_lst (n := 9) (x := .lst xs) (g := g) rfl hl rfl h
    unfold Sm at this
    simp only [mRet_e, mCall_e, mCons_e, mNil_e, mVar_e, bind_ok, List.getD_cons_succ, List.getD_cons_zero, this, st_ok]
  exact ⟨one [x] (by simp) fun z hz => by rw [List.mem_singleton.mp hz]; exact hx, one [x, y] (by simp) fun z hz => by
    simp only [List.mem_cons, List.not_mem_nil, or_false] at hz
    rcases hz with rfl | rfl
    · exact hx
    · exact hy⟩
end
theorem are_some (x : D) (hx : x ∈ someD) (y : D) (hy : y ∈ someD) (g : List D) : AreOk x y g := are_of (sm_some hx) (sm_some hy)
theorem are_hot (a b : D) : AreOk (.hot 2) (.hot 2) [a, b, .lst [.str "v", .str "w"]] := by
  have h : Sm 9 (.hot 2) [a, b, .lst [.str "v", .str "w"]] := sm_lst rfl (by decide) rfl fun y hy => by
    simp only [List.mem_cons, List.not_mem_nil, or_false] at hy
    rcases hy with rfl | rfl <;> (unfold Sm; kernel_rfl)
  exact are_of h h
theorem hb_some : ∀ d ∈ someD, ∀ n, 2 ≤ n → hb n d = true := by
  intro d hd n _
  simp only [someD, List.mem_cons, List.not_mem_nil, or_false] at hd
  rcases hd with rfl | rfl | rfl | rfl | rfl | rfl | rfl | rfl | rfl | rfl | rfl | rfl | rfl | rfl | rfl <;> rfl
theorem are_vals {e : Er} {x y : D} {g : List D} (A : AreOk x y g) : f_Lare_these [.lst (e.vals x y), .lst (e.vals x y)] g = .ok (.bl true) g := by
  unfold Er.vals
  split
  · exact A.1
  · exact A.2
/-! ### the loops' turns -/
section
variable {ρ g : List D}
theorem mCall_ok {m : MF} {a : M (List D)} {ds g1 : List D} {r : R D} (ha : a ρ g = .ok ds g1) (hm : m ds g1 = r) : mCall m a ρ g = r := by rw [mCall_e, ha, bind_ok, hm]
theorem mCons_ok {a : M D} {b : M (List D)} {g1 g2 ds : List D} {d : D} (ha : a ρ g = .ok d g1) (hb : b ρ g1 = .ok ds g2) : mCons a b ρ g = .ok (d :: ds) g2 := by rw [mCons_e, ha, bind_ok, hb, bind_ok]
theorem mSet_ok {i : Nat} {m : M D} {g' : List D} {d : D} (hm : m ρ g = .ok d g') : mSet i m ρ g = .nx (ρ.set i d) g' := by rw [mSet_e, hm, st_ok]
theorem two_true {a b : M D} (ha : a ρ g = .ok (.bl true) g) (hb : b ρ g = .ok (.bl true) g) : mIf (mOrT (mNotT (mTru a)) (mNotT (mTru b))) (mRet (mC (.bl false))) mSkip ρ g = .nx ρ g := by
  simp only [mIf_e, mOrT_e, mNotT_e, mTru_e, ha, hb, bind_ok, tru1_bl, st_ok]
  rfl
end
def bOwn : MS := mIf (mOrT (mNotT (mTru (mCall f_Lis_own (mCons (mVar 7) (mCons (mVar 14) mNil))))) (mNotT (mTru (mCall f_Lis_own (mCons (mVar 8) (mCons (mVar 14) mNil)))))) (mRet (mC (.bl false))) mSkip
def bAre : MS := mIf (mOrT (mNotT (mTru (mCall f_Lare_these (mCons (mCallL xsC fxC 9 (mVar 7)) (mCons (mVar 10) mNil))))) (mNotT (mTru (mCall f_Lare_these (mCons (mCallL xsC fxC 9 (mVar 8)) (mCons (mVar 10) mNil)))))) (mRet (mC (.bl false))) mSkip
section
variable {a0 a1 a2 a3 a4 a5 a6 a7 a8 a9 a10 a11 a12 a13 a14 x y : D} {e : Er} {j : Nat} {g : List D}
theorem own_ok (G : Good j e) : bOwn [a0, a1, a2, a3, a4, a5, a6, e.exc x y, e.exc x y, .lam e.q e.fs, .lst (e.vals x y), a11, a12, a13, .int (j : Int)] g = .nx [a0, a1, a2, a3, a4, a5, a6, e.exc x y, e.exc x y, .lam e.q e.fs, .lst (e.vals x y), a11, a12, a13, .int (j : Int)] g :=
  two_true (mCall_ok (ds := [e.exc x y, .int (j : Int)]) (g1 := g) rfl (G.1 _ g)) (mCall_ok (ds := [e.exc x y, .int (j : Int)]) (g1 := g) rfl (G.1 _ g))
theorem are_turn (G : Good j e) (A : AreOk x y g) : bAre [a0, a1, a2, a3, a4, a5, a6, e.exc x y, e.exc x y, .lam e.q e.fs, .lst (e.vals x y), a11, a12, a13, a14] g = .nx [a0, a1, a2, a3, a4, a5, a6, e.exc x y, e.exc x y, .lam e.q e.fs, .lst (e.vals x y), a11, a12, a13, a14] g := by
  have c : ∀ i : Nat, (i = 7 ∨ i = 8) → mCallL xsC fxC 9 (mVar i) [a0, a1, a2, a3, a4, a5, a6, e.exc x y, e.exc x y, .lam e.q e.fs, .lst (e.vals x y), a11, a12, a13, a14] g = .ok (.lst (e.vals x y)) g := fun i hi => by
    rcases hi with rfl | rfl
    · exact G.2 x y g
    · exact G.2 x y g
  exact two_true (mCall_ok (mCons_ok (c 7 (.inl rfl)) (mCons_ok (g1 := g) rfl rfl)) (are_vals A)) (mCall_ok (mCons_ok (c 8 (.inr rfl)) (mCons_ok (g1 := g) rfl rfl)) (are_vals A))
end
abbrev kRow : KT := kTupT 4 (kCons (kName 7) (kCons (kName 8) (kCons (kName 9) (kCons (kName 10) kNil))))
abbrev kEn : KT := kTupT 2 (kCons (kName 14) (kCons kRow kNil))
def St (d a2 a3 a4 a5 : D) (r : List D) : List D := d :: .hot 1 :: a2 :: a3 :: a4 :: a5 :: .non :: r
theorem eight {r : List D} (h : r.length = 8) : ∃ a7 a8 a9 a10 a11 a12 a13 a14 : D, r = [a7, a8, a9, a10, a11, a12, a13, a14] :=
  match r, h with
  | [a7, a8, a9, a10, a11, a12, a13, a14], _ => ⟨a7, a8, a9, a10, a11, a12, a13, a14, rfl⟩
/-- the loop over what was made of drawn things -/
theorem loop_en {d a2 a3 a4 x y : D} {r g : List D} (h : r.length = 8) (A : AreOk x y g) : ∃ r', r'.length = 8 ∧ mFor (mEnum (mVar 5)) kEn (mSeq bOwn bAre) (St d a2 a3 a4 (.lst (ers.map fun e => e.row x y)) r) g = .nx (St d a2 a3 a4 (.lst (ers.map fun e => e.row x y)) r') g := by
  have hi : mEnum (mVar 5) (St d a2 a3 a4 (.lst (ers.map fun e => e.row x y)) r) g = .ok ((en 0 ers).map fun p => .tup [.int (p.1 : Int), p.2.row x y]) g := by kernel_rfl
  obtain ⟨ρ', g', e1, r', l', rfl, rfl, _⟩ := for_inv (k := kEn) (b := mSeq bOwn bAre) (fun p : Nat × Er => D.tup [.int (p.1 : Int), p.2.row x y]) (en 0 ers) (fun don rest ρ g' => ∃ r', r'.length = 8 ∧ ρ = St d a2 a3 a4 (.lst (ers.map fun e => e.row x y)) r' ∧ g' = g ∧ don ++ rest = en 0 ers) hi ⟨r, h, rfl, rfl, rfl⟩ (fun don p rest ρ g' ⟨r1, l1, e1, e2, e3⟩ => by
    subst e1 e2
    have G : Good p.1 p.2 := allE_mem all_good p (by rw [← e3]; simp)
    obtain ⟨a7, a8, a9, a10, a11, a12, a13, a14, rfl⟩ := eight l1
    refine ⟨St d a2 a3 a4 (.lst (ers.map fun e => e.row x y)) [p.2.exc x y, p.2.exc x y, .lam p.2.q p.2.fs, .lst (p.2.vals x y), a11, a12, a13, .int (p.1 : Int)], _, g', rfl, Eq.trans (seq_nx (own_ok G)) (are_turn G A), _, by rfl, rfl, rfl, by rw [List.append_assoc]; exact e3⟩)
  exact ⟨r', l', e1⟩
/-- the loop over what was made of a list that is changed behind -/
theorem loop_row {d a2 a3 a4 x y : D} {r g : List D} (h : r.length = 8) (A : AreOk x y g) : ∃ r', r'.length = 8 ∧ mFor (mIter (mVar 5)) kRow bAre (St d a2 a3 a4 (.lst (ers.map fun e => e.row x y)) r) g = .nx (St d a2 a3 a4 (.lst (ers.map fun e => e.row x y)) r') g := by
  have hi : mIter (mVar 5) (St d a2 a3 a4 (.lst (ers.map fun e => e.row x y)) r) g = .ok ((en 0 ers).map fun p => p.2.row x y) g := by
    rw [show ((en 0 ers).map fun p => p.2.row x y) = ers.map fun e => e.row x y from by
      have := congrArg (List.map fun e : Er => e.row x y) (en_snd (l := ers) (n := 0))
      rw [List.map_map] at this
      exact this]
    rfl
  obtain ⟨ρ', g', e1, r', l', rfl, rfl, _⟩ := for_inv (k := kRow) (b := bAre) (fun p : Nat × Er => p.2.row x y) (en 0 ers) (fun don rest ρ g' => ∃ r', r'.length = 8 ∧ ρ = St d a2 a3 a4 (.lst (ers.map fun e => e.row x y)) r' ∧ g' = g ∧ don ++ rest = en 0 ers) hi ⟨r, h, rfl, rfl, rfl⟩ (fun don p rest ρ g' ⟨r1, l1, e1, e2, e3⟩ => by
    subst e1 e2
    have G : Good p.1 p.2 := allE_mem all_good p (by rw [← e3]; simp)
    obtain ⟨a7, a8, a9, a10, a11, a12, a13, a14, rfl⟩ := eight l1
    refine ⟨St d a2 a3 a4 (.lst (ers.map fun e => e.row x y)) [p.2.exc x y, p.2.exc x y, .lam p.2.q p.2.fs, .lst (p.2.vals x y), a11, a12, a13, a14], _, g', rfl, are_turn G A, _, by rfl, rfl, rfl, by rw [List.append_assoc]; exact e3⟩)
  exact ⟨r', l', e1⟩
end TL
end

section
set_option Elab.async false
set_option linter.all false
set_option autoImplicit false
set_option maxRecDepth 100000
set_option maxHeartbeats 0
namespace TL
open PySem PySem.Spec PyProof.Rows L2 TM
variable [TabL]
theorem start_ok {d : D} {ns : List Int} (hd : ∀ g, kListOf [d] g = .ok (.lst (ns.map D.int)) g) : f_Lstart [d] [] = .ok (.lst [.hot 0, .int 0, .int 0, .int 11]) [.lst (ns.map D.int)] := by
  refine fn_ro ?_
  show b_Lstart [d] [] = _
  unfold b_Lstart
  have e : mHot (mL (mCons (mVar 0) mNil) kListOf) [d] [] = .ok (.hot 0) [.lst (ns.map D.int)] := by
    unfold mHot
    rw [mL_e, mCons_e, mVar_e, bind_ok, mNil_e, bind_ok, bind_ok]
    have e0 : ([d] : List D).getD 0 .non = d := rfl
    rw [e0, hd, bind_ok]
    rfl
  rw [mRetF_e, mL_e, mCons_e, e]
  rfl
theorem cut3 {α : Type} (a b c : α) (r : List α) : cutL (a :: b :: c :: r) none (some 3) = [a, b, c] := by
  have e : HT.sIx (a :: b :: c :: r).length (a :: b :: c :: r).length (some 3) = 3 := by
    simp only [HT.sIx, List.length_cons]
    first
      | omega
      | (split <;> omega)
  unfold cutL
  rw [e]
  rfl
theorem turn_ok {d c3 c5 : D} {r g : List D} {k : Nat} {j : Int} (hr : r.length = 8) (G : Gs k g []) (hk : k < 1000) : ∃ c5' r' g', r'.length = 8 ∧ Gs (k + 60) g' [] ∧
    (mSeq (mAsgT (kLstT 3 (kCons (kName 11) (kCons (kName 12) (kCons (kName 13) kNil)))) (mSl (mCall f_Lmixed (mCons (mVar 1) (mCons (mVar 2) mNil))) mNone (mSome (mC (.int 3))) kSl))
      (mSeq (mSet 5 (m2 (m2 (mCall f_Lmade_a (mCons (mVar 11) (mCons (mVar 12) (mCons (mVar 13) mNil)))) (mCall f_Lmade_b (mCons (mVar 11) (mCons (mVar 12) (mCons (mVar 13) mNil)))) kCat) (mCall f_Lmade_c (mCons (mVar 11) (mCons (mVar 12) (mCons (mVar 13) mNil)))) kCat))
      (mSeq (mMth "list" 5 (mCons (mCall f_Lmade_d (mCons (mVar 11) (mCons (mVar 12) (mCons (mVar 13) mNil)))) mNil) kExtend)
      (mFor (mEnum (mVar 5)) kEn (mSeq bOwn bAre))))) (St d (.lst someD) (.int j) .non c5 r) g = .nx (St d (.lst someD) (.int j) .non c5' r') g' := by
  obtain ⟨ys, g', e1, hp, G'⟩ := mixed_ok (xs := someD) (g := g) (h := []) (k := k) hb_some (by decide) G (fun d hd => absurd hd (by simp)) (by omega)
  have hl : ys.length = 15 := hp.length_eq
  obtain ⟨y0, y1, y2, rest, rfl⟩ : ∃ y0 y1 y2 rest, ys = y0 :: y1 :: y2 :: rest := match ys, hl with
    | y0 :: y1 :: y2 :: rest, _ => ⟨y0, y1, y2, rest, rfl⟩
  have m0 : y0 ∈ someD := hp.mem_iff.mp (by simp)
  have m1 : y1 ∈ someD := hp.mem_iff.mp (by simp)
  obtain ⟨a7, a8, a9, a10, a11, a12, a13, a14, rfl⟩ := eight hr
  obtain ⟨r', lr, el⟩ := loop_en (d := d) (a2 := .lst someD) (a3 := .int j) (a4 := .non) (x := y0) (y := y1) (r := [a7, a8, a9, a10, y0, y1, y2, a14]) (g := g') rfl (are_some y0 m0 y1 m1 g')
  refine ⟨.lst (ers.map fun e => e.row y0 y1), r', g', lr, G', ?_⟩
  refine Eq.trans (seq_nx (ρ' := St d (.lst someD) (.int j) .non c5 [a7, a8, a9, a10, y0, y1, y2, a14]) (g' := g') ?_) ?_
  · have e2 : mSl (mCall f_Lmixed (mCons (mVar 1) (mCons (mVar 2) mNil))) mNone (mSome (mC (.int 3))) kSl (St d (.lst someD) (.int j) .non c5 [a7, a8, a9, a10, a11, a12, a13, a14]) g = .ok (.lst [y0, y1, y2]) g' := by
      have ec : mCall f_Lmixed (mCons (mVar 1) (mCons (mVar 2) mNil)) (St d (.lst someD) (.int j) .non c5 [a7, a8, a9, a10, a11, a12, a13, a14]) g = .ok (.lst (y0 :: y1 :: y2 :: rest)) g' := mCall_ok (ds := [.hot 1, .lst someD]) (g1 := g) rfl e1
      rw [mSl_e, ec]
      simp only [bind_ok, mNone_e, mSome_e, mC_e, vw_int, kSl_lst, cut3]
    unfold mAsgT
    rw [e2, st_ok]
    rfl
  refine Eq.trans (seq_nx (ρ' := St d (.lst someD) (.int j) .non (.lst ((er_a ++ er_b ++ er_c).map fun e => e.row y0 y1)) [a7, a8, a9, a10, y0, y1, y2, a14]) (g' := g') (by kernel_rfl)) ?_
  refine Eq.trans (seq_nx (ρ' := St d (.lst someD) (.int j) .non (.lst (ers.map fun e => e.row y0 y1)) [a7, a8, a9, a10, y0, y1, y2, a14]) (g' := g') (by kernel_rfl)) ?_
  exact el
theorem law_ok {d : D} {ns : List Int} (hl : ns.length ≤ 63) (hd : ∀ g, kListOf [d] g = .ok (.lst (ns.map D.int)) g) : f_law [d] [] = .ok (.bl true) [] := by
  have G0 : Gs 0 [.lst (ns.map D.int), .lst [.hot 0, .int 0, .int 0, .int 11]] [] := ⟨ns, 0, 11, 0, rfl, hl, by decide, by decide, by decide, by decide⟩
  have e0 : mSet 1 (mHot (mCall f_Lstart (mCons (mVar 0) mNil))) [d, .non, .non, .non, .non, .non, .non, .non, .non, .non, .non, .non, .non, .non, .non] [] = .nx (St d .non .non .non .non [.non, .non, .non, .non, .non, .non, .non, .non]) [.lst (ns.map D.int), .lst [.hot 0, .int 0, .int 0, .int 11]] := by
    refine mSet_ok (d := .hot 1) ?_
    unfold mHot
    have ec : mCall f_Lstart (mCons (mVar 0) mNil) [d, .non, .non, .non, .non, .non, .non, .non, .non, .non, .non, .non, .non, .non, .non] [] = .ok (.lst [.hot 0, .int 0, .int 0, .int 11]) [.lst (ns.map D.int)] := mCall_ok (ds := [d]) (g1 := []) rfl (start_ok hd)
    rw [ec, bind_ok]
    rfl
  generalize [D.lst (ns.map D.int), .lst [.hot 0, .int 0, .int 0, .int 11]] = g0 at G0 e0
  have body : ∃ g, mFn 14 b_law [d] [] = .ok (.bl true) g := by
    obtain ⟨ρ1, g1, e1, c3, c5, r, lr, rfl, G1, _⟩ := for_inv (k := kName 3) (b := (mSeq (mAsgT (kLstT 3 (kCons (kName 11) (kCons (kName 12) (kCons (kName 13) kNil)))) (mSl (mCall f_Lmixed (mCons (mVar 1) (mCons (mVar 2) mNil))) mNone (mSome (mC (.int 3))) kSl))
      (mSeq (mSet 5 (m2 (m2 (mCall f_Lmade_a (mCons (mVar 11) (mCons (mVar 12) (mCons (mVar 13) mNil)))) (mCall f_Lmade_b (mCons (mVar 11) (mCons (mVar 12) (mCons (mVar 13) mNil)))) kCat) (mCall f_Lmade_c (mCons (mVar 11) (mCons (mVar 12) (mCons (mVar 13) mNil)))) kCat))
      (mSeq (mMth "list" 5 (mCons (mCall f_Lmade_d (mCons (mVar 11) (mCons (mVar 12) (mCons (mVar 13) mNil)))) mNil) kExtend)
      (mFor (mEnum (mVar 5)) kEn (mSeq bOwn bAre)))))) (fun j : Nat => D.int (j : Int)) (List.range 2)
      (fun don rest ρ g' => ∃ c3 c5 r, r.length = 8 ∧ ρ = St d (.lst someD) c3 .non c5 r ∧ Gs (don.length * 60) g' [] ∧ don ++ rest = List.range 2) (mi := mRng (mCons (mC (.int 2)) mNil)) (ρ := St d (.lst someD) .non .non .non [.non, .non, .non, .non, .non, .non, .non, .non]) (g := g0) (g0 := g0) (mRng_ok (n := 2) (by rfl) (by omega))
      ⟨.non, .non, _, rfl, rfl, G0, rfl⟩ (fun don j rest ρ g' ⟨c3, c5, r, lr, er, G', hd'⟩ => by
        subst er
        have hlen : don.length + (rest.length + 1) = 2 := by
          have := congrArg List.length hd'
          rw [List.length_append, List.length_cons, List.length_range] at this
          exact this
        obtain ⟨c5', r', g2, lr', G2, e⟩ := turn_ok (d := d) (c3 := c3) (c5 := c5) (j := (j : Int)) lr G' (by omega)
        exact ⟨St d (.lst someD) (.int (j : Int)) .non c5 r, _, g2, rfl, e, _, _, r', lr', rfl, by rw [List.length_append, List.length_singleton]; exact G2.mono (by omega), by rw [List.append_assoc]; exact hd'⟩)
    obtain ⟨cs, q, x, m, rfl, _⟩ := G1.ex
    unfold Stm at e1
    generalize D.lst (cs.map D.int) = A at e1
    generalize D.lst [.hot 0, .int q, .int (m : Int), .int x] = B at e1
    obtain ⟨a7, a8, a9, a10, a11, a12, a13, a14, rfl⟩ := eight lr
    obtain ⟨r', lr', e2⟩ := loop_row (d := d) (a2 := .lst someD) (a3 := c3) (a4 := .hot 2) (x := .hot 2) (y := .hot 2) (r := [a7, a8, a9, a10, a11, a12, a13, a14]) (g := [A, B, .lst [.str "v", .str "w"]]) rfl (are_hot A B)
    obtain ⟨b7, b8, b9, b10, b11, b12, b13, b14, rfl⟩ := eight lr'
    refine ⟨[A, B, .lst [.str "v", .str "w"]], fn_rt ?_⟩
    show b_law [d, .non, .non, .non, .non, .non, .non, .non, .non, .non, .non, .non, .non, .non, .non] [] = _
    unfold b_law
    refine Eq.trans (seq_nx e0) ?_
    refine Eq.trans (seq_nx (ρ' := St d (.lst someD) .non .non .non [.non, .non, .non, .non, .non, .non, .non, .non]) (g' := g0) (by kernel_rfl)) ?_
    refine Eq.trans (seq_nx e1) ?_
    refine Eq.trans (seq_nx (ρ' := St d (.lst someD) c3 (.hot 2) c5 [a7, a8, a9, a10, a11, a12, a13, a14]) (g' := [A, B, .lst [.str "v"]]) (by kernel_rfl)) ?_
    refine Eq.trans (seq_nx (ρ' := St d (.lst someD) c3 (.hot 2) (.lst ((er_a ++ er_b ++ er_c).map fun e => e.row (.hot 2) (.hot 2))) [a7, a8, a9, a10, a11, a12, a13, a14]) (g' := [A, B, .lst [.str "v"]]) (by kernel_rfl)) ?_
    refine Eq.trans (seq_nx (ρ' := St d (.lst someD) c3 (.hot 2) (.lst (ers.map fun e => e.row (.hot 2) (.hot 2))) [a7, a8, a9, a10, a11, a12, a13, a14]) (g' := [A, B, .lst [.str "v"]]) (by kernel_rfl)) ?_
    refine Eq.trans (seq_nx (ρ' := St d (.lst someD) c3 (.hot 2) (.lst (ers.map fun e => e.row (.hot 2) (.hot 2))) [a7, a8, a9, a10, a11, a12, a13, a14]) (g' := [A, B, .lst [.str "v", .str "w"]]) (by kernel_rfl)) ?_
    refine Eq.trans (seq_nx e2) ?_
    refine Eq.trans (seq_nx (ρ' := [d, .hot 1, .lst someD, c3, .hot 2, .lst (ers.map fun e => e.row (.hot 2) (.hot 2)), .exc "DealError" [], b7, b8, b9, b10, b11, b12, b13, b14]) (g' := [A, B, .lst [.str "v", .str "w"]]) (by rfl)) ?_
    kernel_rfl
  obtain ⟨g, eb⟩ := body
  show mDrop (mFn 14 b_law) [d] [] = _
  unfold mDrop
  rw [eb]
  rfl
end TL
end

section
set_option Elab.async false
set_option linter.all false
set_option autoImplicit false
set_option maxRecDepth 100000
set_option maxHeartbeats 0
namespace TL
open PySem PySem.Spec PyProof.Rows L2
section
variable [TabL]
theorem okF_law {P : Program} {w : World} {K : PySem.W.Frag} {mg : Str → Option Value} {base : Heap} {f : Addr} {fd : FuncData} (A : Wl K mg) (l : Lds K mg base) (F : Fun K "law" "law" s_law f fd) : FnOk P w K mg base (L2.CX P w) 12 f fd ["script"] (spT ⟨K, mg, TabL.T⟩ 1 f_law) := by
  refine (fn_ok (b := b_law) (n := 14) (k := 11) F rfl sc_law rfl rfl rfl (Wn := [.sh, .sh, .sh, .un, .sh, .sh, .sh, .un, .un, .un, .un, .un, .un, .un, .un]) ?_).imp fun _ _ _ _ q => spT_drop q
  intro X E h1 h2 h3 h4 h5 G
  subst h1 h2 h3 h4 h5
  exact body_law A G l
/-- the law's promise, from what its mirror answers -/
theorem sp_law {Z : Wd} {H : Hp} {a : Addr} {ns : List Int} {m : MF} (hm : ∀ d : D, (∀ g, kListOf [d] g = .ok (.lst (ns.map D.int)) g) → m [d] [] = .ok (.bl true) []) (hT : ∀ p ∈ Z.T, H p.1 = some (.tbl #[])) (hS : SqL Z.K H a (ns.map V.int)) : spT Z 1 m [.ref a] H (fun v _ => v = .bl true) fun _ _ _ => False := by
  have tabs : LamX.Tabs Z.T H := fun p hp => ⟨#[], hT p hp, trivial, fun pos cv z => by cases z⟩
  have fin : ∀ (f : Fz) (d : D), (∀ g, kListOf [d] g = .ok (.lst (ns.map D.int)) g) → Rp Z f d (.ref a) → Hs Z H f [] → spT Z 1 m [.ref a] H (fun v _ => v = .bl true) fun _ _ _ => False := fun f d hd r hs => by
    refine ⟨f, [d], [], rfl, .cons r .nil, hs, ?_⟩
    rw [hm d hd]
    intro v H' f' _ _ rv
    simpa only [relD, Rp] using rv
  have mk : ∀ o, H a = some o → Nt o → Hs Z H ⟨fun b => if b = a then some o else none, []⟩ [] := fun o ho nt => by
    refine ⟨fun b u h => ?_, fun b u h => ?_, tabs, rfl, fun _ h => absurd h (by simp), fun i d h => by simp at h, .nil⟩
    · dsimp only at h
      split at h
      · rename_i e
        subst e
        cases h
        exact ho
      · cases h
    · dsimp only at h
      split at h
      · cases h
        exact nt
      · cases h
  rcases hS with (h | ⟨o, h⟩) | h
  · refine fin ⟨fun b => if b = a then some (.lst (ns.map V.int)) else none, []⟩ (.lst (ns.map D.int)) (fun g => rfl) ?_ (mk _ h fun ps z => by cases z)
    simp only [Rp]
    refine ⟨a, ns.map V.int, rfl, by simp, rpL_iff.mpr ?_⟩
    generalize (⟨fun b => if b = a then some (.lst (ns.map V.int)) else none, []⟩ : Fz) = f0
    clear hm fin mk h tabs
    induction ns with
    | nil => exact .nil
    | cons n ns ih => exact .cons (by simp only [Rp]) ih
  · refine fin ⟨fun b => if b = a then some (.frz o (.lst (ns.map V.int))) else none, []⟩ (.gv ns) (fun g => rfl) ?_ (mk _ h fun ps z => by cases z)
    simp only [Rp]
    exact ⟨a, rfl, .inl ⟨o, by simp⟩⟩
  · refine fin ⟨fun _ => none, []⟩ (.gv ns) (fun g => rfl) ?_ ⟨fun _ _ h => (nomatch h), fun _ _ h => (nomatch h), tabs, rfl, fun _ h => absurd h (by simp), fun i d h => by simp at h, .nil⟩
    simp only [Rp]
    exact ⟨a, rfl, .inr h⟩
end
end TL
open PySem PySem.W PySem.Calls PyProof.Rows
theorem TL.holds_of (hm : ∀ [TL.TabL] (ns : List Int) (d : TL.D), ns.length ≤ 63 → (∀ g, TL.kListOf [d] g = .ok (.lst (ns.map TL.D.int)) g) → TL.f_law [d] [] = .ok (.bl true) []) : PySem.Challenge.rw_dealhouse_k00_errors_made.Holds := by
  w_on; o_law
  refine HandSHeadRun.head_any (r := TL.RwC) (q := view TL.RwC.prog [82]) (H := TL.hkC) (ob := TL.obC) (M := 16500) (loose := TL.lsC) (d := HandSHeadRun.topDef TL.RwC.prog 82) (kwd := []) TL.obC_eq
    (by kernel_rfl) (fun s => by kernel_rfl) TL.runAll (by kernel_rfl) (by kernel_rfl) (by kernel_rfl) (by rfl) (by first | assumption | decide +kernel) (by decide +kernel) ⟨rfl, rfl, rfl, rfl, rfl, by decide +kernel⟩ ?hw ?hc
  case hw => w_witness2
  case hc =>
    refine LamX.walk_ofTsE (l := PySem.Challenge.rw_dealhouse_k00_errors_made) (n := 63) (k := 12) (x := "script") (CX := fun w => L2.CX PySem.Challenge.rw_dealhouse_k00_errors_made.prog w) rfl (by decide) (by kernel_rfl) ⟨rfl, by decide, by decide⟩ ?F (fun w H s e s' z => by
      obtain ⟨_, _, _, _, _, _, _, _, _, _, _, _, z⟩ := z
      exact z)
    intro w mg fa h Y G hmg0
    obtain ⟨K, KX, c⟩ := Y
    have hmg : mg ("law" : PySem.Str) = some (.ref fa) := by
      have e : (HandSHeadRun.topDef TL.RwC.prog 82).name = ("law" : PySem.Str) := by kernel_rfl
      rw [← e]
      exact hmg0
    letI : TL.TabL := ⟨TL.tfC.map fun p => ((He.cT K p).2, TL.lamQ p.1)⟩
    have A : TL.Wl K mg := TL.wl_ok KX G c.t.d c.more
    have tn : TL.tabNd K TL.lamNs = true := TL.exC_at c.more 68
    obtain ⟨fd, FD⟩ := He.SaysD.defs c.t.d (d := TL.dd "law" TL.s_law) (List.mem_of_getElem? (i := 15) rfl)
    have FD : L2.FunD K "law" "law" (L2.defArgs TL.s_law) (L2.defBody TL.s_law) (L2.defScope TL.s_law) [] [] (He.fAd K ("law", none)) fd := FD
    have F := TL.fun_of FD
    have hb := L2.FunD.bindsA (ps := ["script"]) FD fun _ _ _ _ _ _ us hl => match us, hl with | [_], _ => rfl
    have hf := He.glo_ok KX G (c.t.d.facts (f := .glo "law") (List.mem_of_getElem? (i := 34) rfl))
    rw [hmg] at hf
    cases hf
    refine ⟨K, KX, fd, TL.tfC.map (He.cT K), TL.spT ⟨K, mg, TL.TabL.T⟩ 1 TL.f_law, fun p hp => ?_, fun p hp => ?_, fun p hp => ?_, fun s u => ?_, fun H a ns hl _ hT hS => ?_, fun base hK hN TB => ?_⟩
    · obtain ⟨q, hq, rfl⟩ := List.mem_map.mp hp
      exact c.empty q hq
    · obtain ⟨q, hq, rfl⟩ := List.mem_map.mp hp
      exact c.out q hq
    · obtain ⟨q, hq, rfl⟩ := List.mem_map.mp hp
      exact codeHd_of_K KX (c.hd q hq)
    · exact hb s [u] rfl
    · refine TL.sp_law (fun d hd => hm ns d hl hd) (fun p hp => ?_) hS
      obtain ⟨q, hq, rfl⟩ := List.mem_map.mp hp
      exact hT _ (List.mem_map.mpr ⟨q, hq, rfl⟩)
    · have TBp : ∀ x : PySem.Str, x ∈ TL.lamNs → _ := fun x hx => TB _ (List.mem_map.mpr ⟨(x, none), show (x, none) ∈ TL.lamNs.map fun x => (x, none) from List.mem_map.mpr ⟨x, hx, rfl⟩, rfl⟩)
      have mT : ∀ x : PySem.Str, x ∈ TL.lamNs → ((He.cT K (x, none)).2, TL.lamQ x) ∈ TL.TabL.T := fun x hx => List.mem_map.mpr ⟨(x, none), show (x, none) ∈ TL.lamNs.map fun x => (x, none) from List.mem_map.mpr ⟨x, hx, rfl⟩, rfl⟩
      have uT : ∀ x : PySem.Str, x ∈ TL.lamNs → ∀ p ∈ TL.TabL.T, p.1 = (He.cT K (x, none)).2 → p.2 = TL.lamQ x := fun x hx p hp e => by
        obtain ⟨q, hq, rfl⟩ := List.mem_map.mp hp
        obtain ⟨y, hy, rfl⟩ := List.mem_map.mp (show q ∈ TL.lamNs.map fun x => (x, none) from hq)
        rw [TL.tabNd_ok tn hy hx e]
      have l : TL.Lds K mg base := ⟨TL.ld_ok (st := TL.s_Lmade_a) KX G c.t.d (List.mem_of_getElem? (i := 3) rfl) (List.mem_of_getElem? (i := 22) rfl) (TBp "_law_made_a" (by decide)) (mT "_law_made_a" (by decide)) (uT "_law_made_a" (by decide)),
        TL.ld_ok (st := TL.s_Lmade_b) KX G c.t.d (List.mem_of_getElem? (i := 4) rfl) (List.mem_of_getElem? (i := 23) rfl) (TBp "_law_made_b" (by decide)) (mT "_law_made_b" (by decide)) (uT "_law_made_b" (by decide)),
        TL.ld_ok (st := TL.s_Lmade_c) KX G c.t.d (List.mem_of_getElem? (i := 5) rfl) (List.mem_of_getElem? (i := 24) rfl) (TBp "_law_made_c" (by decide)) (mT "_law_made_c" (by decide)) (uT "_law_made_c" (by decide)),
        TL.ld_ok (st := TL.s_Lmade_d) KX G c.t.d (List.mem_of_getElem? (i := 6) rfl) (List.mem_of_getElem? (i := 25) rfl) (TBp "_law_made_d" (by decide)) (mT "_law_made_d" (by decide)) (uT "_law_made_d" (by decide))⟩
      exact TL.okF_law A l F
theorem PySem.Challenge.cw_dealhouse_k00_errors_made_holds : PySem.Challenge.rw_dealhouse_k00_errors_made.Holds := by
  exact TL.holds_of fun ns d hl hd => TL.law_ok hl hd
end
