import PyProof.Rows.All
import Wide.All
import OpenK.AllK
import Wide.FinOn
import Wide.Once
import KE.KStateDown
import HandS.Head0
import HandS.Head1
import HandS.Head2
import HandS.HeadEnd
import HandS.HeadHook4
import HandS.ForMost
import HandS.Walk
import HandS.ForExc
import HandS.Lambda
import HandS.CallSlots
import HandS.Style
import KE.DataEq
import HandS.Text
import HandS.Defaults
import HandS.IsInst
import PyProof.RulesMatch
import PyProof.EnumMake
import PyProof.Draws
import HandS.Flow
import HandS.Codes
import HandS.More
import HandS.Comp
import PyProof.CollectStr
import KE.SortCalls
import HandS.Words
import HandS.Exc
import HandS.AnyAll
import HandS.StrMore
import HandS.Nested
import HandS.Iter
import HandS.Conv
import HandS.ExcInit
import HandS.ExcField
import HandS.ExcIs
import HandS.HeadWalk
import PyProof.ExcBaseAll.LookupError
import PyProof.ExcBaseAll.OverflowError
import PyProof.ExcBaseAll.RuntimeError
import PyProof.Rows.FactsExc_KeyError
import OpenK.KMake
import HandS.EndTab
import PyProof.ReprReads
import PyProof.Rows.NestShow
import PyProof.CallFns
import HandS.WrittenGet
import PyProof.StrOps2
import PyProof.ListMulRoad
import PyProof.ListStr
import KE.GoesEnumKw
import HandS.Star
import HandS.Slots
import HandS.HeadHook2
import KE.GoesMore
import HandS.Property
import HandS.MakeKwOnly
import OpenK.KOps
import HandS.SortInts
import HandS.SortKw
import KE.DatumOrd
import HandS.DictComp
import HandS.Dict
import HandS.List
import HandS.GenCall
import HandS.GenYield
import HandS.GenList
import HandS.SetFor
import HandS.NoneIn
import HandS.GenOver
import HandS.TupAny
import HandS.SetTxt0
import HandS.Strs
import HandS.Wide
import PySem.Challenge.RW_holedlines_k01_errors_made
set_option Elab.async false
section
set_option Elab.async false
set_option linter.all false
set_option autoImplicit false
set_option maxRecDepth 100000
set_option maxHeartbeats 0
namespace F
open PySem PySem.Spec PyProof.Rows L2
def sS (x : List Nat) : Str := ⟨x.toArray⟩
def keTl : List Value := [.type "KeyError", .type "LookupError", .type "Exception", .type "BaseException", .type "object"]
def kitT (K : PySem.W.Frag) (l : List Addr) (cv : Value) (bs : List Bool) : Bool := decide (l.map (fun a => PySem.W.kitOne K (.ref a) cv) = bs.map some)
/-- the built-in class over which an own one stands -/
inductive XB | V | L | O | R | K
  deriving DecidableEq
def XB.nw : XB → String | .V => "ValueError.__new__" | .L => "LookupError.__new__" | .O => "OverflowError.__new__" | .R => "RuntimeError.__new__" | .K => "LookupError.__new__"
def XB.tl : XB → List Value
  | .V => [.type "ValueError", .type "Exception", .type "BaseException", .type "object"]
  | .L => [.type "LookupError", .type "Exception", .type "BaseException", .type "object"]
  | .O => [.type "OverflowError", .type "ArithmeticError", .type "Exception", .type "BaseException", .type "object"]
  | .R => [.type "RuntimeError", .type "Exception", .type "BaseException", .type "object"]
  | .K => keTl
def slAd (K : PySem.W.Frag) (C : Addr) (f : Str) : Addr := match PySem.W.findIn K (.ref C) f with
  | some (some (.ref p)) => p
  | _ => 0
def shpB (K : PySem.W.Frag) (b : XB) (C : Addr) : Bool := match K.lookup C with
  | some ⟨.type "type", _, .cls cd, sl⟩ => (match cd.mro, sl.toList with
    | .ref C' :: bm, [_, _, _, _, some (.builtin n), _] => decide (C' = C) && (decide (n = b.nw) && (!cd.hasDel && (cd.hasDict && (bm == b.tl))))
    | _, _ => false)
  | _ => false
/-- tables at one address tell one name -/
def tabsB1 (l : List (Addr × Option Str)) : Bool := l.all fun z => l.all fun q => !decide (z.1 = q.1) || decide (z.2 = q.2)
def oexB (K : PySem.W.Frag) (b : XB) (C : Addr) : Bool := shpB K b C && (decide (PySem.W.findIn K (.ref C) "__setattr__" = some (some (.builtin "object.__setattr__"))) && (decide (PySem.W.subIn K (.ref C) (.type "BaseException") = some true) && (decide (PySem.W.typeIn K (.ref C) = some (.type "type")) && PySem.W.keepIn K (.ref C))))
/-- .. and of its instances, for isinstance -/
def excB (K : PySem.W.Frag) (C : Addr) : Bool := xfB K C && (decide (PySem.W.findIn K (.ref C) "__class__" = some (some (.builtin "object.__class__"))) && (decide (PySem.W.specialIn K (.builtin "object.__class__") "__get__" = some (some (.builtin "getset_descriptor.__get__"))) && (decide (PySem.W.takesIn K (.builtin "object.__class__") = some true) && decide (PySem.W.mroIn K C (.type "object") = some true))))
def top (i : Nat) : Stmt := PySem.Challenge.pw_holedlines_k01_errors_made.main.body.getD i (.Pass ⟨0, 0, 0, 0⟩)
def d__law_bag : He.DefD := ⟨("_law_bag", none), "_law_bag", "_law_bag", defArgs (top 23), defBody (top 23), defScope (top 23), [], []⟩
def d__law_take : He.DefD := ⟨("_law_take", none), "_law_take", "_law_take", defArgs (top 24), defBody (top 24), defScope (top 24), [], []⟩
def d__law_of : He.DefD := ⟨("_law_of", none), "_law_of", "_law_of", defArgs (top 25), defBody (top 25), defScope (top 25), [], []⟩
def d__law_made : He.DefD := ⟨("_law_made", none), "_law_made", "_law_made", defArgs (top 27), defBody (top 27), defScope (top 27), [], []⟩
def d__law_values : He.DefD := ⟨("_law_values", none), "_law_values", "_law_values", defArgs (top 26), defBody (top 26), defScope (top 26), [], []⟩
def d__law_under : He.DefD := ⟨("_law_under", none), "_law_under", "_law_under", defArgs (top 28), defBody (top 28), defScope (top 28), [], []⟩
def d__law_due : He.DefD := ⟨("_law_due", none), "_law_due", "_law_due", defArgs (top 30), defBody (top 30), defScope (top 30), [], []⟩
def d__law_own : He.DefD := ⟨("_law_own", none), "_law_own", "_law_own", defArgs (top 29), defBody (top 29), defScope (top 29), [], []⟩
def d_law : He.DefD := ⟨("law", none), "law", "law", defArgs (top 31), defBody (top 31), defScope (top 31), [], []⟩
def mt_BadText : Stmt := (C8.clsBody (top 1)).getD 0 (.Pass ⟨0, 0, 0, 0⟩)
def di_BadText : He.DefD := ⟨("BadText", some "__init__"), "__init__", "BadText.__init__", defArgs mt_BadText, defBody mt_BadText, defScope mt_BadText, [], []⟩
def mt_BadTemplate : Stmt := (C8.clsBody (top 2)).getD 0 (.Pass ⟨0, 0, 0, 0⟩)
def di_BadTemplate : He.DefD := ⟨("BadTemplate", some "__init__"), "__init__", "BadTemplate.__init__", defArgs mt_BadTemplate, defBody mt_BadTemplate, defScope mt_BadTemplate, [], []⟩
def mt_BadFill : Stmt := (C8.clsBody (top 3)).getD 0 (.Pass ⟨0, 0, 0, 0⟩)
def di_BadFill : He.DefD := ⟨("BadFill", some "__init__"), "__init__", "BadFill.__init__", defArgs mt_BadFill, defBody mt_BadFill, defScope mt_BadFill, [], []⟩
def mt_BadMend : Stmt := (C8.clsBody (top 4)).getD 0 (.Pass ⟨0, 0, 0, 0⟩)
def di_BadMend : He.DefD := ⟨("BadMend", some "__init__"), "__init__", "BadMend.__init__", defArgs mt_BadMend, defBody mt_BadMend, defScope mt_BadMend, [], []⟩
def mt_BadWord : Stmt := (C8.clsBody (top 5)).getD 0 (.Pass ⟨0, 0, 0, 0⟩)
def di_BadWord : He.DefD := ⟨("BadWord", some "__init__"), "__init__", "BadWord.__init__", defArgs mt_BadWord, defBody mt_BadWord, defScope mt_BadWord, [], []⟩
def mt_BadWidth : Stmt := (C8.clsBody (top 6)).getD 0 (.Pass ⟨0, 0, 0, 0⟩)
def di_BadWidth : He.DefD := ⟨("BadWidth", some "__init__"), "__init__", "BadWidth.__init__", defArgs mt_BadWidth, defBody mt_BadWidth, defScope mt_BadWidth, [], []⟩
def mt_BadRow : Stmt := (C8.clsBody (top 7)).getD 0 (.Pass ⟨0, 0, 0, 0⟩)
def di_BadRow : He.DefD := ⟨("BadRow", some "__init__"), "__init__", "BadRow.__init__", defArgs mt_BadRow, defBody mt_BadRow, defScope mt_BadRow, [], []⟩
def mt_NoLine : Stmt := (C8.clsBody (top 8)).getD 0 (.Pass ⟨0, 0, 0, 0⟩)
def di_NoLine : He.DefD := ⟨("NoLine", some "__init__"), "__init__", "NoLine.__init__", defArgs mt_NoLine, defBody mt_NoLine, defScope mt_NoLine, [], []⟩
def mt_NoRange : Stmt := (C8.clsBody (top 9)).getD 0 (.Pass ⟨0, 0, 0, 0⟩)
def di_NoRange : He.DefD := ⟨("NoRange", some "__init__"), "__init__", "NoRange.__init__", defArgs mt_NoRange, defBody mt_NoRange, defScope mt_NoRange, [], []⟩
def mt_NoPlace : Stmt := (C8.clsBody (top 10)).getD 0 (.Pass ⟨0, 0, 0, 0⟩)
def di_NoPlace : He.DefD := ⟨("NoPlace", some "__init__"), "__init__", "NoPlace.__init__", defArgs mt_NoPlace, defBody mt_NoPlace, defScope mt_NoPlace, [], []⟩
def mt_NoContent : Stmt := (C8.clsBody (top 11)).getD 0 (.Pass ⟨0, 0, 0, 0⟩)
def di_NoContent : He.DefD := ⟨("NoContent", some "__init__"), "__init__", "NoContent.__init__", defArgs mt_NoContent, defBody mt_NoContent, defScope mt_NoContent, [], []⟩
def mt_NoHole : Stmt := (C8.clsBody (top 12)).getD 0 (.Pass ⟨0, 0, 0, 0⟩)
def di_NoHole : He.DefD := ⟨("NoHole", some "__init__"), "__init__", "NoHole.__init__", defArgs mt_NoHole, defBody mt_NoHole, defScope mt_NoHole, [], []⟩
def mt_NoName : Stmt := (C8.clsBody (top 13)).getD 0 (.Pass ⟨0, 0, 0, 0⟩)
def di_NoName : He.DefD := ⟨("NoName", some "__init__"), "__init__", "NoName.__init__", defArgs mt_NoName, defBody mt_NoName, defScope mt_NoName, [], []⟩
def mt_TooLong : Stmt := (C8.clsBody (top 14)).getD 0 (.Pass ⟨0, 0, 0, 0⟩)
def di_TooLong : He.DefD := ⟨("TooLong", some "__init__"), "__init__", "TooLong.__init__", defArgs mt_TooLong, defBody mt_TooLong, defScope mt_TooLong, [], []⟩
def mt_TooDeep : Stmt := (C8.clsBody (top 15)).getD 0 (.Pass ⟨0, 0, 0, 0⟩)
def di_TooDeep : He.DefD := ⟨("TooDeep", some "__init__"), "__init__", "TooDeep.__init__", defArgs mt_TooDeep, defBody mt_TooDeep, defScope mt_TooDeep, [], []⟩
def mt_TooWide : Stmt := (C8.clsBody (top 16)).getD 0 (.Pass ⟨0, 0, 0, 0⟩)
def di_TooWide : He.DefD := ⟨("TooWide", some "__init__"), "__init__", "TooWide.__init__", defArgs mt_TooWide, defBody mt_TooWide, defScope mt_TooWide, [], []⟩
def mt_TooMany : Stmt := (C8.clsBody (top 17)).getD 0 (.Pass ⟨0, 0, 0, 0⟩)
def di_TooMany : He.DefD := ⟨("TooMany", some "__init__"), "__init__", "TooMany.__init__", defArgs mt_TooMany, defBody mt_TooMany, defScope mt_TooMany, [], []⟩
def mt_NothingDone : Stmt := (C8.clsBody (top 18)).getD 0 (.Pass ⟨0, 0, 0, 0⟩)
def di_NothingDone : He.DefD := ⟨("NothingDone", some "__init__"), "__init__", "NothingDone.__init__", defArgs mt_NothingDone, defBody mt_NothingDone, defScope mt_NothingDone, [], []⟩
def mt_Stale : Stmt := (C8.clsBody (top 19)).getD 0 (.Pass ⟨0, 0, 0, 0⟩)
def di_Stale : He.DefD := ⟨("Stale", some "__init__"), "__init__", "Stale.__init__", defArgs mt_Stale, defBody mt_Stale, defScope mt_Stale, [], []⟩
def mt_Lost : Stmt := (C8.clsBody (top 20)).getD 0 (.Pass ⟨0, 0, 0, 0⟩)
def di_Lost : He.DefD := ⟨("Lost", some "__init__"), "__init__", "Lost.__init__", defArgs mt_Lost, defBody mt_Lost, defScope mt_Lost, [], []⟩
def mt_Unlike : Stmt := (C8.clsBody (top 21)).getD 0 (.Pass ⟨0, 0, 0, 0⟩)
def di_Unlike : He.DefD := ⟨("Unlike", some "__init__"), "__init__", "Unlike.__init__", defArgs mt_Unlike, defBody mt_Unlike, defScope mt_Unlike, [], []⟩
def fn : List He.DefD := [d__law_bag, d__law_take, d__law_of, d__law_made, d__law_values, d__law_under, d__law_due, d__law_own, d_law, di_BadText, di_BadTemplate, di_BadFill, di_BadMend, di_BadWord, di_BadWidth, di_BadRow, di_NoLine, di_NoRange, di_NoPlace, di_NoContent, di_NoHole, di_NoName, di_TooLong, di_TooDeep, di_TooWide, di_TooMany, di_NothingDone, di_Stale, di_Lost, di_Unlike]
def xsL (K : PySem.W.Frag) : List Addr := [He.ga K "BadText", He.ga K "BadTemplate", He.ga K "BadFill", He.ga K "BadMend", He.ga K "BadWord", He.ga K "BadWidth", He.ga K "BadRow", He.ga K "NoLine", He.ga K "NoRange", He.ga K "NoPlace", He.ga K "NoContent", He.ga K "NoHole", He.ga K "NoName", He.ga K "TooLong", He.ga K "TooDeep", He.ga K "TooWide", He.ga K "TooMany", He.ga K "NothingDone", He.ga K "Stale", He.ga K "Lost", He.ga K "Unlike"]
def fa : List He.Fa := [.glo "_law_bag", .glo "_law_take", .glo "_law_of", .glo "_law_made", .glo "_law_values", .glo "_law_under", .glo "_law_due", .glo "_law_own", .glo "law", .glo "BadText", .glo "BadTemplate", .glo "BadFill", .glo "BadMend", .glo "BadWord", .glo "BadWidth", .glo "BadRow", .glo "NoLine", .glo "NoRange", .glo "NoPlace", .glo "NoContent", .glo "NoHole", .glo "NoName", .glo "TooLong", .glo "TooDeep", .glo "TooWide", .glo "TooMany", .glo "NothingDone", .glo "Stale", .glo "Lost", .glo "Unlike", .noat "BadText" "index", .noat "BadTemplate" "index", .noat "BadFill" "name", .noat "BadMend" "mend", .noat "BadWord" "word", .noat "BadWidth" "value", .noat "BadRow" "column", .noat "NoLine" "line", .noat "NoRange" "span", .noat "NoPlace" "place", .noat "NoContent" "number", .noat "NoHole" "name", .noat "NoName" "name", .noat "TooLong" "many", .noat "TooDeep" "index", .noat "TooWide" "content", .noat "TooMany" "many", .meth "BadText" "__init__", .meth "BadTemplate" "__init__", .meth "BadFill" "__init__", .meth "BadMend" "__init__", .meth "BadWord" "__init__", .meth "BadWidth" "__init__", .meth "BadRow" "__init__", .meth "NoLine" "__init__", .meth "NoRange" "__init__", .meth "NoPlace" "__init__", .meth "NoContent" "__init__", .meth "NoHole" "__init__", .meth "NoName" "__init__", .meth "TooLong" "__init__", .meth "TooDeep" "__init__", .meth "TooWide" "__init__", .meth "TooMany" "__init__", .meth "NothingDone" "__init__", .meth "Stale" "__init__", .meth "Lost" "__init__", .meth "Unlike" "__init__", .free "IndexError", .free "KeyError", .free "LookupError", .free "OverflowError", .free "RuntimeError", .free "ValueError", .free "abs", .free "enumerate", .free "int", .free "isinstance", .free "len", .free "max", .free "min", .free "range", .free "repr"]
def ts : List He.Tab := []
def tf : List He.Defn := [("_law_made", none)]
def tfq : List (Str × Option Str) := [("_law_made", some ((("_law_made" : Str) ++ ".<locals>.") ++ "<lambda>"))]
def tbs (K : PySem.W.Frag) : List (Addr × Option Str) := tfq.map fun p => ((He.cT K (p.1, none)).2, p.2)
def exB (K : PySem.W.Frag) : Bool := (oexB K .V (He.ga K "BadText")) && (oexB K .V (He.ga K "BadTemplate")) && (oexB K .V (He.ga K "BadFill")) && (oexB K .V (He.ga K "BadMend")) && (oexB K .V (He.ga K "BadWord")) && (oexB K .V (He.ga K "BadWidth")) && (oexB K .V (He.ga K "BadRow")) && (oexB K .L (He.ga K "NoLine")) && (oexB K .L (He.ga K "NoRange")) && (oexB K .L (He.ga K "NoPlace")) && (oexB K .L (He.ga K "NoContent")) && (oexB K .K (He.ga K "NoHole")) && (oexB K .K (He.ga K "NoName")) && (oexB K .O (He.ga K "TooLong")) && (oexB K .O (He.ga K "TooDeep")) && (oexB K .O (He.ga K "TooWide")) && (oexB K .O (He.ga K "TooMany")) && (oexB K .R (He.ga K "NothingDone")) && (oexB K .R (He.ga K "Stale")) && (oexB K .R (He.ga K "Lost")) && (oexB K .R (He.ga K "Unlike")) && ((xsL K).all (excB K)) && (kitT K (xsL K) (.type "ValueError") [true, true, true, true, true, true, true, false, false, false, false, false, false, false, false, false, false, false, false, false, false]) && (kitT K (xsL K) (.type "KeyError") [false, false, false, false, false, false, false, false, false, false, false, true, true, false, false, false, false, false, false, false, false]) && (kitT K (xsL K) (.type "OverflowError") [false, false, false, false, false, false, false, false, false, false, false, false, false, true, true, true, true, false, false, false, false]) && (kitT K (xsL K) (.type "RuntimeError") [false, false, false, false, false, false, false, false, false, false, false, false, false, false, false, false, false, true, true, true, true]) && (kitT K (xsL K) (.type "LookupError") [false, false, false, false, false, false, false, true, true, true, true, true, true, false, false, false, false, false, false, false, false]) && (kitT K (xsL K) (.type "IndexError") [false, false, false, false, false, false, false, false, false, false, false, false, false, false, false, false, false, false, false, false, false]) && (kitT K (xsL K) (.ref (He.ga K "BadText")) [true, false, false, false, false, false, false, false, false, false, false, false, false, false, false, false, false, false, false, false, false]) && (kitT K (xsL K) (.ref (He.ga K "BadTemplate")) [false, true, false, false, false, false, false, false, false, false, false, false, false, false, false, false, false, false, false, false, false]) && (kitT K (xsL K) (.ref (He.ga K "BadFill")) [false, false, true, false, false, false, false, false, false, false, false, false, false, false, false, false, false, false, false, false, false]) && (kitT K (xsL K) (.ref (He.ga K "BadMend")) [false, false, false, true, false, false, false, false, false, false, false, false, false, false, false, false, false, false, false, false, false]) && (kitT K (xsL K) (.ref (He.ga K "BadWord")) [false, false, false, false, true, false, false, false, false, false, false, false, false, false, false, false, false, false, false, false, false]) && (kitT K (xsL K) (.ref (He.ga K "BadWidth")) [false, false, false, false, false, true, false, false, false, false, false, false, false, false, false, false, false, false, false, false, false]) && (kitT K (xsL K) (.ref (He.ga K "BadRow")) [false, false, false, false, false, false, true, false, false, false, false, false, false, false, false, false, false, false, false, false, false]) && (kitT K (xsL K) (.ref (He.ga K "NoLine")) [false, false, false, false, false, false, false, true, false, false, false, false, false, false, false, false, false, false, false, false, false]) && (kitT K (xsL K) (.ref (He.ga K "NoRange")) [false, false, false, false, false, false, false, false, true, false, false, false, false, false, false, false, false, false, false, false, false]) && (kitT K (xsL K) (.ref (He.ga K "NoPlace")) [false, false, false, false, false, false, false, false, false, true, false, false, false, false, false, false, false, false, false, false, false]) && (kitT K (xsL K) (.ref (He.ga K "NoContent")) [false, false, false, false, false, false, false, false, false, false, true, false, false, false, false, false, false, false, false, false, false]) && (kitT K (xsL K) (.ref (He.ga K "NoHole")) [false, false, false, false, false, false, false, false, false, false, false, true, false, false, false, false, false, false, false, false, false]) && (kitT K (xsL K) (.ref (He.ga K "NoName")) [false, false, false, false, false, false, false, false, false, false, false, false, true, false, false, false, false, false, false, false, false]) && (kitT K (xsL K) (.ref (He.ga K "TooLong")) [false, false, false, false, false, false, false, false, false, false, false, false, false, true, false, false, false, false, false, false, false]) && (kitT K (xsL K) (.ref (He.ga K "TooDeep")) [false, false, false, false, false, false, false, false, false, false, false, false, false, false, true, false, false, false, false, false, false]) && (kitT K (xsL K) (.ref (He.ga K "TooWide")) [false, false, false, false, false, false, false, false, false, false, false, false, false, false, false, true, false, false, false, false, false]) && (kitT K (xsL K) (.ref (He.ga K "TooMany")) [false, false, false, false, false, false, false, false, false, false, false, false, false, false, false, false, true, false, false, false, false]) && (kitT K (xsL K) (.ref (He.ga K "NothingDone")) [false, false, false, false, false, false, false, false, false, false, false, false, false, false, false, false, false, true, false, false, false]) && (kitT K (xsL K) (.ref (He.ga K "Stale")) [false, false, false, false, false, false, false, false, false, false, false, false, false, false, false, false, false, false, true, false, false]) && (kitT K (xsL K) (.ref (He.ga K "Lost")) [false, false, false, false, false, false, false, false, false, false, false, false, false, false, false, false, false, false, false, true, false]) && (kitT K (xsL K) (.ref (He.ga K "Unlike")) [false, false, false, false, false, false, false, false, false, false, false, false, false, false, false, false, false, false, false, false, true])
end F
end
section
set_option Elab.async false
set_option linter.all false
set_option autoImplicit false
set_option maxRecDepth 100000
set_option maxHeartbeats 0

namespace F
open PySem PySem.Spec PyProof.Rows L2
abbrev RW : PySem.W.OpenRow := PySem.W.OpenLaw.row PySem.Challenge.rw_holedlines_k01_errors_made
/-! the top's end is looked at through a list of addresses -/
def obsA (as : List Addr) (fa : List He.Fa) (fn : List He.DefD) (ts : List He.Tab) (tf : List He.Defn) (ex : PySem.W.Frag → Bool) (g : Addr → Option Obj) : He.AlX := (He.obsT fa fn ts (He.frT g as), ex (He.frT g as) && He.tabsB g tf (He.frT g as))
theorem sayA {as : List Addr} {fa : List He.Fa} {fn : List He.DefD} {ts : List He.Tab} {tf : List He.Defn} {ex : PySem.W.Frag → Bool} {w : World} {h : Heap} (e : obsA as fa fn ts tf ex h.get? = He.valX fn ts w) : He.SaysX fa fn ts tf ex w h (He.frT h.get? as) := by
  have e1 : He.obsT fa fn ts (He.frT h.get? as) = He.valT fn ts w := congrArg Prod.fst e
  have e2 : (ex (He.frT h.get? as) && He.tabsB h.get? tf (He.frT h.get? as)) = true := congrArg Prod.snd e
  obtain ⟨g1, g2⟩ := Bool.and_eq_true_iff.mp e2
  have each : ∀ p ∈ tf, PySem.W.codeHdIn (He.frT h.get? as) (He.cT (He.frT h.get? as) p).1 (He.cT (He.frT h.get? as) p).2 = true ∧ ∃ o, h.get? (He.cT (He.frT h.get? as) p).2 = some o ∧ He.emptyTab o = true := fun p hp => by
    obtain ⟨g3, g4⟩ := Bool.and_eq_true_iff.mp (List.all_eq_true.mp g2 p hp)
    refine ⟨g3, ?_⟩
    cases q : h.get? (He.cT (He.frT h.get? as) p).2 with
    | none => rw [q] at g4; cases g4
    | some o => rw [q] at g4; exact ⟨o, rfl, g4⟩
  exact ⟨e1, g1, fun p hp => (each p hp).1, fun p hp => by
    obtain ⟨_, o, q1, q2⟩ := each p hp
    exact He.frT_none q1 q2, fun p hp => by
    obtain ⟨_, o, q1, q2⟩ := each p hp
    rw [q1, He.emptyTab_eq q2]⟩
def hookA (as : List Addr) (fa : List He.Fa) (fn : List He.DefD) (ts : List He.Tab) (tf : List He.Defn) (ex : PySem.W.Frag → Bool) : PySem.W.Hook :=
  { α := He.AlX, obs := fun s => obsA as fa fn ts tf ex s.heap.get?, val := fun w => He.valX fn ts w, says := fun w h => ∃ K : PySem.W.Frag, K.In h ∧ He.SaysX fa fn ts tf ex w h K, of := fun _ _ e => ⟨_, He.frT_in, sayA e⟩,
    keeps := fun _ _ _ ⟨K, hK, c⟩ k => ⟨K, PySem.W.Frag.In.keeps hK k, ⟨c.t, c.more, c.hd, c.out, fun p hp => k _ _ (c.empty p hp)⟩⟩ }
theorem obsA_eq {as : List Addr} {fa : List He.Fa} {fn : List He.DefD} {ts : List He.Tab} {tf : List He.Defn} {ex : PySem.W.Frag → Bool} {g : Addr → Option Obj} {s : Shared} (h : ∀ a, g a = s.heap.get? a) : obsA as fa fn ts tf ex g = (hookA as fa fn ts tf ex).obs s := by
  have e : g = s.heap.get? := funext h
  subst e
  rfl

def asL : List Addr := [3, 6, 4, 31, 51, 71, 91, 111, 131, 151, 171, 191, 211, 231, 251, 271, 291, 311, 331, 351, 371, 391, 411, 431, 441, 448, 455, 462, 469, 476, 483, 490, 495, 0, 30, 50, 70, 90, 110, 130, 150, 170, 190, 210, 230, 250, 270, 290, 310, 330, 350, 370, 390, 410, 430, 440, 447, 454, 461, 468, 475, 482, 489, 494, 28, 29, 32, 48, 49, 52, 68, 69, 72, 88, 89, 92, 108, 109, 112, 128, 129, 132, 148, 149, 152, 168, 169, 172, 188, 189, 192, 208, 209, 212, 228, 229, 232, 248, 249, 252, 268, 269, 272, 288, 289, 292, 308, 309, 312, 328, 329, 332, 348, 349, 352, 368, 369, 372, 388, 389, 392, 408, 409, 412, 428, 429, 432, 435, 436, 437, 438, 439, 442, 443, 444, 445, 446, 449, 450, 451, 452, 453, 456, 457, 458, 459, 460, 463, 464, 465, 466, 467, 470, 471, 472, 473, 474, 477, 478, 479, 480, 481, 484, 485, 486, 487, 488, 491, 492, 493, 27, 47, 67, 87, 107, 127, 147, 167, 187, 207, 227, 247, 267, 287, 307, 327, 347, 367, 387, 407, 427, 22, 23, 24, 25, 26, 42, 43, 44, 45, 46, 62, 63, 64, 65, 66, 82, 83, 84, 85, 86, 102, 103, 104, 105, 106, 122, 123, 124, 125, 126, 142, 143, 144, 145, 146, 162, 163, 164, 165, 166, 182, 183, 184, 185, 186, 202, 203, 204, 205, 206, 222, 223, 224, 225, 226, 242, 243, 244, 245, 246, 262, 263, 264, 265, 266, 282, 283, 284, 285, 286, 302, 303, 304, 305, 306, 322, 323, 324, 325, 326, 342, 343, 344, 345, 346, 362, 363, 364, 365, 366, 382, 383, 384, 385, 386, 402, 403, 404, 405, 406, 422, 423, 424, 425, 426]
abbrev hk : PySem.W.Hook := hookA asL fa fn ts tf exB
def ob (s : PySem.W.SharedT) : He.AlX := obsA asL fa fn ts tf exB (HandSHeadRun.getT s)
theorem ob_eq (s : PySem.W.SharedT) : ob s = hk.obs s.abs := obsA_eq (HandSHeadRun.getT_eq s)
def names : List Str := (["BadText", "BadTemplate", "BadFill", "BadMend", "BadWord", "BadWidth", "BadRow", "NoLine", "NoRange", "NoPlace", "NoContent", "NoHole", "NoName", "TooLong", "TooDeep", "TooWide", "TooMany", "NothingDone", "Stale", "Lost"] : List Str) ++ (["Unlike", "_law_bag", "_law_take", "_law_of", "_law_values", "_law_made", "_law_under", "_law_own", "_law_due"] : List Str)
open HandSHeadRun PySem.W
theorem map3 {α β γ δ ε : Type} (x : Option α) (f : α → β) (g : α → γ) (h : α → δ × ε) (a : β) (b : γ) (c : δ × ε) (hA : x.map (fun s => (f s, g s)) = some (a, b)) (hB : x.map (fun s => (h s).1) = some c.1) (hC : x.map (fun s => (h s).2) = some c.2) : x.map (fun s => (f s, g s, h s)) = some (a, b, c) := by
  cases x with
  | none => cases hB
  | some s =>
    have e1 := Option.some.inj hA
    have e2 : (h s).1 = c.1 := Option.some.inj hB
    have e3 : (h s).2 = c.2 := Option.some.inj hC
    have e4 : f s = a := congrArg Prod.fst e1
    have e5 : g s = b := congrArg Prod.snd e1
    have e6 : h s = c := Prod.ext e2 e3
    show some (f s, g s, h s) = _
    rw [e4, e5, e6]
theorem runEq3 (r : PySem.W.OpenRow) (q : Program) (as : List Addr) (fa : List He.Fa) (fn : List He.DefD) (ts : List He.Tab) (tf : List He.Defn) (ex : PySem.W.Frag → Bool) (M : Nat) (loose : List Str) (w : World)
    (hA : ∀ os : OsState, (HandSHeadRun.endF (stepQ (denQ tabQ) r.prog w) M r.prog w os).map (fun s => (looksF r.prog (boot_heap w.params) s.abs, seenQ q loose (importedModules r.prog.main.body) (fun s => xlAt q [] s && recOk r.toRowW.records s) s.abs)) = some (true, openGood q loose))
    (hB : ∀ os : OsState, (HandSHeadRun.endF (stepQ (denQ tabQ) r.prog w) M r.prog w os).map (fun s => (obsA as fa fn ts tf ex (HandSHeadRun.getT s)).1) = some (He.valX fn ts w).1)
    (hC : ∀ os : OsState, (HandSHeadRun.endF (stepQ (denQ tabQ) r.prog w) M r.prog w os).map (fun s => (obsA as fa fn ts tf ex (HandSHeadRun.getT s)).2) = some (He.valX fn ts w).2) :
    HandSHeadRun.RunEq r q (hookA as fa fn ts tf ex) (fun s => obsA as fa fn ts tf ex (HandSHeadRun.getT s)) M loose w := fun os => map3 _ _ _ _ _ _ _ (hA os) (hB os) (hC os)
noncomputable abbrev end_ (W : World) (os : OsState) : Option PySem.W.SharedT := HandSHeadRun.endF (stepQ (denQ tabQ) RW.prog W) 8000 RW.prog W os
theorem hrun_nA (w : World) : ∀ os : OsState, (end_ (w.withFollow "special-get-raises" false) os).map (fun s => (looksF RW.prog (boot_heap (w.withFollow "special-get-raises" false).params) s.abs, seenQ (PySem.W.view RW.prog [31]) names (importedModules RW.prog.main.body) (fun s => xlAt (PySem.W.view RW.prog [31]) [] s && recOk RW.toRowW.records s) s.abs)) = some (true, openGood (PySem.W.view RW.prog [31]) names) := fun os => by kernel_rfl
theorem hrun_nB (w : World) : ∀ os : OsState, (end_ (w.withFollow "special-get-raises" false) os).map (fun s => (obsA asL fa fn ts tf exB (HandSHeadRun.getT s)).1) = some (He.valX fn ts (w.withFollow "special-get-raises" false)).1 := fun os => by kernel_rfl
theorem hrun_nC (w : World) : ∀ os : OsState, (end_ (w.withFollow "special-get-raises" false) os).map (fun s => (obsA asL fa fn ts tf exB (HandSHeadRun.getT s)).2) = some (He.valX fn ts (w.withFollow "special-get-raises" false)).2 := fun os => by kernel_rfl
theorem hrun_n (w : World) : HandSHeadRun.RunEq RW (PySem.W.view RW.prog [31]) hk ob 8000 names (w.withFollow "special-get-raises" false) := runEq3 RW (PySem.W.view RW.prog [31]) asL fa fn ts tf exB 8000 names (w.withFollow "special-get-raises" false) (hrun_nA w) (hrun_nB w) (hrun_nC w)
theorem hrun_yA (w : World) : ∀ os : OsState, (end_ (w.withFollow "special-get-raises" true) os).map (fun s => (looksF RW.prog (boot_heap (w.withFollow "special-get-raises" true).params) s.abs, seenQ (PySem.W.view RW.prog [31]) names (importedModules RW.prog.main.body) (fun s => xlAt (PySem.W.view RW.prog [31]) [] s && recOk RW.toRowW.records s) s.abs)) = some (true, openGood (PySem.W.view RW.prog [31]) names) := fun os => by kernel_rfl
theorem hrun_yB (w : World) : ∀ os : OsState, (end_ (w.withFollow "special-get-raises" true) os).map (fun s => (obsA asL fa fn ts tf exB (HandSHeadRun.getT s)).1) = some (He.valX fn ts (w.withFollow "special-get-raises" true)).1 := fun os => by kernel_rfl
theorem hrun_yC (w : World) : ∀ os : OsState, (end_ (w.withFollow "special-get-raises" true) os).map (fun s => (obsA asL fa fn ts tf exB (HandSHeadRun.getT s)).2) = some (He.valX fn ts (w.withFollow "special-get-raises" true)).2 := fun os => by kernel_rfl
theorem hrun_y (w : World) : HandSHeadRun.RunEq RW (PySem.W.view RW.prog [31]) hk ob 8000 names (w.withFollow "special-get-raises" true) := runEq3 RW (PySem.W.view RW.prog [31]) asL fa fn ts tf exB 8000 names (w.withFollow "special-get-raises" true) (hrun_yA w) (hrun_yB w) (hrun_yC w)

theorem run (w : World) : HandSHeadRun.RunEq RW (PySem.W.view RW.prog [31]) hk ob 8000 names w :=
  PySem.W.byRow2 "special-get-raises" (P := fun w => HandSHeadRun.RunEq RW (PySem.W.view RW.prog [31]) hk ob 8000 names w) hrun_n hrun_y w
end F
end
section
set_option linter.all false
/-! F layer, part A: python values as plain data, bodies of defs as compositions of plain functions. Core Lean alone. -/
namespace F
inductive Ky where
  | i (n : Int) | s (x : List Nat)
  deriving DecidableEq
/-- a value without addresses: what can no longer change -/
inductive D where
  | non | bl (b : Bool) | int (i : Int) | str (x : List Nat)
  | tup (l : List D) | lst (l : List D) | dct (l : List (Ky × D)) | obj (c : Nat) (l : List D)
  /-- a thing of the kind k that d describes; what it is in memory is told elsewhere -/
  | ex (k : Nat) (d : D)
/-- what a name holds: shared data, or a thing of its own (a list, a dict, an instance) that it alone holds -/
inductive O where
  | sh (d : D) | fl (l : List D) | fd (l : List (Ky × D)) | fo (c : Nat) (l : List O)
abbrev Env := List (Option O)
/-- an expression's answer: data, a name's thing, a new thing -/
inductive R where
  | d (x : D) | sl (i : Nat) | ow (o : O)
inductive Rs (α : Type) where
  | ok (a : α) (e : Env) | ex (c : Nat) (p : D) (e : Env) | bad
abbrev M (α : Type) := Env → Rs α
/-- a statement's answer -/
inductive SR where
  | nx (e : Env) | rt (o : O) (e : Env) | bk (e : Env) | ct (e : Env) | ex (c : Nat) (p : D) (e : Env) | bad
abbrev MS := Env → SR
/-- a def's answer: the result, the arguments' things behind the call -/
inductive FR where
  | rt (o : O) (os : List O) | ex (c : Nat) (p : D) (os : List O) | bad
abbrev Fn := List O → FR
def lim : Nat := 16777216
mutual
def O.frz : O → D
  | .sh d => d
  | .fl l => .lst l
  | .fd l => .dct l
  | .fo c l => .obj c (frzs l)
def frzs : List O → List D
  | [] => []
  | o :: os => o.frz :: frzs os
end
def slot (e : Env) (i : Nat) : Option O := match e[i]? with
  | some (some o) => some o
  | _ => none
/-- a thing read off (an instance's fields are read one by one) -/
def O.pk : O → Option D
  | .sh d => some d
  | .fl l => some (.lst l)
  | .fd l => some (.dct l)
  | .fo _ _ => none
/-- an answer read off, held no longer than an operation -/
def peek : R → Env → Option D
  | .d x, _ => some x
  | .sl i, e => (slot e i).bind O.pk
  | .ow o, _ => o.pk
/-- an answer that is kept from now on: it can't be changed any more -/
def leak : R → M D
  | .d x, e => .ok x e
  | .sl i, e => match slot e i with
    | some o => .ok o.frz (e.set i (some (.sh o.frz)))
    | none => .bad
  | .ow o, e => .ok o.frz e
def nrm : R → R
  | .ow o => .d o.frz
  | r => r
/-! ### expressions -/
/-- places -/
def ixI (n : Nat) (i : Int) : Option Nat := if 0 ≤ i then (if i < n then some i.toNat else none) else if -(n : Int) ≤ i then some (i + n).toNat else none
def getI {α : Type} (l : List α) (i : Int) : Option α := (ixI l.length i).bind fun j => l[j]?
def mBad {α : Type} : M α := fun _ => .bad
def mVar (i : Nat) : M R := fun e => match slot e i with
  | some _ => .ok (.sl i) e
  | none => .bad
def mC (d : D) : M R := fun e => .ok (.d d) e
def andThen {α β : Type} (r : Rs α) (f : α → Env → Rs β) : Rs β := match r with
  | .ok a e => f a e
  | .ex c p e => .ex c p e
  | .bad => .bad
def ofO {α : Type} (x : Option α) (f : α → Rs β) : Rs β := match x with
  | some a => f a
  | none => .bad
/-- one operand, two operands: read off, a value out -/
def mOp1 (f : D → Option D) (a : M R) : M R := fun e => andThen (a e) fun r e1 => ofO (peek r e1) fun x => ofO (f x) fun z => .ok (.d z) e1
def mOp2 (f : D → D → Option D) (a b : M R) : M R := fun e => andThen (a e) fun r e1 => andThen (b e1) fun q e2 => ofO (peek (nrm r) e2) fun x => ofO (peek q e2) fun y => ofO (f x y) fun z => .ok (.d z) e2
/-- the same, a new list out -/
def mOl1 (f : D → Option (List D)) (a : M R) : M R := fun e => andThen (a e) fun r e1 => ofO (peek r e1) fun x => ofO (f x) fun z => .ok (.ow (.fl z)) e1
def mOl2 (f : D → D → Option (List D)) (a b : M R) : M R := fun e => andThen (a e) fun r e1 => andThen (b e1) fun q e2 => ofO (peek (nrm r) e2) fun x => ofO (peek q e2) fun y => ofO (f x y) fun z => .ok (.ow (.fl z)) e2
/-- several, each kept -/
def mLks : List (M R) → M (List D)
  | [], e => .ok [] e
  | m :: ms, e => andThen (m e) fun r e1 => andThen (leak r e1) fun d e2 => andThen (mLks ms e2) fun ds e3 => .ok (d :: ds) e3
def mTup (ms : List (M R)) : M R := fun e => andThen (mLks ms e) fun ds e1 => if ds.length ≤ lim then .ok (.d (.tup ds)) e1 else .bad
def mLst (ms : List (M R)) : M R := fun e => andThen (mLks ms e) fun ds e1 => if ds.length ≤ lim then .ok (.ow (.fl ds)) e1 else .bad
/-- a text's method with one argument, without -/
def mSm1 (f : List Nat → D → Option D) (o a : M R) : M R := fun e => andThen (o e) fun r e1 => match peek r e1 with
  | some (.str x) => andThen (a e1) fun q e2 => ofO (peek q e2) fun y => ofO (f x y) fun z => .ok (.d z) e2
  | _ => .bad
def mSm0 (f : List Nat → Option D) (o : M R) : M R := fun e => andThen (o e) fun r e1 => match peek r e1 with
  | some (.str x) => ofO (f x) fun z => .ok (.d z) e1
  | _ => .bad
/-- a part of a slice -/
def mPt : Option (M R) → M (Option Int)
  | none, e => .ok none e
  | some m, e => andThen (m e) fun r e1 => match peek r e1 with
    | some (.int i) => .ok (some i) e1
    | _ => .bad
/-- xs[lo:hi]: a value; a new list -/
def mSl (f : D → Option Int → Option Int → Option D) (a : M R) (lo hi : Option (M R)) : M R := fun e => andThen (a e) fun r e1 => andThen (mPt lo e1) fun l e2 => andThen (mPt hi e2) fun h e3 => ofO (peek (nrm r) e3) fun x => ofO (f x l h) fun z => .ok (.d z) e3
def mSlL (f : D → Option Int → Option Int → Option (List D)) (a : M R) (lo hi : Option (M R)) : M R := fun e => andThen (a e) fun r e1 => andThen (mPt lo e1) fun l e2 => andThen (mPt hi e2) fun h e3 => ofO (peek (nrm r) e3) fun x => ofO (f x l h) fun z => .ok (.ow (.fl z)) e3
/-- {k: v, ..}, the keys written and different -/
def mDvs : List (Ky × M R) → M (List (Ky × D))
  | [], e => .ok [] e
  | (k, m) :: ms, e => andThen (m e) fun r e1 => andThen (leak r e1) fun d e2 => andThen (mDvs ms e2) fun ds e3 => .ok ((k, d) :: ds) e3
def mDct (kms : List (Ky × M R)) : M R := fun e => andThen (mDvs kms e) fun l e1 => .ok (.ow (.fd l)) e1
/-- several, read off at the end (none of them a name's thing that a later one changes) -/
def mRs : List (M R) → M (List R)
  | [], e => .ok [] e
  | m :: ms, e => andThen (m e) fun r e1 => andThen (mRs ms e1) fun rs e2 => .ok (nrm r :: rs) e2
def peeks : List R → Env → Option (List D)
  | [], _ => some []
  | r :: rs, e => match peek r e, peeks rs e with
    | some x, some xs => some (x :: xs)
    | _, _ => none
/-- a built-in by its values: a value out; a new list out -/
def mBi (f : List D → Option D) (ms : List (M R)) : M R := fun e => andThen (mRs ms e) fun rs e1 => ofO (peeks rs e1) fun xs => ofO (f xs) fun z => .ok (.d z) e1
def mBl (f : List D → Option (List D)) (ms : List (M R)) : M R := fun e => andThen (mRs ms e) fun rs e1 => ofO (peeks rs e1) fun xs => ofO (f xs) fun z => .ok (.ow (.fl z)) e1
/-- xs.append(e) and its like, xs a name's own list: the answer, the list behind it; the argument is kept -/
def mMut1 (i : Nat) (f : List D → D → Option (D × List D)) (a : M R) : M R := fun e => match slot e i with
  | some (.fl _) => andThen (a e) fun r e1 => andThen (leak r e1) fun d e2 => (match slot e2 i with
    | some (.fl l) => ofO (f l d) fun p => .ok (.d p.1) (e2.set i (some (.fl p.2)))
    | _ => .bad)
  | _ => .bad
def mMut0 (i : Nat) (f : List D → Option (D × List D)) : M R := fun e => match slot e i with
  | some (.fl l) => ofO (f l) fun p => .ok (.d p.1) (e.set i (some (.fl p.2)))
  | _ => .bad
def appF (l : List D) (d : D) : Option (D × List D) := if l.length < lim then some (.non, l ++ [d]) else none
/-! ### tests -/
def truD : D → Option Bool
  | .non => some false
  | .bl b => some b
  | .int i => some (i != 0)
  | .str x => some (!x.isEmpty)
  | .lst l => some (!l.isEmpty)
  | .tup l => some (!l.isEmpty)
  | _ => none
def mTru (a : M R) : M Bool := fun e => andThen (a e) fun r e1 => ofO (peek r e1) fun x => ofO (truD x) fun b => .ok b e1
/-- a test whose value is a bool -/
def mTB (a : M R) : M Bool := fun e => andThen (a e) fun r e1 => match peek r e1 with
  | some (.bl b) => .ok b e1
  | _ => .bad
def mAnd (a b : M Bool) : M Bool := fun e => andThen (a e) fun x e1 => if x = true then b e1 else .ok false e1
def mOr (a b : M Bool) : M Bool := fun e => andThen (a e) fun x e1 => if x = true then .ok true e1 else b e1
def mNot (a : M Bool) : M Bool := fun e => andThen (a e) fun x e1 => .ok (!x) e1
def mIf {α : Type} (c : M Bool) (a b : M α) : M α := fun e => andThen (c e) fun x e1 => if x = true then a e1 else b e1
/-- and, or, not as values: all but the last are bools -/
def mAndV (a b : M R) : M R := fun e => andThen (a e) fun r e1 => match peek r e1 with
  | some (.bl x) => if x = true then b e1 else .ok (.d (.bl false)) e1
  | _ => .bad
def mOrV (a b : M R) : M R := fun e => andThen (a e) fun r e1 => match peek r e1 with
  | some (.bl x) => if x = true then .ok (.d (.bl true)) e1 else b e1
  | _ => .bad
def mNotV (a : M R) : M R := fun e => andThen (a e) fun r e1 => match peek r e1 with
  | some (.bl x) => .ok (.d (.bl (!x))) e1
  | _ => .bad
/-! ### calls of defs -/
/-- an argument: kept (lk), or lent: the name's own thing, changed and given back (bo) -/
inductive Md where
  | lk | bo
  deriving DecidableEq
def asArg : Md → R → Env → Option (O × Env)
  | .bo, .sl i, e => (match slot e i with
    | some o => some (o, e.set i none)
    | none => none)
  | _, r, e => (match leak r e with
    | .ok d e1 => some (.sh d, e1)
    | _ => none)
def asArgs : List Md → List R → Env → Option (List O × Env)
  | _, [], e => some ([], e)
  | ms, r :: rs, e => match asArg (ms.headD .lk) r e with
    | some (o, e1) => (match asArgs ms.tail rs e1 with
      | some (os, e2) => some (o :: os, e2)
      | none => none)
    | none => none
/-- what was lent comes back -/
def back : List Md → List R → List O → Env → Env
  | ms, r :: rs, o :: os, e => (match ms.headD .lk, r with
    | .bo, .sl i => back ms.tail rs os (e.set i (some o))
    | _, _ => back ms.tail rs os e)
  | _, _, _, e => e
def ofRes (o : O) : R := match o with
  | .sh d => .d d
  | o => .ow o
/-- behind the call: what was handed as shared data is as it was -/
def mergeO : List O → List O → List O
  | .sh d :: os, _ :: os' => .sh d :: mergeO os os'
  | _ :: os, o' :: os' => o' :: mergeO os os'
  | _, _ => []
def mCall (F : Fn) (md : List Md) (dfl : List D) (ms : List (M R)) : M R := fun e => andThen (mRs ms e) fun rs e1 => match asArgs md rs e1 with
  | some (os, e2) => (match F (os ++ dfl.map O.sh) with
    | .rt o os' => .ok (ofRes o) (back md rs (mergeO (os ++ dfl.map O.sh) os') e2)
    | .ex c p os' => .ex c p (back md rs (mergeO (os ++ dfl.map O.sh) os') e2)
    | .bad => .bad)
  | none => .bad
/-! ### statements -/
def sBad : MS := fun _ => .bad
def sPass : MS := fun e => .nx e
def sSeq (a b : MS) : MS := fun e => match a e with
  | .nx e1 => b e1
  | r => r
def sOf {α : Type} (r : Rs α) (f : α → Env → SR) : SR := match r with
  | .ok a e => f a e
  | .ex c p e => .ex c p e
  | .bad => .bad
def sBrk : MS := fun e => .bk e
def sCnt : MS := fun e => .ct e
def sExp (a : M R) : MS := fun e => sOf (a e) fun _ e1 => .nx e1
/-- the result: a name's thing goes out with it -/
def sRet (a : M R) : MS := fun e => sOf (a e) fun r e1 => match r with
  | .d x => .rt (.sh x) e1
  | .ow o => .rt o e1
  | .sl i => (match slot e1 i with
    | some (.sh d) => .rt (.sh d) e1
    | some o => .rt o (e1.set i none)
    | none => .bad)
def sRetN : MS := fun e => .rt (.sh .non) e
def sIf (c : M Bool) (a b : MS) : MS := fun e => sOf (c e) fun x e1 => if x = true then a e1 else b e1
/-- x = e -/
def setR (i : Nat) (r : R) (e1 : Env) : SR := match r with
  | .ow o => .nx (e1.set i (some o))
  | r => sOf (leak r e1) fun d e2 => .nx (e2.set i (some (.sh d)))
def sSet (i : Nat) (a : M R) : MS := fun e => sOf (a e) fun r e1 => setR i r e1
/-- a target -/
inductive Tg where
  | nm (i : Nat) | tp (l : List Tg)
mutual
def Tg.put : Tg → D → Env → Option Env
  | .nm i, d, e => some (e.set i (some (.sh d)))
  | .tp ts, .tup ds, e => putAll ts ds e
  | .tp _, _, _ => none
def putAll : List Tg → List D → Env → Option Env
  | [], [], e => some e
  | t :: ts, d :: ds, e => match t.put d e with
    | some e1 => putAll ts ds e1
    | none => none
  | _, _, _ => none
end
/-- several answers, new things left as they are -/
def mOs : List (M R) → M (List O)
  | [], e => .ok [] e
  | m :: ms, e => andThen (m e) fun r e1 => match r with
    | .ow o => andThen (mOs ms e1) fun os e2 => .ok (o :: os) e2
    | r => andThen (leak r e1) fun d e2 => andThen (mOs ms e2) fun os e3 => .ok (.sh d :: os) e3
def setAll : List Nat → List O → Env → Option Env
  | [], [], e => some e
  | i :: is, o :: os, e => setAll is os (e.set i (some o))
  | _, _, _ => none
def ofOS {α : Type} (x : Option α) (f : α → SR) : SR := match x with
  | some a => f a
  | none => .bad
/-- a, b = e -/
def sUnp (t : Tg) (a : M R) : MS := fun e => sOf (a e) fun r e1 => sOf (leak r e1) fun d e2 => ofOS (t.put d e2) .nx
/-- x, y = a, b -/
def sPar (is : List Nat) (ms : List (M R)) : MS := fun e => sOf (mOs ms e) fun os e1 => ofOS (setAll is os e1) .nx
/-- x op= e -/
def sAug (i : Nat) (f : D → D → Option D) (a : M R) : MS := fun e => match slot e i with
  | some _ => sOf (a e) fun r e1 => ofOS (peek (.sl i) e1) fun x => ofOS (peek r e1) fun y => ofOS (f x y) fun z => .nx (e1.set i (some (.sh z)))
  | none => .bad
/-- xs[k] = v, xs a name's own list -/
def sSto (i : Nat) (k v : M R) : MS := fun e => sOf (v e) fun r e1 => sOf (leak r e1) fun d e2 => match slot e2 i with
  | some _ => sOf (k e2) fun q e3 => ofOS (peek q e3) fun j => (match slot e3 i, j with
    | some (.fl l), .int j => (match ixI l.length j with
      | some n => .nx (e3.set i (some (.fl (l.set n d))))
      | none => .bad)
    | _, _ => .bad)
  | none => .bad
/-- a loop over items that stand -/
def forL (t : Tg) (body : MS) : List D → MS
  | [], e => .nx e
  | d :: ds, e => match t.put d e with
    | some e1 => (match body e1 with
      | .nx e2 => forL t body ds e2
      | .ct e2 => forL t body ds e2
      | .bk e2 => .nx e2
      | r => r)
    | none => .bad
def sFor (t : Tg) (it : M (List D)) (body : MS) : MS := fun e => sOf (it e) fun ds e1 => forL t body ds e1
/-- a while, at most so many turns -/
def whL (c : M Bool) (body : MS) : Nat → MS
  | 0, _ => .bad
  | n + 1, e => match c e with
    | .ok true e1 => (match body e1 with
      | .nx e2 => whL c body n e2
      | .ct e2 => whL c body n e2
      | .bk e2 => .nx e2
      | r => r)
    | .ok false e1 => .nx e1
    | .ex k p e1 => .ex k p e1
    | .bad => .bad
def sWhile (n : Nat) (c : M Bool) (body : MS) : MS := whL c body n
/-! ### what is walked: items kept (they stand while the loop runs) -/
def mIt (f : D → Option (List D)) (a : M R) : M (List D) := fun e => andThen (a e) fun r e1 => andThen (leak r e1) fun d e2 => ofO (f d) fun l => .ok l e2
/-! ### comprehensions: own slots are wiped ahead of each turn; t: the target, c: the tests, v: the element -/
def wipeE : Env → List Nat → Env
  | e, [] => e
  | e, i :: is => wipeE (e.set i none) is
/-- behind it the own slots hold what they held, if this was shared data -/
def unwipe (e0 : Env) : Env → List Nat → Env
  | e, [] => e
  | e, i :: is => match slot e0 i with
    | some (.sh d) => unwipe e0 (e.set i (some (.sh d))) is
    | _ => unwipe e0 e is
def lcL (own : List Nat) (t : Tg) (c : M Bool) (v : M R) : List D → List D → Env → Rs (List D)
  | [], acc, e => .ok acc e
  | d :: ds, acc, e => match t.put d e with
    | some e1 => (match c e1 with
      | .ok true e2 => (match v e2 with
        | .ok r e3 => (match leak r e3 with
          | .ok x e4 => lcL own t c v ds (acc ++ [x]) (wipeE e4 own)
          | _ => .bad)
        | _ => .bad)
      | .ok false e2 => lcL own t c v ds acc (wipeE e2 own)
      | _ => .bad)
    | none => .bad
def lcEnd (e1 : Env) (own : List Nat) : Rs (List D) → Rs R
  | .ok l e2 => .ok (.ow (.fl l)) (unwipe e1 e2 own)
  | _ => .bad
def mLc (own : List Nat) (t : Tg) (it : M (List D)) (c : M Bool) (v : M R) : M R := fun e => andThen (it e) fun ds e1 => if ds.length ≤ lim then lcEnd e1 own (lcL own t c v ds [] (wipeE e1 own)) else .bad
def mYes : M Bool := fun e => .ok true e
/-! ### match on texts -/
/-- the cases: texts (none: any subject), body -/
def mtL : List (Option (List (List Nat)) × MS) → List Nat → MS
  | [], _, e => .nx e
  | (p, b) :: r, x, e => if (match p with | none => true | some l => l.contains x) = true then b e else mtL r x e
def sMatch (a : M R) (cs : List (Option (List (List Nat)) × MS)) : MS := fun e => sOf (a e) fun r e1 => match peek r e1 with
  | some (.str x) => mtL cs x e1
  | _ => .bad
/-! ### a def -/
def allO : List (Option O) → Option (List O)
  | [] => some []
  | some o :: r => (allO r).map (o :: ·)
  | none :: _ => none
def endF (n : Nat) (e : Env) : Option (List O) := allO (e.take n)
/-- things that are lent stand at the parameters of pr alone -/
def gdO (pr : Nat → Bool) : Nat → List O → Bool
  | _, [] => true
  | i, .sh _ :: r => gdO pr (i + 1) r
  | i, _ :: r => pr i && gdO pr (i + 1) r
def finR (n : Nat) : SR → FR
  | .nx e => (match endF n e with
    | some os' => .rt (.sh .non) os'
    | none => .bad)
  | .rt o e => (match endF n e with
    | some os' => .rt o os'
    | none => .bad)
  | .ex c p e => (match endF n e with
    | some os' => .ex c p os'
    | none => .bad)
  | _ => .bad
def runF (pr : Nat → Bool) (n k : Nat) (m : MS) : Fn := fun os => if gdO pr 0 os = true then finR n (m (os.map some ++ List.replicate k none)) else .bad
/-! ### operations on data -/
def mulOk (i j : Int) : Bool := (decide (-18446744073709551616 < i) && decide (i < 18446744073709551616)) || (decide (-18446744073709551616 < j) && decide (j < 18446744073709551616))
def addD : D → D → Option D
  | .int i, .int j => some (.int (i + j))
  | .str x, .str y => if x.length + y.length ≤ lim then some (.str (x ++ y)) else none
  | _, _ => none
def mulD : D → D → Option D
  | .int i, .int j => if mulOk i j = true then some (.int (i * j)) else none
  | _, _ => none
def modD : D → D → Option D
  | .int i, .int j => if 0 < j then some (.int (i % j)) else none
  | _, _ => none
def powD : D → D → Option D
  | .int i, .int j => if 0 ≤ j ∧ j ≤ 1000000 ∧ i.natAbs < 18446744073709551616 then some (.int (i ^ j.toNat)) else none
  | _, _ => none
def negD : D → Option D
  | .int i => some (.int (-i))
  | _ => none
/-! equality: plain data -/
mutual
def D.pl : D → Bool
  | .non | .bl _ | .int _ | .str _ => true
  | .tup l | .lst l => pls l
  | .dct _ | .obj _ _ | .ex _ _ => false
def pls : List D → Bool
  | [] => true
  | d :: ds => d.pl && pls ds
end
mutual
def D.dp : D → Nat
  | .tup l | .lst l => dps l + 1
  | _ => 0
def dps : List D → Nat
  | [] => 0
  | d :: ds => max d.dp (dps ds)
end
mutual
def eqB : D → D → Bool
  | .non, .non => true
  | .bl a, .bl b => a == b
  | .bl a, .int j => (if a then 1 else 0) == j
  | .int i, .bl b => i == (if b then 1 else 0)
  | .int i, .int j => i == j
  | .str x, .str y => x == y
  | .lst xs, .lst ys => eqBs xs ys
  | .tup xs, .tup ys => eqBs xs ys
  | _, _ => false
def eqBs : List D → List D → Bool
  | [], [] => true
  | x :: xs, y :: ys => eqB x y && eqBs xs ys
  | _, _ => false
end
def cmpOk (a b : D) : Bool := a.pl && b.pl && (decide (a.dp ≤ 50) || decide (b.dp ≤ 50))
def eqD (a b : D) : Option D := if cmpOk a b = true then some (.bl (eqB a b)) else none
def neD (a b : D) : Option D := if cmpOk a b = true then some (.bl (!eqB a b)) else none
def ltD : D → D → Option D
  | .int i, .int j => some (.bl (decide (i < j)))
  | .str x, .str y => some (.bl (decide (x < y)))
  | _, _ => none
def gtD : D → D → Option D
  | .int i, .int j => some (.bl (decide (j < i)))
  | .str x, .str y => some (.bl (decide (y < x)))
  | _, _ => none
def geD : D → D → Option D
  | .int i, .int j => some (.bl (decide (j ≤ i)))
  | _, _ => none
def ixD : D → D → Option D
  | .lst l, .int i => getI l i
  | .tup l, .int i => getI l i
  | .str x, .int i => (getI x i).map fun k => .str [k]
  | _, _ => none
def keyD : D → Option Ky
  | .int i => some (.i i)
  | .str x => some (.s x)
  | _ => none
def lookK : List (Ky × D) → Ky → Option D
  | [], _ => none
  | (k, d) :: r, q => if q = k then some d else lookK r q
/-- isinstance with a built-in class -/
inductive Ty where
  | str | int | bool | list | tuple | dict
  deriving DecidableEq
/-- what is walked -/
def itL : D → Option (List D)
  | .lst l => some l
  | _ => none
def enumF : Nat → List D → List D
  | _, [] => []
  | n, d :: ds => .tup [.int n, d] :: enumF (n + 1) ds
def itEL : D → Option (List D)
  | .lst l => some (enumF 0 l)
  | _ => none
def rngF (lo : Int) : Nat → List D
  | 0 => []
  | n + 1 => .int lo :: rngF (lo + 1) n
def itR1 : D → Option (List D)
  | .int j => if -4611686018427387904 ≤ j ∧ j < 4611686018427387904 then some (rngF 0 j.toNat) else none
  | _ => none
def lenD : List D → Option D
  | [.str x] => some (.int x.length)
  | [.lst l] => some (.int l.length)
  | [.tup l] => some (.int l.length)
  | _ => none
def intD : List D → Option D
  | [.int i] => some (.int i)
  | [.bl b] => some (.int (if b then 1 else 0))
  | _ => none
def absD : List D → Option D
  | [.int i] => some (.int (if i < 0 then -i else i))
  | _ => none
def max2D : List D → Option D
  | [.int i, .int j] => some (.int (if j > i then j else i))
  | _ => none
def min2D : List D → Option D
  | [.int i, .int j] => some (.int (if j < i then j else i))
  | _ => none
def catL : D → D → Option (List D)
  | .lst a, .lst b => if a.length + b.length ≤ lim then some (a ++ b) else none
  | _, _ => none
end F
end

section
set_option autoImplicit false
set_option Elab.async false
set_option linter.all false
set_option maxRecDepth 100000
/-! F layer, part B: data in the abstract heap. -/
namespace F
open PySem PySem.Spec PyProof.Rows L2
abbrev St := L2.St
structure Cn where
  K : PySem.W.Frag
  cls : Nat → Addr
  fld : Nat → List Str
  tabs : List (Addr × Option Str)
  ex : Nat → D → V → Hp → Prop
  exM : ∀ (k : Nat) (d : D) (v : V) (H H' : Hp), Same H H' → ex k d v H → ex k d v H'
  exR : ∀ (k : Nat) (d : D) (v : V) (H : Hp), ex k d v H → ∃ a, v = .ref a
def kyK : Ky → Key
  | .i n => .inl n
  | .s x => .inr (sS x)
mutual
def Dat (c : Cn) (H : Hp) : D → V → Prop
  | .non, v => v = .non
  | .bl b, v => v = .bl b
  | .int i, v => v = .int i
  | .str x, v => v = .str (sS x) ∧ x.length ≤ lim
  | .tup l, v => l.length ≤ lim ∧ ∃ a vs, v = .ref a ∧ SqT c.K H a vs ∧ Dats c H l vs
  | .lst l, v => l.length ≤ lim ∧ ∃ a vs, v = .ref a ∧ SqL c.K H a vs ∧ Dats c H l vs
  | .dct l, v => l.length ≤ lim ∧ ∃ a kvs, v = .ref a ∧ Rd H a (.dK kvs) ∧ DatK c H l kvs
  | .obj k l, v => ∃ a dx fs, v = .ref a ∧ H a = some (.ins (c.cls k) dx fs) ∧ fs.map (·.1) = (c.fld k).take l.length ∧ Dats c H l (fs.map (·.2))
  | .ex k d, v => c.ex k d v H
def Dats (c : Cn) (H : Hp) : List D → List V → Prop
  | [], vs => vs = []
  | d :: ds, vs => ∃ v r, vs = v :: r ∧ Dat c H d v ∧ Dats c H ds r
def DatK (c : Cn) (H : Hp) : List (Ky × D) → List (Key × V) → Prop
  | [], kvs => kvs = []
  | (k, d) :: r, kvs => ∃ v s, kvs = (kyK k, v) :: s ∧ Dat c H d v ∧ DatK c H r s
end
theorem Rd.same {H H' : Hp} {a : Addr} {u : HO} (e : Same H H') (h : Rd H a u) : Rd H' a u := h.elim (fun h => .inl (e _ _ h)) fun ⟨o, h⟩ => .inr ⟨o, e _ _ h⟩
theorem SqL.same {K : PySem.W.Frag} {H H' : Hp} {a : Addr} {xs : List V} (e : Same H H') (h : SqL K H a xs) : SqL K H' a xs := e.seq h
theorem SqT.same {K : PySem.W.Frag} {H H' : Hp} {a : Addr} {xs : List V} (e : Same H H') (h : SqT K H a xs) : SqT K H' a xs := by
  rcases h with (h | ⟨o, h⟩) | h
  · exact .inl (.inl (e _ _ h))
  · exact .inl (.inr ⟨o, e _ _ h⟩)
  · exact .inr h
section
variable {c : Cn} {H H' : Hp}
mutual
theorem Dat.mono (e : Same H H') : ∀ (d : D) (v : V), Dat c H d v → Dat c H' d v
  | .non, _, h => h
  | .bl _, _, h => h
  | .int _, _, h => h
  | .str _, _, h => h
  | .tup l, _, ⟨hl, a, vs, h1, h2, h3⟩ => ⟨hl, a, vs, h1, SqT.same e h2, Dats.mono e l vs h3⟩
  | .lst l, _, ⟨hl, a, vs, h1, h2, h3⟩ => ⟨hl, a, vs, h1, SqL.same e h2, Dats.mono e l vs h3⟩
  | .dct l, _, ⟨hl, a, kvs, h1, h2, h3⟩ => ⟨hl, a, kvs, h1, Rd.same e h2, DatK.mono e l kvs h3⟩
  | .obj k l, _, ⟨a, dx, fs, h1, h2, h3, h4⟩ => ⟨a, dx, fs, h1, e _ _ h2, h3, Dats.mono e l _ h4⟩
  | .ex k d, _, h => c.exM k d _ _ _ e h
theorem Dats.mono (e : Same H H') : ∀ (l : List D) (vs : List V), Dats c H l vs → Dats c H' l vs
  | [], _, h => h
  | d :: ds, _, ⟨v, r, h1, h2, h3⟩ => ⟨v, r, h1, Dat.mono e d v h2, Dats.mono e ds r h3⟩
theorem DatK.mono (e : Same H H') : ∀ (l : List (Ky × D)) (kvs : List (Key × V)), DatK c H l kvs → DatK c H' l kvs
  | [], _, h => h
  | (k, d) :: r, _, ⟨v, s, h1, h2, h3⟩ => ⟨v, s, h1, Dat.mono e d v h2, DatK.mono e r s h3⟩
end
end
section
variable {c : Cn} {H : Hp}
theorem Dats.len : ∀ {l : List D} {vs : List V}, Dats c H l vs → vs.length = l.length
  | [], _, h => by
    have h : _ = _ := h
    rw [h]
    rfl
  | d :: ds, _, ⟨v, r, h1, _, h3⟩ => by
    subst h1
    rw [List.length_cons, List.length_cons, Dats.len h3]
theorem Dats.app : ∀ {l m : List D} {vs ws : List V}, Dats c H l vs → Dats c H m ws → Dats c H (l ++ m) (vs ++ ws)
  | [], m, _, ws, h, g => by
    have h : _ = _ := h
    rw [h]
    exact g
  | d :: ds, m, _, ws, ⟨v, r, h1, h2, h3⟩, g => by
    subst h1
    exact ⟨v, r ++ ws, rfl, h2, Dats.app h3 g⟩
theorem Dats.one {d : D} {v : V} (h : Dat c H d v) : Dats c H [d] [v] := ⟨v, [], rfl, h, rfl⟩
theorem Dats.get : ∀ {l : List D} {vs : List V} {i : Nat} {d : D}, Dats c H l vs → l[i]? = some d → ∃ v, vs[i]? = some v ∧ Dat c H d v
  | [], _, _, _, _, e => by simp at e
  | d :: ds, _, 0, x, ⟨v, r, h1, h2, h3⟩, e => by
    subst h1
    simp at e
    subst e
    exact ⟨v, rfl, h2⟩
  | d :: ds, _, i + 1, x, ⟨v, r, h1, h2, h3⟩, e => by
    subst h1
    obtain ⟨w, a, b⟩ := Dats.get (i := i) h3 (by simpa using e)
    exact ⟨w, by simpa using a, b⟩
theorem Dats.set {d : D} {v : V} (h : Dat c H d v) : ∀ {l : List D} {vs : List V} (i : Nat), Dats c H l vs → Dats c H (l.set i d) (vs.set i v)
  | [], _, _, g => by
    have g : _ = _ := g
    rw [g]
    rfl
  | x :: ds, _, 0, ⟨w, r, h1, h2, h3⟩ => by
    subst h1
    exact ⟨v, r, rfl, h, h3⟩
  | x :: ds, _, i + 1, ⟨w, r, h1, h2, h3⟩ => by
    subst h1
    exact ⟨w, r.set i v, rfl, h2, Dats.set h i h3⟩
theorem Dats.take : ∀ {l : List D} {vs : List V} (n : Nat), Dats c H l vs → Dats c H (l.take n) (vs.take n)
  | _, _, 0, _ => by simp only [List.take_zero]; rfl
  | [], _, n + 1, g => by
    have g : _ = _ := g
    rw [g]
    rfl
  | x :: ds, _, n + 1, ⟨w, r, h1, h2, h3⟩ => by
    subst h1
    exact ⟨w, r.take n, rfl, h2, Dats.take n h3⟩
theorem Dats.drop : ∀ {l : List D} {vs : List V} (n : Nat), Dats c H l vs → Dats c H (l.drop n) (vs.drop n)
  | _, _, 0, g => by simpa using g
  | [], _, n + 1, g => by
    have g : _ = _ := g
    rw [g]
    rfl
  | x :: ds, _, n + 1, ⟨w, r, h1, h2, h3⟩ => by
    subst h1
    exact Dats.drop n h3
end
/-! ### a thing of one's own: its addresses -/
mutual
def OwnR (c : Cn) (H0 H : Hp) : O → V → List Addr → Prop
  | .sh d, v, as => as = [] ∧ Dat c H0 d v
  | .fl l, v, as => l.length ≤ lim ∧ ∃ a vs, v = .ref a ∧ as = [a] ∧ H a = some (.lst vs) ∧ Dats c H0 l vs
  | .fd l, v, as => l.length ≤ lim ∧ ∃ a kvs, v = .ref a ∧ as = [a] ∧ H a = some (.dK kvs) ∧ DatK c H0 l kvs
  | .fo k os, v, as => ∃ a dx fs bs, v = .ref a ∧ as = a :: dx :: bs ∧ H a = some (.ins (c.cls k) dx fs) ∧ H dx = some (.own a) ∧ fs.map (·.1) = (c.fld k).take os.length ∧ OwnRs c H0 H os (fs.map (·.2)) bs
def OwnRs (c : Cn) (H0 H : Hp) : List O → List V → List Addr → Prop
  | [], vs, as => vs = [] ∧ as = []
  | o :: os, vs, as => ∃ v r bs cs, vs = v :: r ∧ as = bs ++ cs ∧ OwnR c H0 H o v bs ∧ OwnRs c H0 H os r cs
end
/-- H0 with what stands in H at as -/
def addF (H0 H : Hp) (as : List Addr) : Hp := fun b => if b ∈ as then H b else H0 b
theorem addF_in {H0 H : Hp} {as : List Addr} {b : Addr} (h : b ∈ as) : addF H0 H as b = H b := if_pos h
theorem addF_out {H0 H : Hp} {as : List Addr} {b : Addr} (h : b ∉ as) : addF H0 H as b = H0 b := if_neg h
section
variable {c : Cn} {H0 H1 H H' : Hp}
mutual
theorem OwnR.mono (e : Same H0 H1) : ∀ (o : O) (v : V) (as : List Addr), (∀ a ∈ as, H' a = H a) → OwnR c H0 H o v as → OwnR c H1 H' o v as
  | .sh d, _, _, _, ⟨h1, h2⟩ => ⟨h1, Dat.mono e d _ h2⟩
  | .fl l, _, _, k, ⟨hl, a, vs, h1, h2, h3, h4⟩ => ⟨hl, a, vs, h1, h2, by rw [k a (by rw [h2]; simp)]; exact h3, Dats.mono e l vs h4⟩
  | .fd l, _, _, k, ⟨hl, a, vs, h1, h2, h3, h4⟩ => ⟨hl, a, vs, h1, h2, by rw [k a (by rw [h2]; simp)]; exact h3, DatK.mono e l vs h4⟩
  | .fo q os, _, _, k, ⟨a, dx, fs, bs, h1, h2, h3, h4, h5, h6⟩ => ⟨a, dx, fs, bs, h1, h2, by rw [k a (by rw [h2]; simp)]; exact h3, by rw [k dx (by rw [h2]; simp)]; exact h4, h5,
      OwnRs.mono e os _ bs (fun b hb => k b (by rw [h2]; simp [hb])) h6⟩
theorem OwnRs.mono (e : Same H0 H1) : ∀ (os : List O) (vs : List V) (as : List Addr), (∀ a ∈ as, H' a = H a) → OwnRs c H0 H os vs as → OwnRs c H1 H' os vs as
  | [], _, _, _, h => h
  | o :: os, _, _, k, ⟨v, r, bs, cs, h1, h2, h3, h4⟩ => ⟨v, r, bs, cs, h1, h2, OwnR.mono e o v bs (fun a ha => k a (by rw [h2]; exact List.mem_append_left _ ha)) h3, OwnRs.mono e os r cs (fun a ha => k a (by rw [h2]; exact List.mem_append_right _ ha)) h4⟩
end
mutual
theorem OwnR.here : ∀ (o : O) (v : V) (as : List Addr), OwnR c H0 H o v as → ∀ a ∈ as, ∃ x, H a = some x
  | .sh d, _, _, ⟨h1, _⟩, a, ha => by rw [h1] at ha; cases ha
  | .fl l, _, _, ⟨_, b, vs, _, h2, h3, _⟩, a, ha => by
    rw [h2] at ha
    rw [List.mem_singleton.mp ha]
    exact ⟨_, h3⟩
  | .fd l, _, _, ⟨_, b, vs, _, h2, h3, _⟩, a, ha => by
    rw [h2] at ha
    rw [List.mem_singleton.mp ha]
    exact ⟨_, h3⟩
  | .fo q os, _, _, ⟨b, dx, fs, bs, _, h2, h3, h4, _, h6⟩, a, ha => by
    rw [h2] at ha
    rcases List.mem_cons.mp ha with e | ha
    · rw [e]; exact ⟨_, h3⟩
    · rcases List.mem_cons.mp ha with e | ha
      · rw [e]; exact ⟨_, h4⟩
      · exact OwnRs.here os _ bs h6 a ha
theorem OwnRs.here : ∀ (os : List O) (vs : List V) (as : List Addr), OwnRs c H0 H os vs as → ∀ a ∈ as, ∃ x, H a = some x
  | [], _, _, ⟨_, h⟩, a, ha => by rw [h] at ha; cases ha
  | o :: os, _, _, ⟨v, r, bs, cs, _, h2, h3, h4⟩, a, ha => by
    rw [h2] at ha
    rcases List.mem_append.mp ha with ha | ha
    · exact OwnR.here o v bs h3 a ha
    · exact OwnRs.here os r cs h4 a ha
end
mutual
/-- kept from now on: data over H0 with its addresses -/
theorem OwnR.dat : ∀ (o : O) (v : V) (as : List Addr), OwnR c H0 H o v as → Same H0 H1 → (∀ a ∈ as, H1 a = H a) → Dat c H1 o.frz v
  | .sh d, v, _, ⟨_, h⟩, e, _ => Dat.mono e d v h
  | .fl l, v, _, ⟨hl, a, vs, h1, h2, h3, h4⟩, e, k => ⟨hl, a, vs, h1, SqL.of (by rw [k a (by rw [h2]; simp)]; exact h3), Dats.mono e l vs h4⟩
  | .fd l, v, _, ⟨hl, a, vs, h1, h2, h3, h4⟩, e, k => ⟨hl, a, vs, h1, .inl (by rw [k a (by rw [h2]; simp)]; exact h3), DatK.mono e l vs h4⟩
  | .fo q os, v, _, ⟨a, dx, fs, bs, h1, h2, h3, h4, h5, h6⟩, e, k => ⟨a, dx, fs, h1, (by rw [k a (by rw [h2]; simp)]; exact h3), by rw [h5, OwnRs.frlen os],
      OwnRs.dat os _ bs h6 e fun b hb => k b (by rw [h2]; simp [hb])⟩
theorem OwnRs.dat : ∀ (os : List O) (vs : List V) (as : List Addr), OwnRs c H0 H os vs as → Same H0 H1 → (∀ a ∈ as, H1 a = H a) → Dats c H1 (frzs os) vs
  | [], _, _, ⟨h, _⟩, _, _ => h
  | o :: os, _, _, ⟨v, r, bs, cs, h1, h2, h3, h4⟩, e, k => ⟨v, r, h1, OwnR.dat o v bs h3 e fun a ha => k a (by rw [h2]; exact List.mem_append_left _ ha), OwnRs.dat os r cs h4 e fun a ha => k a (by rw [h2]; exact List.mem_append_right _ ha)⟩
theorem OwnRs.frlen : ∀ os : List O, os.length = (frzs os).length
  | [] => rfl
  | o :: os => by
    show os.length + 1 = (frzs os).length + 1
    rw [OwnRs.frlen os]
end
end
/-! ### tables of code objects -/
def TabAt (H0 H : Hp) (p : Addr × Option Str) : Prop := ∃ ps : Array Value, H p.1 = some (.tbl ps) ∧ TriplesOk ps.toList ∧ ∀ q, p.2 = some q → ∀ (pos : Pos) (cv : Value), codeAmong pos ps.toList = some cv → ∃ a, cv = .ref a ∧ H0 a = some (LamX.CodeO a q)
structure TabR (c : Cn) (H0 Fr H : Hp) (as : Nat → List Addr) : Prop where
  at_ : ∀ p ∈ c.tabs, TabAt H0 H p
  n0 : ∀ p ∈ c.tabs, H0 p.1 = none
  nF : ∀ p ∈ c.tabs, Fr p.1 = none
  na : ∀ p ∈ c.tabs, ∀ i, p.1 ∉ as i
theorem TabAt.mono {H0 H1 H H' : Hp} {p : Addr × Option Str} (s : Same H0 H1) (e : H' p.1 = H p.1) (t : TabAt H0 H p) : TabAt H1 H' p := by
  obtain ⟨ps, h1, h2, h3⟩ := t
  refine ⟨ps, e.trans h1, h2, fun q hq pos cv hc => ?_⟩
  obtain ⟨a, e1, e2⟩ := h3 q hq pos cv hc
  exact ⟨a, e1, s _ _ e2⟩
theorem TabAt.ne {H0 H : Hp} {p : Addr × Option Str} {b : Addr} (t : TabAt H0 H p) (h : H b = none) : p.1 ≠ b := by
  obtain ⟨ps, h1, _, _⟩ := t
  exact ne_of_none h1 h
/-- a table's place is none of one's own things -/
theorem TabR.ne {c : Cn} {H0 Fr H : Hp} {as : Nat → List Addr} (t : TabR c H0 Fr H as) {p : Addr × Option Str} (hp : p ∈ c.tabs) {b : Addr} (h : H b = none) : p.1 ≠ b := (t.at_ p hp).ne h
theorem TabR.ne_as {c : Cn} {H0 Fr H : Hp} {as : Nat → List Addr} (t : TabR c H0 Fr H as) {p : Addr × Option Str} (hp : p ∈ c.tabs) {b : Addr} {i : Nat} (h : b ∈ as i) : p.1 ≠ b := fun z => t.na p hp i (z ▸ h)
theorem TabR.re {c : Cn} {H0 H1 Fr Fr' H H' : Hp} {as as' : Nat → List Addr} (t : TabR c H0 Fr H as) (s : Same H0 H1) (eH : ∀ p ∈ c.tabs, H' p.1 = H p.1) (e0 : ∀ p ∈ c.tabs, H1 p.1 = none) (eF : ∀ p ∈ c.tabs, Fr' p.1 = none) (ea : ∀ p ∈ c.tabs, ∀ i, p.1 ∉ as' i) : TabR c H1 Fr' H' as' :=
  ⟨fun p hp => (t.at_ p hp).mono s (eH p hp), e0, eF, ea⟩
theorem TabR.sub {c : Cn} {H0 Fr H : Hp} {as as' : Nat → List Addr} (t : TabR c H0 Fr H as) (h : ∀ i a, a ∈ as' i → ∃ j, a ∈ as j) : TabR c H0 Fr H as' :=
  ⟨t.at_, t.n0, t.nF, fun p hp i z => let ⟨j, q⟩ := h i _ z; t.na p hp j q⟩
/-! ### the names' things -/
structure Rp (c : Cn) (H0 Fr H : Hp) (σ : St) (env : Env) (as : Nat → List Addr) : Prop where
  len : env.length = σ.length
  sub : Same H0 H
  fr : ∀ b o, Fr b = some o → H b = some o ∧ H0 b = none
  own : ∀ i o, slot env i = some o → ∃ v, σ[i]? = some (some v) ∧ OwnR c H0 H o v (as i)
  off : ∀ i, ∀ a ∈ as i, H0 a = none ∧ Fr a = none
  sep : ∀ i j a, a ∈ as i → a ∈ as j → i = j
  nd : ∀ i, (as i).Nodup
  emp : ∀ i, slot env i = none → as i = []
  tab : TabR c H0 Fr H as
theorem slot_lt {e : Env} {i : Nat} {o : O} (h : slot e i = some o) : i < e.length := by
  unfold slot at h
  split at h
  · rename_i q
    exact (List.getElem?_eq_some_iff.mp q).1
  · cases h
theorem slot_set {e : Env} {i j : Nat} {x : Option O} (h : i < e.length) : slot (e.set i x) j = if j = i then x else slot e j := by
  unfold slot
  by_cases q : j = i
  · subst q
    rw [List.getElem?_set_self h, if_pos rfl]
    cases x <;> rfl
  · rw [List.getElem?_set_ne (Ne.symm q), if_neg q]
theorem slot_set_ge {e : Env} {i : Nat} {x : Option O} (h : ¬ i < e.length) : e.set i x = e := List.set_eq_of_length_le (Nat.le_of_not_lt h)
theorem slot_set_ne {e : Env} {i j : Nat} {x : Option O} (h : j ≠ i) : slot (e.set i x) j = slot e j := by
  unfold slot
  rw [List.getElem?_set_ne (Ne.symm h)]
theorem slot_none {e : Env} {i j : Nat} {o : O} (h : slot (e.set i none) j = some o) : j ≠ i ∧ slot e j = some o := by
  by_cases hl : i < e.length
  · rw [slot_set hl] at h
    split at h
    · cases h
    · exact ⟨by assumption, h⟩
  · rw [slot_set_ge hl] at h
    exact ⟨fun q => hl (q ▸ slot_lt h), h⟩
section
variable {c : Cn} {H0 Fr H : Hp} {σ : St} {env : Env} {as : Nat → List Addr}
theorem Rp.mem (r : Rp c H0 Fr H σ env as) {i : Nat} {a : Addr} (h : a ∈ as i) : ∃ o, slot env i = some o := by
  cases q : slot env i with
  | none =>
    rw [r.emp i q] at h
    cases h
  | some o => exact ⟨o, rfl⟩
theorem Rp.here (r : Rp c H0 Fr H σ env as) {i : Nat} {a : Addr} (h : a ∈ as i) : ∃ x, H a = some x := by
  obtain ⟨o, e⟩ := r.mem h
  obtain ⟨v, _, q⟩ := r.own i o e
  exact OwnR.here o v _ q a h
/-- what a name holds, read -/
theorem Rp.peek (r : Rp c H0 Fr H σ env as) {i : Nat} {o : O} (e : slot env i = some o) : ∃ v, σ[i]? = some (some v) ∧ Dat c H o.frz v := by
  obtain ⟨v, h1, h2⟩ := r.own i o e
  exact ⟨v, h1, OwnR.dat o v _ h2 r.sub fun _ _ => rfl⟩
theorem same_addF' {bs : List Addr} (h : ∀ a ∈ bs, H0 a = none) : Same H0 (addF H0 H bs) := fun b o e => by
  rw [addF_out (fun q => by rw [h b q] at e; cases e)]
  exact e
/-- another as at one place -/
def setA (as : Nat → List Addr) (i : Nat) (bs : List Addr) : Nat → List Addr := fun j => if j = i then bs else as j
theorem setA_same {i : Nat} {bs : List Addr} : setA as i bs i = bs := if_pos rfl
theorem setA_ne {i j : Nat} {bs : List Addr} (h : j ≠ i) : setA as i bs j = as j := if_neg h
theorem setA_mem {i j : Nat} {a : Addr} (h : a ∈ setA as i [] j) : j ≠ i ∧ a ∈ as j := by
  unfold setA at h
  split at h
  · cases h
  · exact ⟨by assumption, h⟩
/-- a name's thing is kept from now on as shared data -/
theorem Rp.freeze (r : Rp c H0 Fr H σ env as) {i : Nat} {o : O} (e : slot env i = some o) : ∃ H1 v, Same H0 H1 ∧ Rp c H1 Fr H σ (env.set i (some (.sh o.frz))) (setA as i []) ∧ σ[i]? = some (some v) ∧ Dat c H1 o.frz v := by
  obtain ⟨v, h1, h2⟩ := r.own i o e
  have hl := slot_lt e
  have s1 : Same H0 (addF H0 H (as i)) := same_addF' fun a ha => (r.off i a ha).1
  have hd : Dat c (addF H0 H (as i)) o.frz v := OwnR.dat o v _ h2 s1 fun a ha => addF_in ha
  refine ⟨addF H0 H (as i), v, s1, ⟨by simpa using r.len, ?_, ?_, ?_, ?_, ?_, ?_, ?_, r.tab.re s1 (fun _ _ => rfl) (fun p hp => by rw [addF_out (r.tab.na p hp i)]; exact r.tab.n0 p hp) r.tab.nF fun p hp j z => r.tab.na p hp j (setA_mem z).2⟩, h1, hd⟩
  · intro b x hb
    by_cases q : b ∈ as i
    · rw [addF_in q] at hb
      exact hb
    · rw [addF_out q] at hb
      exact r.sub b x hb
  · intro b x hb
    refine ⟨(r.fr b x hb).1, ?_⟩
    rw [addF_out fun q => by rw [(r.off i b q).2] at hb; cases hb]
    exact (r.fr b x hb).2
  · intro j o' ej
    rw [slot_set hl] at ej
    by_cases q : j = i
    · rw [if_pos q] at ej
      cases ej
      subst q
      exact ⟨v, h1, by rw [setA_same]; exact ⟨rfl, hd⟩⟩
    · rw [if_neg q] at ej
      obtain ⟨v', g1, g2⟩ := r.own j o' ej
      exact ⟨v', g1, by rw [setA_ne q]; exact OwnR.mono s1 o' v' _ (fun _ _ => rfl) g2⟩
  · intro j a ha
    obtain ⟨hj, ha⟩ := setA_mem ha
    refine ⟨?_, (r.off j a ha).2⟩
    rw [addF_out fun q => hj (r.sep j i a ha q)]
    exact (r.off j a ha).1
  · intro j k a ha hk
    exact r.sep j k a (setA_mem ha).2 (setA_mem hk).2
  · intro j
    by_cases q : j = i
    · rw [q, setA_same]; exact List.nodup_nil
    · rw [setA_ne q]; exact r.nd j
  · intro j ej
    by_cases q : j = i
    · rw [q, setA_same]
    · rw [setA_ne q]
      rw [slot_set hl, if_neg q] at ej
      exact r.emp j ej
/-- a new thing that is shared -/
theorem Rp.alloc (r : Rp c H0 Fr H σ env as) {p : Addr} {x : HO} (hp : H p = none) : Same H0 (upd H0 p x) ∧ Rp c (upd H0 p x) Fr (upd H p x) σ env as := by
  have h0 : H0 p = none := by
    cases q : H0 p with
    | none => rfl
    | some y =>
      rw [r.sub p y q] at hp
      cases hp
  have s1 : Same H0 (upd H0 p x) := fun b o e => by rw [upd_ne (ne_of_none e h0)]; exact e
  refine ⟨s1, r.len, ?_, ?_, ?_, ?_, r.sep, r.nd, r.emp, r.tab.re s1 (fun p q => upd_ne (r.tab.ne q hp)) (fun p q => by rw [upd_ne (r.tab.ne q hp)]; exact r.tab.n0 p q) r.tab.nF r.tab.na⟩
  · intro b o e
    by_cases q : b = p
    · subst q
      rw [upd_same] at e ⊢
      exact e
    · rw [upd_ne q] at e ⊢
      exact r.sub b o e
  · intro b o e
    have q : b ≠ p := ne_of_none (r.fr b o e).1 hp
    rw [upd_ne q, upd_ne q]
    exact r.fr b o e
  · intro i o e
    obtain ⟨v, h1, h2⟩ := r.own i o e
    refine ⟨v, h1, OwnR.mono s1 o v _ (fun a ha => ?_) h2⟩
    obtain ⟨y, hy⟩ := r.here ha
    rw [upd_ne (ne_of_none hy hp)]
  · intro i a ha
    obtain ⟨y, hy⟩ := r.here ha
    rw [upd_ne (ne_of_none hy hp)]
    exact r.off i a ha
/-- a name is forgotten; what it alone held goes to the frame of the proof or away -/
theorem Rp.drop (r : Rp c H0 Fr H σ env as) (i : Nat) : Rp c H0 Fr H σ (env.set i none) (setA as i []) := by
  refine ⟨by simpa using r.len, r.sub, r.fr, ?_, ?_, ?_, ?_, ?_, r.tab.sub fun i a z => ⟨i, (setA_mem z).2⟩⟩
  · intro j o e
    obtain ⟨hj, e⟩ := slot_none e
    obtain ⟨v, h1, h2⟩ := r.own j o e
    exact ⟨v, h1, by rw [setA_ne hj]; exact h2⟩
  · intro j a ha
    exact r.off j a (setA_mem ha).2
  · intro j k a ha hk
    exact r.sep j k a (setA_mem ha).2 (setA_mem hk).2
  · intro j
    by_cases q : j = i
    · rw [q, setA_same]; exact List.nodup_nil
    · rw [setA_ne q]; exact r.nd j
  · intro j e
    by_cases q : j = i
    · rw [q, setA_same]
    · rw [setA_ne q]
      rw [slot_set_ne q] at e
      exact r.emp j e
/-- a name gets shared data -/
theorem Rp.setSh (r : Rp c H0 Fr H σ env as) {i : Nat} {d : D} {v : V} (h : Dat c H0 d v) : Rp c H0 Fr H (σ.set i (some v)) (env.set i (some (.sh d))) (setA as i []) := by
  refine ⟨by simpa using r.len, r.sub, r.fr, ?_, ?_, ?_, ?_, ?_, r.tab.sub fun i a z => ⟨i, (setA_mem z).2⟩⟩
  · intro j o e
    by_cases hl : i < env.length
    · rw [slot_set hl] at e
      by_cases q : j = i
      · rw [if_pos q] at e
        cases e
        subst q
        exact ⟨v, List.getElem?_set_self (by rw [← r.len]; exact hl), by rw [setA_same]; exact ⟨rfl, h⟩⟩
      · rw [if_neg q] at e
        obtain ⟨w, h1, h2⟩ := r.own j o e
        exact ⟨w, by rw [List.getElem?_set_ne (Ne.symm q)]; exact h1, by rw [setA_ne q]; exact h2⟩
    · rw [slot_set_ge hl] at e
      have q : j ≠ i := fun q => hl (q ▸ slot_lt e)
      obtain ⟨w, h1, h2⟩ := r.own j o e
      exact ⟨w, by rw [List.getElem?_set_ne (Ne.symm q)]; exact h1, by rw [setA_ne q]; exact h2⟩
  · intro j a ha
    exact r.off j a (setA_mem ha).2
  · intro j k a ha hk
    exact r.sep j k a (setA_mem ha).2 (setA_mem hk).2
  · intro j
    by_cases q : j = i
    · rw [q, setA_same]; exact List.nodup_nil
    · rw [setA_ne q]; exact r.nd j
  · intro j e
    by_cases q : j = i
    · rw [q, setA_same]
    · rw [setA_ne q]
      rw [slot_set_ne q] at e
      exact r.emp j e
/-- the proof's frame: other slots of the machine's list of names -/
theorem Rp.other (r : Rp c H0 Fr H σ env as) {σ' : St} (hl : σ'.length = σ.length) (h : ∀ i o, slot env i = some o → σ'[i]? = σ[i]?) : Rp c H0 Fr H σ' env as :=
  ⟨by rw [hl]; exact r.len, r.sub, r.fr, fun i o e => by rw [h i o e]; exact r.own i o e, r.off, r.sep, r.nd, r.emp, r.tab⟩
/-- the heap grows elsewhere: new addresses alone -/
theorem Rp.heap (r : Rp c H0 Fr H σ env as) {H' : Hp} (h : Same H H') : Rp c H0 Fr H' σ env as := by
  refine ⟨r.len, fun b o e => h b o (r.sub b o e), fun b o e => ⟨h b o (r.fr b o e).1, (r.fr b o e).2⟩, fun i o e => ?_, r.off, r.sep, r.nd, r.emp, r.tab.re (Same.refl _) (fun p q => let ⟨ps, e, _⟩ := r.tab.at_ p q; (h _ _ e).trans e.symm) r.tab.n0 r.tab.nF r.tab.na⟩
  obtain ⟨v, h1, h2⟩ := r.own i o e
  exact ⟨v, h1, OwnR.mono (fun _ _ z => z) o v _ (fun a ha => by
    obtain ⟨x, hx⟩ := r.here ha
    rw [hx, h a x hx]) h2⟩
/-- a thing that no name holds yet: v stands for o -/
def Rp1 (c : Cn) (H0 Fr H : Hp) (σ : St) (env : Env) (v : V) (o : O) : Prop :=
  ∃ bs as, OwnR c H0 H o v bs ∧ bs.Nodup ∧ (∀ a ∈ bs, H0 a = none ∧ Fr a = none) ∧ Rp c H0 (addF Fr H bs) H σ env as
theorem addF_nil {Fr H : Hp} : addF Fr H [] = Fr := funext fun b => addF_out (by simp)
theorem Rp.sh1 (r : Rp c H0 Fr H σ env as) {d : D} {v : V} (h : Dat c H0 d v) : Rp1 c H0 Fr H σ env v (.sh d) :=
  ⟨[], as, ⟨rfl, h⟩, List.nodup_nil, by simp, by rw [addF_nil]; exact r⟩
/-- a frame that says less -/
theorem Rp.less (r : Rp c H0 Fr H σ env as) {Fr' : Hp} (h : ∀ b o, Fr' b = some o → Fr b = some o) : Rp c H0 Fr' H σ env as :=
  ⟨r.len, r.sub, fun b o e => r.fr b o (h b o e), r.own, fun i a ha => ⟨(r.off i a ha).1, by
    cases q : Fr' a with
    | none => rfl
    | some o =>
      have := h a o q
      rw [(r.off i a ha).2] at this
      cases this⟩, r.sep, r.nd, r.emp, r.tab.re (Same.refl _) (fun _ _ => rfl) r.tab.n0 (fun p q => by
    cases z : Fr' p.1 with
    | none => rfl
    | some o =>
      have := h _ _ z
      rw [r.tab.nF p q] at this
      cases this) r.tab.na⟩
theorem Rp1.rp {v : V} {o : O} (r : Rp1 c H0 Fr H σ env v o) : ∃ as, Rp c H0 Fr H σ env as := by
  obtain ⟨bs, as, h1, h2, h3, h4⟩ := r
  refine ⟨as, h4.less fun b x e => ?_⟩
  rw [addF_out fun q => by rw [(h3 b q).2] at e; cases e]
  exact e
/-- it is kept as shared data -/
theorem Rp1.freeze {v : V} {o : O} (r : Rp1 c H0 Fr H σ env v o) : ∃ H1 as, Same H0 H1 ∧ Rp c H1 Fr H σ env as ∧ Dat c H1 o.frz v := by
  obtain ⟨bs, as, h1, h2, h3, h4⟩ := r
  have s1 : Same H0 (addF H0 H bs) := same_addF' fun a ha => (h3 a ha).1
  refine ⟨addF H0 H bs, as, s1, ⟨h4.len, ?_, ?_, ?_, ?_, h4.sep, h4.nd, h4.emp, h4.tab.re s1 (fun _ _ => rfl) (fun p q => ?_) (fun p q => ?_) h4.tab.na⟩, OwnR.dat o v _ h1 s1 fun a ha => addF_in ha⟩
  · intro b x hb
    by_cases q : b ∈ bs
    · rw [addF_in q] at hb
      exact hb
    · rw [addF_out q] at hb
      exact h4.sub b x hb
  · intro b x hb
    have q : b ∉ bs := fun q => by rw [(h3 b q).2] at hb; cases hb
    rw [addF_out q]
    exact h4.fr b x (by rw [addF_out q]; exact hb)
  · intro i o' e
    obtain ⟨w, g1, g2⟩ := h4.own i o' e
    exact ⟨w, g1, OwnR.mono s1 o' w _ (fun _ _ => rfl) g2⟩
  · intro i a ha
    have q : a ∉ bs := fun q => by
      have z := (h4.off i a ha).2
      rw [addF_in q] at z
      obtain ⟨x, hx⟩ := h4.here ha
      rw [hx] at z
      cases z
    refine ⟨by rw [addF_out q]; exact (h4.off i a ha).1, ?_⟩
    have z := (h4.off i a ha).2
    rw [addF_out q] at z
    exact z
  · have z : p.1 ∉ bs := fun z => by
      have nF := h4.tab.nF p q
      rw [addF_in z] at nF
      obtain ⟨x, hx⟩ := OwnR.here o v bs h1 _ z
      rw [hx] at nF
      cases nF
    rw [addF_out z]
    exact h4.tab.n0 p q
  · have z : p.1 ∉ bs := fun z => by
      have nF := h4.tab.nF p q
      rw [addF_in z] at nF
      obtain ⟨x, hx⟩ := OwnR.here o v bs h1 _ z
      rw [hx] at nF
      cases nF
    have nF := h4.tab.nF p q
    rw [addF_out z] at nF
    exact nF
/-- a name gets it -/
theorem Rp1.set {v : V} {o : O} {i : Nat} (r : Rp1 c H0 Fr H σ env v o) : ∃ as, Rp c H0 Fr H (σ.set i (some v)) (env.set i (some o)) as := by
  obtain ⟨bs, as, h1, h2, h3, h4⟩ := r
  have out : ∀ {j a}, a ∈ as j → a ∉ bs := fun {j a} ha q => by
    have z := (h4.off j a ha).2
    rw [addF_in q] at z
    obtain ⟨x, hx⟩ := h4.here ha
    rw [hx] at z
    cases z
  by_cases hl : i < env.length
  · have tz : ∀ p ∈ c.tabs, p.1 ∉ bs ∧ Fr p.1 = none := fun p q => by
      have z : p.1 ∉ bs := fun z => by
        have nF := h4.tab.nF p q
        rw [addF_in z] at nF
        obtain ⟨x, hx⟩ := OwnR.here o v bs h1 _ z
        rw [hx] at nF
        cases nF
      have nF := h4.tab.nF p q
      rw [addF_out z] at nF
      exact ⟨z, nF⟩
    refine ⟨setA as i bs, by simpa using h4.len, h4.sub, ?_, ?_, ?_, ?_, ?_, ?_, h4.tab.re (Same.refl _) (fun _ _ => rfl) h4.tab.n0 (fun p q => (tz p q).2) fun p q j z => ?_⟩
    · intro b x e
      have q : b ∉ bs := fun q => by rw [(h3 b q).2] at e; cases e
      exact h4.fr b x (by rw [addF_out q]; exact e)
    · intro j o' e
      rw [slot_set hl] at e
      by_cases q : j = i
      · rw [if_pos q] at e
        cases e
        subst q
        exact ⟨v, List.getElem?_set_self (by rw [← h4.len]; exact hl), by rw [setA_same]; exact h1⟩
      · rw [if_neg q] at e
        obtain ⟨w, g1, g2⟩ := h4.own j o' e
        exact ⟨w, by rw [List.getElem?_set_ne (Ne.symm q)]; exact g1, by rw [setA_ne q]; exact g2⟩
    · intro j a ha
      by_cases q : j = i
      · subst q
        rw [setA_same] at ha
        exact h3 a ha
      · rw [setA_ne q] at ha
        have z := (h4.off j a ha).2
        rw [addF_out (out ha)] at z
        exact ⟨(h4.off j a ha).1, z⟩
    · intro j k a ha hk
      by_cases q : j = i
      · subst q
        rw [setA_same] at ha
        by_cases q2 : k = j
        · exact q2.symm
        · rw [setA_ne q2] at hk
          exact absurd ha (out hk)
      · rw [setA_ne q] at ha
        by_cases q2 : k = i
        · subst q2
          rw [setA_same] at hk
          exact absurd hk (out ha)
        · rw [setA_ne q2] at hk
          exact h4.sep j k a ha hk
    · intro j
      by_cases q : j = i
      · rw [q, setA_same]; exact h2
      · rw [setA_ne q]; exact h4.nd j
    · intro j e
      rw [slot_set hl] at e
      by_cases q : j = i
      · rw [if_pos q] at e
        cases e
      · rw [if_neg q] at e
        rw [setA_ne q]
        exact h4.emp j e
    · by_cases e : j = i
      · subst e
        rw [setA_same] at z
        exact (tz p q).1 z
      · rw [setA_ne e] at z
        exact h4.tab.na p q j z
  · obtain ⟨as2, h5⟩ := Rp1.rp ⟨bs, as, h1, h2, h3, h4⟩
    rw [slot_set_ge hl]
    refine ⟨as2, h5.other (by simp) fun j o' e => ?_⟩
    have hj := slot_lt e
    exact List.getElem?_set_ne fun q => hl (by omega)
/-- a new thing of one's own -/
theorem Rp.new (r : Rp c H0 Fr H σ env as) {p : Addr} {x : HO} {o : O} (hp : H p = none) (h : OwnR c H0 (upd H p x) o (.ref p) [p]) : Rp1 c H0 Fr (upd H p x) σ env (.ref p) o := by
  have h0 : H0 p = none := by
    cases q : H0 p with
    | none => rfl
    | some y =>
      rw [r.sub p y q] at hp
      cases hp
  have hF : Fr p = none := by
    cases q : Fr p with
    | none => rfl
    | some y =>
      rw [(r.fr p y q).1] at hp
      cases hp
  have sH : Same H (upd H p x) := fun b o e => by rw [upd_ne (ne_of_none e hp)]; exact e
  refine ⟨[p], as, h, by simp, fun a ha => by rw [List.mem_singleton.mp ha]; exact ⟨h0, hF⟩, ?_⟩
  have r2 := r.heap sH
  refine ⟨r2.len, r2.sub, ?_, r2.own, ?_, r2.sep, r2.nd, r2.emp, r2.tab.re (Same.refl _) (fun _ _ => rfl) r2.tab.n0 (fun a q => by rw [addF_out fun z => r.tab.ne q hp (List.mem_singleton.mp z)]; exact r2.tab.nF a q) r2.tab.na⟩
  · intro b o e
    by_cases q : b ∈ [p]
    · rw [addF_in q] at e
      rw [List.mem_singleton.mp q] at e ⊢
      exact ⟨e, h0⟩
    · rw [addF_out q] at e
      exact r2.fr b o e
  · intro i a ha
    obtain ⟨y, hy⟩ := r.here ha
    have q : a ∉ [p] := fun q => by
      rw [List.mem_singleton.mp q, hp] at hy
      cases hy
    rw [addF_out q]
    exact r2.off i a ha
/-- a name's own flat thing is changed -/
theorem Rp.mut (r : Rp c H0 Fr H σ env as) {i : Nat} {o o' : O} {a : Addr} {x : HO} (e : slot env i = some o) (ha : as i = [a]) (h : ∀ v, σ[i]? = some (some v) → OwnR c H0 H o v [a] → OwnR c H0 (upd H a x) o' v [a]) :
    Rp c H0 Fr (upd H a x) σ (env.set i (some o')) as := by
  have hl := slot_lt e
  have hm : a ∈ as i := by rw [ha]; simp
  refine ⟨by simpa using r.len, ?_, ?_, ?_, r.off, r.sep, r.nd, ?_, r.tab.re (Same.refl _) (fun p q => upd_ne (r.tab.ne_as q hm)) r.tab.n0 r.tab.nF r.tab.na⟩
  · intro b y hb
    rw [upd_ne (ne_of_none hb (r.off i a hm).1)]
    exact r.sub b y hb
  · intro b y hb
    rw [upd_ne (ne_of_none hb (r.off i a hm).2)]
    exact r.fr b y hb
  · intro j o2 ej
    rw [slot_set hl] at ej
    by_cases q : j = i
    · rw [if_pos q] at ej
      cases ej
      subst q
      obtain ⟨v, g1, g2⟩ := r.own j o e
      rw [ha] at g2
      exact ⟨v, g1, by rw [ha]; exact h v g1 g2⟩
    · rw [if_neg q] at ej
      obtain ⟨v, g1, g2⟩ := r.own j o2 ej
      exact ⟨v, g1, OwnR.mono (fun _ _ z => z) o2 v _ (fun b hb => upd_ne fun z => q (r.sep j i b hb (z ▸ hm))) g2⟩
  · intro j ej
    rw [slot_set hl] at ej
    by_cases q : j = i
    · rw [if_pos q] at ej
      cases ej
    · rw [if_neg q] at ej
      exact r.emp j ej
end
end F
end

section
set_option Elab.async false
set_option linter.all false
set_option maxRecDepth 100000
/-! F layer, part C: expressions and tests. -/
namespace F
open PySem PySem.Spec PyProof.Rows L2
/-- what is laid of classes: their addresses, their fields, an exception's field -/
structure Tb where
  cls : Nat → Addr
  fld : Nat → List Str
  xf : Nat → Str
  tabs : List (Addr × Option Str)
  ex : Nat → D → V → Hp → Prop
  exM : ∀ (k : Nat) (d : D) (v : V) (H H' : Hp), Same H H' → ex k d v H → ex k d v H'
  exR : ∀ (k : Nat) (d : D) (v : V) (H : Hp), ex k d v H → ∃ a, v = .ref a
abbrev cn (X : Cx) (t : Tb) : Cn := ⟨X.K, t.cls, t.fld, t.tabs, t.ex, t.exM, t.exR⟩
/-- how an exception of the class k with the payload p lies -/
def ExA (t : Tb) (c : Cn) (H0 H : Hp) (k : Nat) (p : D) (cls : Value) (dx : Option Addr) : Prop :=
  cls = .ref (t.cls k) ∧ ((∃ d v, dx = some d ∧ H0 d = some (.xd [(t.xf k, v)]) ∧ Dat c H0 p v) ∨ (dx = none ∧ p = .non ∧ t.xf k = Str.empty))
/-- an answer lies so -/
def RpR (c : Cn) (H0 Fr H : Hp) (σ : St) (e : Env) (v : V) : R → Prop
  | .d x => (∃ as, Rp c H0 Fr H σ e as) ∧ Dat c H0 x v
  | .sl i => (∃ as, Rp c H0 Fr H σ e as) ∧ σ[i]? = some (some v)
  | .ow o => Rp1 c H0 Fr H σ e v o
/-- the top of a thing stands in H, its parts are shared -/
def Dat1 (c : Cn) (H0 H : Hp) : D → V → Prop
  | .tup l, v => l.length ≤ lim ∧ ∃ a vs, v = .ref a ∧ SqT c.K H a vs ∧ Dats c H0 l vs
  | .lst l, v => l.length ≤ lim ∧ ∃ a vs, v = .ref a ∧ SqL c.K H a vs ∧ Dats c H0 l vs
  | .dct l, v => l.length ≤ lim ∧ ∃ a kvs, v = .ref a ∧ Rd H a (.dK kvs) ∧ DatK c H0 l kvs
  | .obj k l, v => ∃ a dx fs, v = .ref a ∧ H a = some (.ins (c.cls k) dx fs) ∧ fs.map (·.1) = (c.fld k).take l.length ∧ Dats c H0 l (fs.map (·.2))
  | d, v => Dat c H0 d v
theorem Dat.d1 {c : Cn} {H0 H : Hp} (s : Same H0 H) : ∀ {d : D} {v : V}, Dat c H0 d v → Dat1 c H0 H d v
  | .non, _, h => h
  | .bl _, _, h => h
  | .int _, _, h => h
  | .str _, _, h => h
  | .tup l, _, ⟨hl, a, vs, h1, h2, h3⟩ => ⟨hl, a, vs, h1, SqT.same s h2, h3⟩
  | .lst l, _, ⟨hl, a, vs, h1, h2, h3⟩ => ⟨hl, a, vs, h1, SqL.same s h2, h3⟩
  | .dct l, _, ⟨hl, a, kvs, h1, h2, h3⟩ => ⟨hl, a, kvs, h1, Rd.same s h2, h3⟩
  | .obj k l, _, ⟨a, dx, fs, h1, h2, h3, h4⟩ => ⟨a, dx, fs, h1, s _ _ h2, h3, h4⟩
  | .ex k d, _, h => h
theorem Dat1.dat {c : Cn} {H0 H : Hp} (s : Same H0 H) : ∀ {d : D} {v : V}, Dat1 c H0 H d v → Dat c H d v
  | .non, _, h => h
  | .bl _, _, h => h
  | .int _, _, h => h
  | .str _, _, h => h
  | .tup l, _, ⟨hl, a, vs, h1, h2, h3⟩ => ⟨hl, a, vs, h1, h2, Dats.mono s _ _ h3⟩
  | .lst l, _, ⟨hl, a, vs, h1, h2, h3⟩ => ⟨hl, a, vs, h1, h2, Dats.mono s _ _ h3⟩
  | .dct l, _, ⟨hl, a, kvs, h1, h2, h3⟩ => ⟨hl, a, kvs, h1, h2, DatK.mono s _ _ h3⟩
  | .obj k l, _, ⟨a, dx, fs, h1, h2, h3, h4⟩ => ⟨a, dx, fs, h1, h2, h3, Dats.mono s _ _ h4⟩
  | .ex k d, _, h => c.exM k d _ _ _ s h
theorem OwnR.d1 {c : Cn} {H0 H : Hp} (s : Same H0 H) {o : O} {v : V} {as : List Addr} {d : D} (h : OwnR c H0 H o v as) (e : o.pk = some d) : Dat1 c H0 H d v := by
  cases o with
  | sh x =>
    cases e
    exact Dat.d1 s h.2
  | fl l =>
    cases e
    obtain ⟨hl, a, vs, h1, h2, h3, h4⟩ := h
    exact ⟨hl, a, vs, h1, SqL.of h3, h4⟩
  | fd l =>
    cases e
    obtain ⟨hl, a, vs, h1, h2, h3, h4⟩ := h
    exact ⟨hl, a, vs, h1, .inl h3, h4⟩
  | fo k os => cases e
/-- an answer held while others are reckoned -/
def Kp (c : Cn) (H0 : Hp) (σ : St) (v : V) : R → Prop
  | .d x => Dat c H0 x v
  | .sl i => σ[i]? = some (some v)
  | .ow _ => False
section
variable {c : Cn} {H0 H1 Fr H : Hp} {σ : St} {e : Env} {v : V} {r : R}
theorem Kp.mono (s : Same H0 H1) (h : Kp c H0 σ v r) : Kp c H1 σ v r := by
  cases r with
  | d x => exact Dat.mono s _ _ h
  | sl i => exact h
  | ow o => exact h
theorem RpR.rp (h : RpR c H0 Fr H σ e v r) : ∃ as, Rp c H0 Fr H σ e as := by
  cases r with
  | d x => exact h.1
  | sl i => exact h.1
  | ow o => exact Rp1.rp h
theorem RpR.keep (h : RpR c H0 Fr H σ e v r) : ∃ H2 as, Same H0 H2 ∧ Rp c H2 Fr H σ e as ∧ Kp c H2 σ v (nrm r) := by
  cases r with
  | d x =>
    obtain ⟨⟨as, h1⟩, h2⟩ := h
    exact ⟨H0, as, Same.refl _, h1, h2⟩
  | sl i =>
    obtain ⟨⟨as, h1⟩, h2⟩ := h
    exact ⟨H0, as, Same.refl _, h1, h2⟩
  | ow o =>
    obtain ⟨H2, as, s, h1, h2⟩ := Rp1.freeze h
    exact ⟨H2, as, s, h1, h2⟩
theorem Kp.peek {as : Nat → List Addr} (rp : Rp c H0 Fr H σ e as) (k : Kp c H0 σ v r) {d : D} (h : peek r e = some d) : Dat1 c H0 H d v := by
  cases r with
  | d x =>
    cases h
    exact Dat.d1 rp.sub k
  | sl i =>
    have h : (slot e i).bind O.pk = some d := h
    cases q : slot e i with
    | none =>
      rw [q] at h
      cases h
    | some o =>
      rw [q] at h
      obtain ⟨w, h1, h2⟩ := rp.own i o q
      have k : σ[i]? = some (some v) := k
      rw [h1] at k
      cases k
      exact OwnR.d1 rp.sub h2 h
  | ow o => exact k.elim
/-- an operand at the end -/
theorem RpR.peek (h : RpR c H0 Fr H σ e v r) {d : D} (hp : peek r e = some d) : ∃ H2 as, Same H0 H2 ∧ Rp c H2 Fr H σ e as ∧ Dat1 c H2 H d v := by
  cases r with
  | d x =>
    obtain ⟨⟨as, h1⟩, h2⟩ := h
    exact ⟨H0, as, Same.refl _, h1, Kp.peek (r := .d x) h1 h2 hp⟩
  | sl i =>
    obtain ⟨⟨as, h1⟩, h2⟩ := h
    exact ⟨H0, as, Same.refl _, h1, Kp.peek (r := .sl i) h1 h2 hp⟩
  | ow o =>
    obtain ⟨H2, as, s, h1, h2⟩ := Rp1.freeze h
    have hp : o.pk = some d := hp
    refine ⟨H2, as, s, h1, ?_⟩
    have : o.frz = d := by
      cases o <;> cases hp <;> rfl
    rw [← this]
    exact Dat.d1 h1.sub h2
/-- an answer is kept -/
theorem RpR.leak (h : RpR c H0 Fr H σ e v r) {d : D} {e' : Env} (hl : leak r e = .ok d e') : ∃ H2 as, Same H0 H2 ∧ Rp c H2 Fr H σ e' as ∧ Dat c H2 d v := by
  cases r with
  | d x =>
    cases hl
    obtain ⟨⟨as, h1⟩, h2⟩ := h
    exact ⟨H0, as, Same.refl _, h1, h2⟩
  | sl i =>
    obtain ⟨⟨as, h1⟩, h2⟩ := h
    have hl : (match slot e i with
      | some o => Rs.ok o.frz (e.set i (some (.sh o.frz)))
      | none => .bad) = .ok d e' := hl
    cases q : slot e i with
    | none =>
      rw [q] at hl
      cases hl
    | some o =>
      rw [q] at hl
      cases hl
      obtain ⟨H2, w, s, h3, h4, h5⟩ := h1.freeze q
      rw [h2] at h4
      cases h4
      exact ⟨H2, _, s, h3, h5⟩
  | ow o =>
    cases hl
    obtain ⟨H2, as, s, h1, h2⟩ := Rp1.freeze h
    exact ⟨H2, as, s, h1, h2⟩
theorem leak_ok {e' : Env} (h : RpR c H0 Fr H σ e v r) : (∃ d e1, leak r e = .ok d e1) ∨ leak r e = .bad := by
  cases r with
  | d x => exact .inl ⟨_, _, rfl⟩
  | sl i =>
    show (∃ d e1, (match slot e i with
      | some o => Rs.ok o.frz (e.set i (some (.sh o.frz)))
      | none => .bad) = .ok d e1) ∨ (match slot e i with
      | some o => Rs.ok o.frz (e.set i (some (.sh o.frz)))
      | none => .bad) = .bad
    cases slot e i with
    | none => exact .inr rfl
    | some o => exact .inl ⟨_, _, rfl⟩
  | ow o => exact .inl ⟨_, _, rfl⟩
end
/-! ### the readings -/
/-- what a run of a plain function must give: RR how its answer lies, Q what is wanted -/
def Po {α β : Type} (t : Tb) (c : Cn) (W : WX) (Fr : Hp) (σ : St) (H0 : Hp) (RR : Hp → Hp → Env → β → α → Prop) (Q : β → Hp → Prop) : Rs α → Prop
  | .ok a e => ∀ b H1 H', Same H0 H1 → RR H1 H' e b a → Q b H'
  | .ex k p e => ∀ H1 H' as cls dx, Same H0 H1 → Rp c H1 Fr H' σ e as → ExA t c H1 H' k p cls dx → W cls dx σ H'
  | .bad => False
def tG {α β : Type} (t : Tb) (c : Cn) (W : WX) (RR : Hp → St → Hp → Hp → Env → β → α → Prop) (m : M α) : St → Hp → (β → Hp → Prop) → Prop := fun σ H Q =>
  ∃ (e : Env) (H0 Fr : Hp) (as : Nat → List Addr), Rp c H0 Fr H σ e as ∧ Po t c W Fr σ H0 (RR Fr σ) Q (m e)
def rrR (c : Cn) : Hp → St → Hp → Hp → Env → V → R → Prop := fun Fr σ H1 H' e v r => RpR c H1 Fr H' σ e v r
def rrB (c : Cn) : Hp → St → Hp → Hp → Env → Bool → Bool → Prop := fun Fr σ H1 H' e b a => b = a ∧ ∃ as, Rp c H1 Fr H' σ e as
def Kps (c : Cn) (H0 : Hp) (σ : St) : List V → List R → Prop
  | [], rs => rs = []
  | v :: vs, rs => ∃ r qs, rs = r :: qs ∧ Kp c H0 σ v r ∧ Kps c H0 σ vs qs
def rrRs (c : Cn) : Hp → St → Hp → Hp → Env → List V → List R → Prop := fun Fr σ H1 H' e vs rs => (∃ as, Rp c H1 Fr H' σ e as) ∧ Kps c H1 σ vs rs
def rrDs (c : Cn) : Hp → St → Hp → Hp → Env → List V → List D → Prop := fun Fr σ H1 H' e vs ds => (∃ as, Rp c H1 Fr H' σ e as) ∧ Dats c H1 ds vs
abbrev tI (X : Cx) (t : Tb) (W : WX) (m : M R) : TE := tG t (cn X t) W (rrR (cn X t)) m
abbrev SE (X : Cx) (t : Tb) (W : WX) (e : Expr) (m : M R) : Prop := PE X e (tI X t W m)
abbrev SB (X : Cx) (t : Tb) (W : WX) (e : Expr) (m : M Bool) : Prop := PT X e (tG t (cn X t) W (rrB (cn X t)) m)
abbrev SW (X : Cx) (t : Tb) (W : WX) (e : Expr) (m : M Bool) : Prop := PW X e (tG t (cn X t) W (rrB (cn X t)) m)
abbrev SA (X : Cx) (t : Tb) (W : WX) (es : List Expr) (m : M (List R)) : Prop := PA X es (tG t (cn X t) W (rrRs (cn X t)) m)
abbrev SD (X : Cx) (t : Tb) (W : WX) (es : List Expr) (m : M (List D)) : Prop := PA X es (tG t (cn X t) W (rrDs (cn X t)) m)
theorem PE.imp {X : Cx} {e : Expr} {u u' : TE} (h : PE X e u) (k : ∀ σ H Q, u' σ H Q → u σ H Q) : PE X e u' := ⟨fun pins s σ H Q I q => h.run pins s σ H Q I (k _ _ _ q)⟩
theorem PT.imp {X : Cx} {e : Expr} {u u' : TT} (h : PT X e u) (k : ∀ σ H Q, u' σ H Q → u σ H Q) : PT X e u' := ⟨fun pins s σ H Q I q => h.run pins s σ H Q I (k _ _ _ q)⟩
theorem PW.imp {X : Cx} {e : Expr} {u u' : TT} (h : PW X e u) (k : ∀ σ H Q, u' σ H Q → u σ H Q) : PW X e u' := ⟨fun wh pins s σ H Q I q => h.run wh pins s σ H Q I (k _ _ _ q)⟩
theorem PA.imp {X : Cx} {es : List Expr} {u u' : TA} (h : PA X es u) (k : ∀ σ H Q, u' σ H Q → u σ H Q) : PA X es u' := ⟨fun pos pins s σ H Q I q => h.run pos pins s σ H Q I (k _ _ _ q)⟩
section
variable {α β γ δ : Type} {t : Tb} {c : Cn} {W : WX}
theorem Po.mono {RR : Hp → Hp → Env → β → α → Prop} {Q : β → Hp → Prop} {Fr H0 H1 : Hp} {σ : St} {x : Rs α} (s : Same H0 H1) (h : Po t c W Fr σ H0 RR Q x) : Po t c W Fr σ H1 RR Q x := by
  cases x with
  | ok a e => exact fun b H2 H' s2 rr => h b H2 H' (s.trans s2) rr
  | ex k p e => exact fun H2 H' as cls dx s2 rp xa => h H2 H' as cls dx (s.trans s2) rp xa
  | bad => exact h
/-- one run behind another -/
theorem Po.bind {RR : Hp → Hp → Env → β → α → Prop} {RS : Hp → Hp → Env → δ → γ → Prop} {x : Rs α} {f : α → Env → Rs γ} {σ : St} {Fr H0 : Hp} {Q : δ → Hp → Prop} {k : β → Hp → Prop}
    (po : Po t c W Fr σ H0 RS Q (andThen x f)) (hk : ∀ (a : α) (e : Env) (b : β) (H1 H' : Hp), Same H0 H1 → RR H1 H' e b a → Po t c W Fr σ H1 RS Q (f a e) → k b H') : Po t c W Fr σ H0 RR k x := by
  cases x with
  | ok a e1 => exact fun b H1 H' s rr => hk a e1 b H1 H' s rr (Po.mono s po)
  | ex k' p e1 => exact po
  | bad => exact po
/-- an option that must be there -/
theorem Po.ofO {RR : Hp → Hp → Env → β → α → Prop} {Q : β → Hp → Prop} {Fr H0 : Hp} {σ : St} {x : Option γ} {f : γ → Rs α} (h : Po t c W Fr σ H0 RR Q (ofO x f)) : ∃ a, x = some a ∧ Po t c W Fr σ H0 RR Q (f a) := by
  cases x with
  | none => exact h.elim
  | some a => exact ⟨a, rfl, h⟩
/-- the answer is there -/
theorem Po.ret {RR : Hp → Hp → Env → β → α → Prop} {Q : β → Hp → Prop} {Fr H0 H1 H' : Hp} {σ : St} {a : α} {e : Env} {b : β} (h : Po t c W Fr σ H0 RR Q (.ok a e)) (s : Same H0 H1) (rr : RR H1 H' e b a) : Q b H' := h b H1 H' s rr
theorem Po.tG {RR : Hp → St → Hp → Hp → Env → β → α → Prop} {Q : β → Hp → Prop} {Fr H0 H1 H : Hp} {σ : St} {m : M α} {e : Env} {as : Nat → List Addr} (h : Po t c W Fr σ H0 (RR Fr σ) Q (m e)) (s : Same H0 H1) (rp : Rp c H1 Fr H σ e as) : tG t c W RR m σ H Q :=
  ⟨e, H1, Fr, as, rp, h.mono s⟩
end
/-! ### names and constants -/
section
variable {X : Cx} {t : Tb} {W : WX}
theorem se_var {x : Str} {pos : Pos} {i : Nat} (h : PE X (.Name x pos) (tVar i)) : SE X t W (.Name x pos) (mVar i) := by
  refine PE.imp h fun σ H Q ⟨e, H0, Fr, as, rp, po⟩ => ?_
  have po : Po t (cn X t) W Fr σ H0 (rrR (cn X t) Fr σ) Q (match slot e i with
    | some _ => .ok (.sl i) e
    | none => .bad) := po
  cases q : slot e i with
  | none =>
    rw [q] at po
    exact po.elim
  | some o =>
    rw [q] at po
    obtain ⟨v, h1, h2⟩ := rp.own i o q
    exact ⟨v, h1, po v H0 H (Same.refl _) ⟨⟨as, rp⟩, h1⟩⟩
theorem se_k {e : Expr} {v : V} {d : D} (h : PE X e (tC v)) (hd : ∀ H, Dat (cn X t) H d v) : SE X t W e (mC d) := by
  refine PE.imp h fun σ H Q ⟨e, H0, Fr, as, rp, po⟩ => ?_
  exact po v H0 H (Same.refl _) ⟨⟨as, rp⟩, hd H0⟩
theorem se_int {i : Int} {j pos} : SE X t W (.Constant (.int i) j pos) (mC (.int i)) := se_k pe_int fun _ => rfl
theorem se_bl {b : Bool} {j pos} : SE X t W (.Constant (.bool b) j pos) (mC (.bl b)) := se_k pe_bl fun _ => rfl
theorem se_non {j pos} : SE X t W (.Constant .none j pos) (mC .non) := se_k pe_non fun _ => rfl
theorem se_str {x : Str} {l : List Nat} {j pos} (h : x = sS l := by decide +kernel) (hl : l.length ≤ lim := by decide) : SE X t W (.Constant (.str x) j pos) (mC (.str l)) := se_k pe_str fun _ => ⟨by rw [h], hl⟩
end
/-! ### operations by values -/
/-- what an operation's answer may be: shared data as it stands, or a new object -/
def Out (c : Cn) (H0 H : Hp) (d : D) (Q : VK) : Prop := (∀ z, Dat c H0 d z → Q z H) ∧ ∀ p o, H p = none → Dat c (upd H0 p o) d (.ref p) → Q (.ref p) (upd H p o)
def VOp1 (c : Cn) (r : V → Hp → VK → Prop) (f : D → Option D) : Prop := ∀ (H0 H : Hp) (x : V) (dx dz : D) (Q : VK), Same H0 H → f dx = some dz → Dat1 c H0 H dx x → Out c H0 H dz Q → r x H Q
def VOp2 (c : Cn) (r : R2) (f : D → D → Option D) : Prop := ∀ (H0 H : Hp) (x y : V) (dx dy dz : D) (Q : VK), Same H0 H → f dx dy = some dz → Dat1 c H0 H dx x → Dat1 c H0 H dy y → Out c H0 H dz Q → r x y H Q
/-- a new list -/
def NewL (c : Cn) (H0 H : Hp) (l : List D) (Q : VK) : Prop := ∀ p vs, H p = none → l.length ≤ lim → Dats c H0 l vs → Q (.ref p) (upd H p (.lst vs))
def LOp2 (c : Cn) (r : R2) (f : D → D → Option (List D)) : Prop := ∀ (H0 H : Hp) (x y : V) (dx dy : D) (l : List D) (Q : VK), Same H0 H → f dx dy = some l → Dat1 c H0 H dx x → Dat1 c H0 H dy y → NewL c H0 H l Q → r x y H Q
section
variable {t : Tb} {c : Cn} {W : WX} {Fr H0 H : Hp} {σ : St} {e : Env} {as : Nat → List Addr} {Q : VK}
theorem Po.out {d : D} (h : Po t c W Fr σ H0 (rrR c Fr σ) Q (.ok (.d d) e)) (rp : Rp c H0 Fr H σ e as) : Out c H0 H d Q :=
  ⟨fun z hz => h z H0 H (Same.refl _) ⟨⟨as, rp⟩, hz⟩, fun p o hp hd => h (.ref p) _ _ (rp.alloc hp).1 ⟨⟨as, (rp.alloc hp).2⟩, hd⟩⟩
theorem Po.newL {l : List D} (h : Po t c W Fr σ H0 (rrR c Fr σ) Q (.ok (.ow (.fl l)) e)) (rp : Rp c H0 Fr H σ e as) : NewL c H0 H l Q :=
  fun p vs hp hl hd => h (.ref p) H0 _ (Same.refl _) (rp.new hp ⟨hl, p, vs, rfl, rfl, upd_same, hd⟩)
end
section
variable {X : Cx} {t : Tb} {W : WX} {a b : Expr} {ma mb : M R}
/-- the step behind one operand -/
theorem tI_op1 {r : V → Hp → VK → Prop} {f : D → Option D} (h : VOp1 (cn X t) r f) {σ : St} {H : Hp} {Q : VK} (q : tI X t W (mOp1 f ma) σ H Q) : tI X t W ma σ H fun x H1 => r x H1 Q := by
  obtain ⟨e, H0, Fr, as, rp, po⟩ := q
  refine ⟨e, H0, Fr, as, rp, po.bind fun ra e1 v H1 H' s rr po => ?_⟩
  obtain ⟨dx, e1, po⟩ := po.ofO
  obtain ⟨dz, e2, po⟩ := po.ofO
  obtain ⟨H2, as, s2, rp, hd⟩ := RpR.peek rr e1
  exact h H2 H' v dx dz Q rp.sub e2 hd ((po.mono s2).out rp)
theorem tI_op2 {r : R2} {f : D → D → Option D} (h : VOp2 (cn X t) r f) {σ : St} {H : Hp} {Q : VK} (q : tI X t W (mOp2 f ma mb) σ H Q) : tOp r (tI X t W ma) (tI X t W mb) σ H Q := by
  obtain ⟨e, H0, Fr, as, rp, po⟩ := q
  refine ⟨e, H0, Fr, as, rp, po.bind fun ra e1 v H1 H' s rr po => ?_⟩
  obtain ⟨H2, as, s2, rp, kp⟩ := RpR.keep rr
  refine ⟨e1, H2, Fr, as, rp, (po.mono s2).bind fun rb e2 w H3 H'' s3 rr2 po => ?_⟩
  obtain ⟨dx, q1, po⟩ := po.ofO
  obtain ⟨dy, q2, po⟩ := po.ofO
  obtain ⟨dz, q3, po⟩ := po.ofO
  obtain ⟨H4, as, s4, rp, hd⟩ := RpR.peek rr2 q2
  exact h H4 H'' v w dx dy dz Q rp.sub q3 ((kp.mono (s3.trans s4)).peek rp q1) hd ((po.mono s4).out rp)
theorem tI_ol2 {r : R2} {f : D → D → Option (List D)} (h : LOp2 (cn X t) r f) {σ : St} {H : Hp} {Q : VK} (q : tI X t W (mOl2 f ma mb) σ H Q) : tOp r (tI X t W ma) (tI X t W mb) σ H Q := by
  obtain ⟨e, H0, Fr, as, rp, po⟩ := q
  refine ⟨e, H0, Fr, as, rp, po.bind fun ra e1 v H1 H' s rr po => ?_⟩
  obtain ⟨H2, as, s2, rp, kp⟩ := RpR.keep rr
  refine ⟨e1, H2, Fr, as, rp, (po.mono s2).bind fun rb e2 w H3 H'' s3 rr2 po => ?_⟩
  obtain ⟨dx, q1, po⟩ := po.ofO
  obtain ⟨dy, q2, po⟩ := po.ofO
  obtain ⟨dz, q3, po⟩ := po.ofO
  obtain ⟨H4, as, s4, rp, hd⟩ := RpR.peek rr2 q2
  exact h H4 H'' v w dx dy dz Q rp.sub q3 ((kp.mono (s3.trans s4)).peek rp q1) hd ((po.mono s4).newL rp)
variable {pos : Pos}
theorem se_un {op : UnaryOp} {r : V → Hp → VK → Prop} {f : D → Option D} (ho : UnR X (unaryOp op) r) (h : VOp1 (cn X t) r f) (ha : SE X t W a ma) : SE X t W (.UnaryOp op a pos) (mOp1 f ma) := PE.imp (pe_un ho ha) fun _ _ _ q => tI_op1 h q
theorem se_op {op : Operator} {r : R2} {f : D → D → Option D} (ho : OpR X (binaryOp op) r) (h : VOp2 (cn X t) r f) (ha : SE X t W a ma) (hb : SE X t W b mb) : SE X t W (.BinOp a op b pos) (mOp2 f ma mb) := PE.imp (pe_op ho ha hb) fun _ _ _ q => tI_op2 h q
theorem se_opL {op : Operator} {r : R2} {f : D → D → Option (List D)} (ho : OpR X (binaryOp op) r) (h : LOp2 (cn X t) r f) (ha : SE X t W a ma) (hb : SE X t W b mb) : SE X t W (.BinOp a op b pos) (mOl2 f ma mb) := PE.imp (pe_op ho ha hb) fun _ _ _ q => tI_ol2 h q
theorem se_cmp {op : CmpOp} {r : R2} {f : D → D → Option D} (ho : OpR X (compareOp op) r) (h : VOp2 (cn X t) r f) (ha : SE X t W a ma) (hb : SE X t W b mb) (hm : behindInMarks op b = false) : SE X t W (.Compare a [op] [b] pos) (mOp2 f ma mb) :=
  PE.imp (pe_cmpR ho ha hb hm) fun _ _ _ q => tI_op2 h q
theorem se_ix {r : R2} {f : D → D → Option D} (hr : IxR X r) (h : VOp2 (cn X t) r f) (ha : SE X t W a ma) (hb : SE X t W b mb) (hs : PlainIx b) : SE X t W (.Subscript a b pos) (mOp2 f ma mb) := PE.imp (pe_ix hr ha hb hs) fun _ _ _ q => tI_op2 h q
/-! ### tests -/
/-- the value of a test is a bool -/
theorem tG_tb {σ : St} {H : Hp} {Q : Bool → Hp → Prop} (q : tG t (cn X t) W (rrB (cn X t)) (mTB ma) σ H Q) : tI X t W ma σ H fun x H' => ∃ k, x = .bl k ∧ Q k H' := by
  obtain ⟨e, H0, Fr, as, rp, po⟩ := q
  refine ⟨e, H0, Fr, as, rp, po.bind fun ra e1 v H1 H' s rr po => ?_⟩
  cases q : peek ra e1 with
  | none =>
    rw [q] at po
    exact po.elim
  | some d =>
    rw [q] at po
    cases d with
    | bl b =>
      obtain ⟨H2, as, s2, rp, hd⟩ := RpR.peek rr q
      exact ⟨b, hd, (po.mono s2).ret (Same.refl _) ⟨rfl, as, rp⟩⟩
    | _ => exact po.elim
theorem sb_cmp {op : CmpOp} {r : R2} {f : D → D → Option D} (ho : OpR X (compareOp op) r) (h : VOp2 (cn X t) r f) (ha : SE X t W a ma) (hb : SE X t W b mb) (hm : behindInMarks op b = false) : SB X t W (.Compare a [op] [b] pos) (mTB (mOp2 f ma mb)) :=
  PT.imp (pt_cmpR ho ha hb hm) fun _ _ _ q => tI_op2 h (tG_tb q)
variable {m1 m2 : M Bool} {rest : List Expr}
theorem sw_pt (h : SW X t W a m1) : SB X t W a m1 := h.pt
theorem sw_or1 (h : SB X t W a m1) : SW X t W (.BoolOp .Or [a] pos) m1 := pw_or1 h
theorem sw_or (h : SB X t W a m1) (h2 : SW X t W (.BoolOp .Or (b :: rest) pos) m2) : SW X t W (.BoolOp .Or (a :: b :: rest) pos) (mOr m1 m2) := by
  refine PW.imp (pw_or h h2) fun σ H Q ⟨e, H0, Fr, as, rp, po⟩ => ?_
  refine ⟨e, H0, Fr, as, rp, po.bind fun x e1 k H1 H' s ⟨ek, as2, rp2⟩ po => ?_⟩
  subst ek
  cases k with
  | true => exact po.ret (Same.refl _) ⟨rfl, as2, rp2⟩
  | false => exact ⟨e1, H1, Fr, as2, rp2, po⟩
theorem se_if {cnd : Expr} (h : SB X t W cnd m1) (ha : SE X t W a ma) (hb : SE X t W b mb) : SE X t W (.IfExp cnd a b pos) (mIf m1 ma mb) := by
  refine PE.imp (pe_ifExp h ha hb) fun σ H Q ⟨e, H0, Fr, as, rp, po⟩ => ?_
  refine ⟨e, H0, Fr, as, rp, po.bind fun x e1 k H1 H' s ⟨ek, as2, rp2⟩ po => ?_⟩
  subst ek
  cases k with
  | true => exact ⟨e1, H1, Fr, as2, rp2, po⟩
  | false => exact ⟨e1, H1, Fr, as2, rp2, po⟩
/-! ### and, or, not as values -/
/-! ### several in a row -/
variable {es : List Expr} {ms : List (M R)}
theorem sa_nil : SA X t W [] (mRs []) := by
  refine PA.imp pa_nil fun σ H Q ⟨e, H0, Fr, as, rp, po⟩ => ?_
  exact po [] H0 H (Same.refl _) ⟨⟨as, rp⟩, rfl⟩
theorem sa_cons (ha : SE X t W a ma) (hr : SA X t W es (mRs ms)) (hs : starEach (a :: es) X.env = (false, eval a X.env) :: starEach es X.env := by rfl) : SA X t W (a :: es) (mRs (ma :: ms)) := by
  refine PA.imp (pa_cons ha hr hs) fun σ H Q ⟨e, H0, Fr, as, rp, po⟩ => ?_
  refine ⟨e, H0, Fr, as, rp, Po.bind (f := fun r e1 => andThen (mRs ms e1) fun rs e2 => .ok (nrm r :: rs) e2) po fun ra e1 v H1 H' s rr po => ?_⟩
  obtain ⟨H2, as, s2, rp, kp⟩ := RpR.keep rr
  refine ⟨e1, H2, Fr, as, rp, (po.mono s2).bind fun rs e2 vs H3 H'' s3 ⟨rp3, ks⟩ po => ?_⟩
  exact po.ret (Same.refl _) ⟨rp3, _, _, rfl, kp.mono s3, ks⟩
theorem sd_nil : SD X t W [] (mLks []) := by
  refine PA.imp pa_nil fun σ H Q ⟨e, H0, Fr, as, rp, po⟩ => ?_
  exact po [] H0 H (Same.refl _) ⟨⟨as, rp⟩, rfl⟩
theorem Po.leak {c : Cn} {Fr H0 H : Hp} {σ : St} {ra : R} {e1 : Env} {v : V} {γ δ : Type} {RS : Hp → Hp → Env → δ → γ → Prop} {Q : δ → Hp → Prop} {f : D → Env → Rs γ}
    (po : Po t c W Fr σ H0 RS Q (andThen (leak ra e1) f)) (rr : RpR c H0 Fr H σ e1 v ra) : ∃ d e2 H2 as, leak ra e1 = .ok d e2 ∧ Same H0 H2 ∧ Rp c H2 Fr H σ e2 as ∧ Dat c H2 d v ∧ Po t c W Fr σ H2 RS Q (f d e2) := by
  rcases leak_ok (e' := e1) rr with ⟨d, e2, q⟩ | q
  · rw [q] at po
    obtain ⟨H2, as, s, rp, hd⟩ := RpR.leak rr q
    exact ⟨d, e2, H2, as, q, s, rp, hd, Po.mono s po⟩
  · rw [q] at po
    exact po.elim
theorem sd_cons (ha : SE X t W a ma) (hr : SD X t W es (mLks ms)) (hs : starEach (a :: es) X.env = (false, eval a X.env) :: starEach es X.env := by rfl) : SD X t W (a :: es) (mLks (ma :: ms)) := by
  refine PA.imp (pa_cons ha hr hs) fun σ H Q ⟨e, H0, Fr, as, rp, po⟩ => ?_
  refine ⟨e, H0, Fr, as, rp, Po.bind (f := fun r e1 => andThen (leak r e1) fun d e2 => andThen (mLks ms e2) fun ds e3 => .ok (d :: ds) e3) po fun ra e1 v H1 H' s rr po => ?_⟩
  obtain ⟨d, e2, H2, as, q, s2, rp, hd, po⟩ := po.leak rr
  refine ⟨e2, H2, Fr, as, rp, po.bind fun ds e3 vs H3 H'' s3 ⟨rp3, ks⟩ po => ?_⟩
  exact po.ret (Same.refl _) ⟨rp3, v, vs, rfl, Dat.mono s3 _ _ hd, ks⟩
theorem sizeLine_lim : sizeLine = lim := sizeLine_eq
theorem se_tup {x1} (h : SD X t W es (mLks ms)) : SE X t W (.Tuple es x1 pos) (mTup ms) := by
  refine PE.imp (pe_tup h) fun σ H Q ⟨e, H0, Fr, as, rp, po⟩ => ?_
  refine ⟨e, H0, Fr, as, rp, po.bind fun ds e1 vs H1 H' s ⟨⟨as, rp⟩, hd⟩ po => ?_⟩
  by_cases hl : ds.length ≤ lim
  · rw [if_pos hl] at po
    refine ⟨by rw [hd.len, sizeLine_lim]; exact hl, fun p hp => ?_⟩
    exact (po.out rp).2 p _ hp ⟨hl, p, vs, rfl, SqT.of upd_same, Dats.mono (rp.alloc (x := .tup vs) hp).1 _ _ hd⟩
  · rw [if_neg hl] at po
    exact po.elim
theorem se_lst (h : SD X t W es (mLks ms)) : SE X t W (.List es pos) (mLst ms) := by
  refine PE.imp (pe_lst h) fun σ H Q ⟨e, H0, Fr, as, rp, po⟩ => ?_
  refine ⟨e, H0, Fr, as, rp, po.bind fun ds e1 vs H1 H' s ⟨⟨as, rp⟩, hd⟩ po => ?_⟩
  by_cases hl : ds.length ≤ lim
  · rw [if_pos hl] at po
    exact ⟨by rw [hd.len, sizeLine_lim]; exact hl, fun p hp => po.newL rp p vs hp hl hd⟩
  · rw [if_neg hl] at po
    exact po.elim
end
end F
end

section
set_option Elab.async false
set_option linter.all false
set_option autoImplicit false
set_option maxRecDepth 100000
/-! F layer, part D: calls of defs. -/
namespace F
open PySem PySem.Spec PyProof.Rows L2
section
variable {c : Cn} {H0 Fr H : Hp} {σ τ : St} {e g : Env} {as : Nat → List Addr}
theorem slot_app_l {i : Nat} (h : i < e.length) : slot (e ++ g) i = slot e i := by
  unfold slot
  rw [List.getElem?_append_left h]
theorem slot_app_r {i : Nat} : slot (e ++ g) (e.length + i) = slot g i := by
  unfold slot
  rw [List.getElem?_append_right (Nat.le_add_right _ _), Nat.add_sub_cancel_left]
theorem slot_ge {i : Nat} (h : e.length ≤ i) : slot e i = none := by
  unfold slot
  rw [List.getElem?_eq_none h]
/-- one more slot, shared data -/
theorem Rp.snocSh (r : Rp c H0 Fr H σ e as) {d : D} {v : V} (h : Dat c H0 d v) : Rp c H0 Fr H (σ ++ [some v]) (e ++ [some (.sh d)]) as := by
  have hz : as e.length = [] := r.emp _ (slot_ge (Nat.le_refl _))
  refine ⟨by simp [r.len], r.sub, r.fr, fun i o q => ?_, r.off, r.sep, r.nd, fun i q => ?_, r.tab⟩
  · by_cases hi : i < e.length
    · rw [slot_app_l hi] at q
      obtain ⟨w, h1, h2⟩ := r.own i o q
      exact ⟨w, by rw [List.getElem?_append_left (by rw [← r.len]; exact hi)]; exact h1, h2⟩
    · have hl := slot_lt q
      have : i = e.length := by simp at hl; omega
      subst this
      have q : slot (e ++ [some (O.sh d)]) (e.length + 0) = some o := q
      rw [slot_app_r] at q
      cases q
      exact ⟨v, by rw [r.len]; simp, by rw [hz]; exact ⟨rfl, h⟩⟩
  · by_cases hi : i < e.length
    · rw [slot_app_l hi] at q
      exact r.emp i q
    · exact r.emp i (slot_ge (Nat.le_of_not_lt hi))
/-- the same things at other slots -/
theorem Rp.re (r : Rp c H0 Fr H σ e as) {σ' : St} {e' : Env} (hl : e'.length = σ'.length) (ρ : Nat → Nat) (h : ∀ i o, slot e' i = some o → slot e (ρ i) = some o ∧ σ'[i]? = σ[ρ i]?)
    (inj : ∀ i j o o', slot e' i = some o → slot e' j = some o' → ρ i = ρ j → i = j) : ∃ as', Rp c H0 Fr H σ' e' as' := by
  refine ⟨fun i => match slot e' i with | some _ => as (ρ i) | none => [], hl, r.sub, r.fr, fun i o q => ?_, fun i a ha => ?_, fun i j a ha hj => ?_, fun i => ?_, fun i q => ?_, r.tab.sub fun i a z => ?_⟩
  · obtain ⟨h1, h2⟩ := h i o q
    obtain ⟨v, h3, h4⟩ := r.own _ o h1
    exact ⟨v, by rw [h2]; exact h3, by simpa [q] using h4⟩
  · cases q : slot e' i with
    | none => simp [q] at ha
    | some o => exact r.off (ρ i) a (by simpa [q] using ha)
  · cases q : slot e' i with
    | none => simp [q] at ha
    | some o =>
      cases q2 : slot e' j with
      | none => simp [q2] at hj
      | some o2 => exact inj i j o o2 q q2 (r.sep _ _ a (by simpa [q] using ha) (by simpa [q2] using hj))
  · cases q : slot e' i with
    | none => simp
    | some o => simpa using r.nd (ρ i)
  · simp [q]
  · cases q : slot e' i with
    | none => simp [q] at z
    | some o => exact ⟨ρ i, by simpa [q] using z⟩
theorem get_app_l {α : Type} {l m : List α} {i : Nat} (h : i < l.length) : (l ++ m)[i]? = l[i]? := List.getElem?_append_left h
theorem get_app_r {α : Type} {l m : List α} {i : Nat} : (l ++ m)[l.length + i]? = m[i]? := by
  rw [List.getElem?_append_right (Nat.le_add_right _ _), Nat.add_sub_cancel_left]
/-- a name's thing goes to a further slot -/
theorem Rp.move (r : Rp c H0 Fr H (σ ++ τ) (e ++ g) as) (hl : e.length = σ.length) {i : Nat} {o : O} {v : V} (q : slot e i = some o) (hv : σ[i]? = some (some v)) :
    ∃ as', Rp c H0 Fr H (σ ++ (τ ++ [some v])) (e.set i none ++ (g ++ [some o])) as' := by
  have hi := slot_lt q
  have hg : g.length = τ.length := by
    have := r.len
    simp at this
    omega
  have key : ∀ j o', slot (e.set i none ++ (g ++ [some o])) j = some o' → (j < e.length ∧ j ≠ i ∧ slot e j = some o') ∨ (∃ k, j = e.length + k ∧ slot g k = some o') ∨ (j = e.length + g.length ∧ o' = o) := fun j o' z => by
    by_cases hj : j < e.length
    · rw [slot_app_l (by simpa using hj)] at z
      obtain ⟨z1, z2⟩ := slot_none z
      exact .inl ⟨hj, z1, z2⟩
    · obtain ⟨k, rfl⟩ : ∃ k, j = e.length + k := ⟨j - e.length, by omega⟩
      have z : slot (e.set i none ++ (g ++ [some o])) ((e.set i none).length + k) = some o' := by simpa using z
      rw [slot_app_r] at z
      by_cases hk : k < g.length
      · rw [slot_app_l hk] at z
        exact .inr (.inl ⟨k, rfl, z⟩)
      · obtain ⟨n, rfl⟩ : ∃ n, k = g.length + n := ⟨k - g.length, by omega⟩
        rw [slot_app_r] at z
        have hn := slot_lt z
        have : n = 0 := by simpa using hn
        subst this
        cases z
        exact .inr (.inr ⟨rfl, rfl⟩)
  refine r.re (by simp [hl, hg]) (fun j => if j = e.length + g.length then i else j) (fun j o' z => ?_) (fun j k o1 o2 z1 z2 he => ?_)
  · rcases key j o' z with ⟨h1, h2, h3⟩ | ⟨k, rfl, h3⟩ | ⟨rfl, rfl⟩
    · rw [if_neg (by omega), slot_app_l h1]
      exact ⟨h3, by rw [get_app_l (by omega), get_app_l (by omega)]⟩
    · have hk := slot_lt h3
      rw [if_neg (by omega), slot_app_r]
      refine ⟨h3, ?_⟩
      rw [hl, get_app_r, get_app_r, get_app_l (by omega)]
    · rw [if_pos rfl, slot_app_l hi]
      refine ⟨q, ?_⟩
      have z1 : (σ ++ (τ ++ [some v]))[σ.length + τ.length]? = some (some v) := by
        rw [get_app_r]
        simp
      have z2 : (σ ++ τ)[i]? = some (some v) := by
        rw [get_app_l (by omega)]
        exact hv
      rw [hl, hg, z1, z2]
  · rcases key j o1 z1 with ⟨h1, h2, h3⟩ | ⟨k1, rfl, h3⟩ | ⟨rfl, rfl⟩ <;> rcases key k o2 z2 with ⟨g1, g2, g3⟩ | ⟨k2, rfl, g3⟩ | ⟨rfl, rfl⟩
    · rw [if_neg (by omega), if_neg (by omega)] at he
      exact he
    · have := slot_lt g3
      rw [if_neg (by omega), if_neg (by omega)] at he
      exact he
    · rw [if_neg (by omega), if_pos rfl] at he
      exact absurd he h2
    · have := slot_lt h3
      rw [if_neg (by omega), if_neg (by omega)] at he
      exact he
    · have := slot_lt h3
      have := slot_lt g3
      rw [if_neg (by omega), if_neg (by omega)] at he
      exact he
    · have := slot_lt h3
      rw [if_neg (by omega), if_pos rfl] at he
      omega
    · rw [if_pos rfl, if_neg (by omega)] at he
      exact absurd he.symm g2
    · have := slot_lt g3
      rw [if_pos rfl, if_neg (by omega)] at he
      omega
    · rfl
/-- the first of the further slots goes to a name's place (what was there is forgotten) -/
theorem Rp.unhd {w : V} {o : Option O} (r : Rp c H0 Fr H (σ ++ some w :: τ) (e ++ o :: g) as) (hl : e.length = σ.length) {i : Nat} (hi : i < e.length) (hv : σ[i]? = some (some w)) :
    ∃ as', Rp c H0 Fr H (σ ++ τ) (e.set i o ++ g) as' := by
  have hg : g.length = τ.length := by
    have := r.len
    simp at this
    omega
  have key : ∀ j o', slot (e.set i o ++ g) j = some o' → (j < e.length ∧ j ≠ i ∧ slot e j = some o') ∨ (j = i ∧ o = some o') ∨ (∃ k, j = e.length + k ∧ slot g k = some o') := fun j o' z => by
    by_cases hj : j < e.length
    · rw [slot_app_l (by simpa using hj), slot_set hi] at z
      split at z
      · exact .inr (.inl ⟨by assumption, z⟩)
      · exact .inl ⟨hj, by assumption, z⟩
    · obtain ⟨k, rfl⟩ : ∃ k, j = e.length + k := ⟨j - e.length, by omega⟩
      have z : slot (e.set i o ++ g) ((e.set i o).length + k) = some o' := by simpa using z
      rw [slot_app_r] at z
      exact .inr (.inr ⟨k, rfl, z⟩)
  refine r.re (by simp [hl, hg]) (fun j => if j = i then e.length else if j < e.length then j else j + 1) (fun j o' z => ?_) (fun j k o1 o2 z1 z2 he => ?_)
  · rcases key j o' z with ⟨h1, h2, h3⟩ | ⟨rfl, rfl⟩ | ⟨k, rfl, h3⟩
    · rw [if_neg h2, if_pos h1, slot_app_l h1]
      exact ⟨h3, by rw [get_app_l (by omega), get_app_l (by omega)]⟩
    · rw [if_pos rfl]
      have z0 : slot (e ++ some o' :: g) (e.length + 0) = slot (some o' :: g) 0 := slot_app_r
      refine ⟨z0, ?_⟩
      rw [get_app_l (by omega), hv, hl]
      simp
    · have hk := slot_lt h3
      rw [if_neg (by omega), if_neg (by omega)]
      have z0 : slot (e ++ o :: g) (e.length + (k + 1)) = slot (o :: g) (k + 1) := slot_app_r
      refine ⟨z0.trans h3, ?_⟩
      rw [hl, get_app_r, Nat.add_assoc, get_app_r]
      rfl
  · rcases key j o1 z1 with ⟨h1, h2, h3⟩ | ⟨rfl, _⟩ | ⟨k1, rfl, h3⟩ <;> rcases key k o2 z2 with ⟨g1, g2, g3⟩ | ⟨rfl, _⟩ | ⟨k2, rfl, g3⟩
    · rw [if_neg h2, if_pos h1, if_neg g2, if_pos g1] at he
      exact he
    · rw [if_neg h2, if_pos h1, if_pos rfl] at he
      omega
    · rw [if_neg h2, if_pos h1, if_neg (by omega), if_neg (by omega)] at he
      omega
    · rw [if_neg g2, if_pos g1, if_pos rfl] at he
      omega
    · rfl
    · rw [if_pos rfl, if_neg (by omega), if_neg (by omega)] at he
      omega
    · rw [if_neg g2, if_pos g1, if_neg (by omega), if_neg (by omega)] at he
      omega
    · rw [if_pos rfl, if_neg (by omega), if_neg (by omega)] at he
      omega
    · rw [if_neg (by omega), if_neg (by omega), if_neg (by omega), if_neg (by omega)] at he
      omega
/-- .. or away -/
theorem Rp.unhd0 {w : Option V} {o : Option O} (r : Rp c H0 Fr H (σ ++ w :: τ) (e ++ o :: g) as) (hl : e.length = σ.length) : ∃ as', Rp c H0 Fr H (σ ++ τ) (e ++ g) as' := by
  have hg : g.length = τ.length := by
    have := r.len
    simp at this
    omega
  have key : ∀ j o', slot (e ++ g) j = some o' → (j < e.length ∧ slot e j = some o') ∨ (∃ k, j = e.length + k ∧ slot g k = some o') := fun j o' z => by
    by_cases hj : j < e.length
    · rw [slot_app_l hj] at z
      exact .inl ⟨hj, z⟩
    · obtain ⟨k, rfl⟩ : ∃ k, j = e.length + k := ⟨j - e.length, by omega⟩
      rw [slot_app_r] at z
      exact .inr ⟨k, rfl, z⟩
  refine r.re (by simp [hl, hg]) (fun j => if j < e.length then j else j + 1) (fun j o' z => ?_) (fun j k o1 o2 z1 z2 he => ?_)
  · rcases key j o' z with ⟨h1, h3⟩ | ⟨k, rfl, h3⟩
    · rw [if_pos h1, slot_app_l h1]
      exact ⟨h3, by rw [get_app_l (by omega), get_app_l (by omega)]⟩
    · rw [if_neg (by omega)]
      have z0 : slot (e ++ o :: g) (e.length + (k + 1)) = slot (o :: g) (k + 1) := slot_app_r
      refine ⟨z0.trans h3, ?_⟩
      rw [hl, get_app_r, Nat.add_assoc, get_app_r]
      rfl
  · split at he <;> split at he <;> omega
open Classical in
/-- the frame of a callee: the caller's, and what the caller's names own -/
noncomputable def frC (Fr H : Hp) (n : Nat) (as : Nat → List Addr) : Hp := fun b => if ∃ i, i < n ∧ b ∈ as i then H b else Fr b
theorem frC_in {Fr H : Hp} {n : Nat} {as : Nat → List Addr} {b : Addr} {i : Nat} (hi : i < n) (h : b ∈ as i) : frC Fr H n as b = H b := if_pos ⟨i, hi, h⟩
theorem frC_out {Fr H : Hp} {n : Nat} {as : Nat → List Addr} {b : Addr} (h : ∀ i, i < n → b ∉ as i) : frC Fr H n as b = Fr b := if_neg fun ⟨i, hi, q⟩ => h i hi q
/-- the callee's part -/
theorem Rp.callee (r : Rp c H0 Fr H (σ ++ τ) (e ++ g) as) (hl : e.length = σ.length) : Rp c H0 (frC Fr H e.length as) H τ g (fun i => as (e.length + i)) := by
  have hg : g.length = τ.length := by
    have := r.len
    simp at this
    omega
  refine ⟨hg, r.sub, fun b o h => ?_, fun i o q => ?_, fun i a ha => ?_, fun i j a ha hj => ?_, fun i => r.nd _, fun i q => r.emp _ (by rw [slot_app_r]; exact q), r.tab.re (Same.refl _) (fun _ _ => rfl) r.tab.n0 (fun p q => by rw [frC_out fun i _ => r.tab.na p q i]; exact r.tab.nF p q) fun p q i => r.tab.na p q _⟩
  · by_cases z : ∃ i, i < e.length ∧ b ∈ as i
    · obtain ⟨i, hi, hb⟩ := z
      rw [frC_in hi hb] at h
      exact ⟨h, (r.off i b hb).1⟩
    · rw [frC_out fun i hi q => z ⟨i, hi, q⟩] at h
      exact r.fr b o h
  · obtain ⟨v, h1, h2⟩ := r.own (e.length + i) o (by rw [slot_app_r]; exact q)
    rw [hl, get_app_r] at h1
    exact ⟨v, h1, h2⟩
  · refine ⟨(r.off _ a ha).1, ?_⟩
    rw [frC_out fun j hj q => by
      have := r.sep _ _ a ha q
      omega]
    exact (r.off _ a ha).2
  · have := r.sep _ _ a ha hj
    omega
/-- the two parts again, behind a call: G the callee's frame then, G2 what the caller wants of its own -/
theorem Rp.again (r : Rp c H0 Fr H (σ ++ τ) (e ++ g) as) (hl : e.length = σ.length) {H1 G G2 H' : Hp} {τ' : St} {g' : Env} {as' : Nat → List Addr} (s : Same H0 H1) (r' : Rp c H1 G H' τ' g' as')
    (hG : ∀ b o, frC Fr H e.length as b = some o → G b = some o) (hG2 : ∀ b o, G2 b = some o → G b = some o) (hG3 : ∀ i a, i < e.length → a ∈ as i → G2 a = none) : ∃ as2, Rp c H1 G2 H' (σ ++ τ') (e ++ g') as2 := by
  have keep : ∀ i a, i < e.length → a ∈ as i → H' a = H a ∧ H1 a = none := fun i a hi ha => by
    obtain ⟨x, hx⟩ := r.here ha
    have z := r'.fr a x (hG a x (by rw [frC_in hi ha]; exact hx))
    exact ⟨z.1.trans hx.symm, z.2⟩
  have apart : ∀ i j a, i < e.length → a ∈ as i → a ∉ as' j := fun i j a hi ha hj => by
    obtain ⟨x, hx⟩ := r.here ha
    have z := hG a x (by rw [frC_in hi ha]; exact hx)
    rw [(r'.off j a hj).2] at z
    cases z
  refine ⟨fun i => if i < e.length then as i else as' (i - e.length), by simp [hl, r'.len], r'.sub, fun b o h => r'.fr b o (hG2 b o h), fun i o q => ?_, fun i a ha => ?_, fun i j a ha hj => ?_, fun i => ?_, fun i q => ?_, r'.tab.re (Same.refl _) (fun _ _ => rfl) r'.tab.n0 (fun p q => ?_) fun p q i z => ?_⟩
  · by_cases hi : i < e.length
    · rw [slot_app_l hi] at q
      obtain ⟨v, h1, h2⟩ := r.own i o (by rw [slot_app_l hi]; exact q)
      rw [get_app_l (by omega)] at h1
      refine ⟨v, by rw [get_app_l (by omega)]; exact h1, ?_⟩
      show OwnR c H1 H' o v (if i < e.length then as i else as' (i - e.length))
      rw [if_pos hi]
      exact OwnR.mono s o v _ (fun a ha => (keep i a hi ha).1) h2
    · obtain ⟨k, rfl⟩ : ∃ k, i = e.length + k := ⟨i - e.length, by omega⟩
      rw [slot_app_r] at q
      obtain ⟨v, h1, h2⟩ := r'.own k o q
      refine ⟨v, by rw [hl, get_app_r]; exact h1, ?_⟩
      show OwnR c H1 H' o v (if e.length + k < e.length then as (e.length + k) else as' (e.length + k - e.length))
      rw [if_neg (by omega), Nat.add_sub_cancel_left]
      exact h2
  · by_cases hi : i < e.length
    · simp only [if_pos hi] at ha
      exact ⟨(keep i a hi ha).2, hG3 i a hi ha⟩
    · simp only [if_neg hi] at ha
      refine ⟨(r'.off _ a ha).1, ?_⟩
      cases z : G2 a with
      | none => rfl
      | some x =>
        have := hG2 a x z
        rw [(r'.off _ a ha).2] at this
        cases this
  · by_cases hi : i < e.length <;> by_cases hk : j < e.length
    · simp only [if_pos hi] at ha
      simp only [if_pos hk] at hj
      exact r.sep i j a ha hj
    · simp only [if_pos hi] at ha
      simp only [if_neg hk] at hj
      exact absurd hj (apart i _ a hi ha)
    · simp only [if_neg hi] at ha
      simp only [if_pos hk] at hj
      exact absurd ha (apart j _ a hk hj)
    · simp only [if_neg hi] at ha
      simp only [if_neg hk] at hj
      have := r'.sep _ _ a ha hj
      omega
  · by_cases hi : i < e.length
    · simp only [if_pos hi]
      exact r.nd i
    · simp only [if_neg hi]
      exact r'.nd _
  · by_cases hi : i < e.length
    · simp only [if_pos hi]
      rw [slot_app_l hi] at q
      exact r.emp i (by rw [slot_app_l hi]; exact q)
    · simp only [if_neg hi]
      obtain ⟨k, rfl⟩ : ∃ k, i = e.length + k := ⟨i - e.length, by omega⟩
      rw [slot_app_r] at q
      rw [Nat.add_sub_cancel_left]
      exact r'.emp k q
  · cases z : G2 p.1 with
    | none => rfl
    | some o =>
      have := hG2 _ _ z
      rw [r'.tab.nF p q] at this
      cases this
  · by_cases hi : i < e.length
    · simp only [if_pos hi] at z
      exact r.tab.na p q i z
    · simp only [if_neg hi] at z
      exact r'.tab.na p q _ z
theorem Rp.cutTail (r : Rp c H0 Fr H (σ ++ τ) (e ++ g) as) (hl : e.length = σ.length) : ∃ as', Rp c H0 Fr H σ e as' := by
  refine r.re hl id (fun j o z => ?_) (fun j k o1 o2 _ _ he => he)
  have hj := slot_lt z
  exact ⟨by rw [id, slot_app_l hj]; exact z, by rw [id, get_app_l (by omega)]⟩
theorem Rp.snocAll : ∀ {l : List D} {ws : List V} {σ : St} {e : Env} {as : Nat → List Addr}, Rp c H0 Fr H σ e as → Dats c H0 l ws → ∃ as', Rp c H0 Fr H (σ ++ ws.map some) (e ++ (l.map O.sh).map some) as'
  | [], ws, σ, e, as, r, h => by
    have h : ws = [] := h
    subst h
    exact ⟨as, by simpa using r⟩
  | d :: ds, _, σ, e, as, r, ⟨v, w, h1, h2, h3⟩ => by
    subst h1
    obtain ⟨as', r'⟩ := Rp.snocAll (r.snocSh h2) h3
    exact ⟨as', by simpa using r'⟩
theorem Kps.mono {H1 : Hp} (s : Same H0 H1) : ∀ {vs : List V} {rs : List R}, Kps c H0 σ vs rs → Kps c H1 σ vs rs
  | [], rs, h => h
  | v :: vs, rs, ⟨r, qs, h1, h2, h3⟩ => ⟨r, qs, h1, h2.mono s, Kps.mono s h3⟩
theorem args_ok : ∀ {rs : List R} {md : List Md} {vs : List V} {os : List O} {e e2 g : Env} {τ : St} {H0 : Hp} {as : Nat → List Addr}, Rp c H0 Fr H (σ ++ τ) (e ++ g) as → e.length = σ.length → Kps c H0 σ vs rs → asArgs md rs e = some (os, e2) →
    ∃ H1 as', Same H0 H1 ∧ Rp c H1 Fr H (σ ++ (τ ++ vs.map some)) (e2 ++ (g ++ os.map some)) as' ∧ e2.length = e.length ∧ os.length = vs.length
  | [], md, vs, os, e, e2, g, τ, H0, as, r, hl, ks, h => by
    cases vs with
    | nil =>
      cases h
      exact ⟨H0, as, Same.refl _, by simpa using r, rfl, rfl⟩
    | cons v vs =>
      obtain ⟨_, _, z, _⟩ := ks
      cases z
  | ra :: rs, md, vs, os, e, e2, g, τ, H0, as, r, hl, ks, h => by
    cases vs with
    | nil => cases ks
    | cons v vs =>
      obtain ⟨r1, qs, z, k1, ks⟩ := ks
      cases z
      have h : (match asArg (md.headD .lk) ra e with
        | some (o, e1) => (match asArgs md.tail rs e1 with
          | some (os, e2) => some (o :: os, e2)
          | none => none)
        | none => none) = some (os, e2) := h
      cases q : asArg (md.headD .lk) ra e with
      | none =>
        rw [q] at h
        cases h
      | some p =>
        obtain ⟨o, e1⟩ := p
        rw [q] at h
        have h : (match asArgs md.tail rs e1 with
          | some (os, e2) => some (o :: os, e2)
          | none => none) = some (os, e2) := h
        cases q2 : asArgs md.tail rs e1 with
        | none =>
          rw [q2] at h
          cases h
        | some p2 =>
          obtain ⟨os1, e3⟩ := p2
          rw [q2] at h
          cases h
          have step : ∃ H1 as', Same H0 H1 ∧ Rp c H1 Fr H (σ ++ (τ ++ [some v])) (e1 ++ (g ++ [some o])) as' ∧ e1.length = e.length := by
            have lk : ∀ {d : D} {e1' : Env}, leak ra e = .ok d e1' → ∃ H1 as', Same H0 H1 ∧ Rp c H1 Fr H (σ ++ (τ ++ [some v])) (e1' ++ (g ++ [some (.sh d)])) as' ∧ e1'.length = e.length := fun {d e1'} hz => by
              cases ra with
              | d x =>
                cases hz
                exact ⟨H0, as, Same.refl _, by simpa using r.snocSh k1, rfl⟩
              | sl i =>
                have hz : (match slot e i with
                  | some o => Rs.ok o.frz (e.set i (some (.sh o.frz)))
                  | none => .bad) = .ok d e1' := hz
                cases qs : slot e i with
                | none =>
                  rw [qs] at hz
                  cases hz
                | some o' =>
                  rw [qs] at hz
                  cases hz
                  have hi := slot_lt qs
                  obtain ⟨H1, w, s1, r1, hw, hd⟩ := r.freeze (i := i) (by rw [slot_app_l hi]; exact qs)
                  have k1 : σ[i]? = some (some v) := k1
                  rw [get_app_l (by omega), k1] at hw
                  cases hw
                  rw [List.set_append_left _ _ hi] at r1
                  exact ⟨H1, _, s1, by simpa using r1.snocSh hd, by simp⟩
              | ow o' => exact k1.elim
            unfold asArg at q
            split at q
            · rename_i i
              split at q
              · cases q
                rename_i qs
                obtain ⟨as', r'⟩ := r.move hl qs k1
                exact ⟨H0, as', Same.refl _, r', by simp⟩
              · cases q
            · split at q
              · cases q
                rename_i hz
                exact lk hz
              · cases q
          obtain ⟨H1, as1, s1, r1, hl1⟩ := step
          have ks' : Kps c H1 σ vs rs := ks.mono s1
          obtain ⟨H2, as2, s2, r2, hl2, hn⟩ := args_ok (τ := τ ++ [some v]) (g := g ++ [some o]) r1 (by omega) ks' q2
          exact ⟨H2, as2, s1.trans s2, by simpa using r2, by omega, by simp [hn]⟩
theorem back_len : ∀ (md : List Md) (rs : List R) (os : List O) (e : Env), (back md rs os e).length = e.length
  | md, [], os, e => by unfold back; rfl
  | md, r :: rs, [], e => by unfold back; rfl
  | md, r :: rs, o :: os, e => by
    unfold back
    split
    · rw [back_len]; simp
    · rw [back_len]
theorem back_ok : ∀ {rs : List R} {md : List Md} {vs : List V} {os : List O} {e : Env} {τ : St} {K0 : Hp} {as : Nat → List Addr}, Rp c H0 Fr H (σ ++ (vs.map some ++ τ)) (e ++ os.map some) as → e.length = σ.length → Kps c K0 σ vs rs → rs.length ≤ os.length →
    ∃ as' g, Rp c H0 Fr H (σ ++ τ) (back md rs os e ++ g) as'
  | [], md, vs, os, e, τ, K0, as, r, hl, ks, hn => by
    cases vs with
    | nil => exact ⟨as, os.map some, by simpa [back] using r⟩
    | cons v vs =>
      obtain ⟨_, _, z, _⟩ := ks
      cases z
  | ra :: rs, md, vs, os, e, τ, K0, as, r, hl, ks, hn => by
    cases vs with
    | nil => cases ks
    | cons v vs =>
      obtain ⟨r1, qs, z, k1, ks⟩ := ks
      cases z
      cases os with
      | nil => simp at hn
      | cons o os =>
        have r' : Rp c H0 Fr H (σ ++ some v :: (vs.map some ++ τ)) (e ++ some o :: os.map some) as := by simpa using r
        have hn' : rs.length ≤ os.length := by simpa using hn
        unfold back
        split
        · rename_i i q1
          have k1 : σ[i]? = some (some v) := k1
          have hi : i < e.length := by
            have := (List.getElem?_eq_some_iff.mp k1).1
            omega
          obtain ⟨as1, r1⟩ := r'.unhd hl hi k1
          exact back_ok (e := e.set i (some o)) r1 (by simp [hl]) ks hn'
        · obtain ⟨as1, r1⟩ := r'.unhd0 hl
          exact back_ok r1 hl ks hn'
end
/-! ### a def's promise -/
def spF (t : Tb) (c : Cn) (F : Fn) (n : Nat) : Sp := fun vs H Q E => vs.length = n ∧ ∃ (os : List O) (H0 Fr : Hp) (as : Nat → List Addr), Rp c H0 Fr H (vs.map some) (os.map some) as ∧
  match F os with
  | .rt o os' => ∀ v H1 H', Same H0 H1 → Rp1 c H1 Fr H' (vs.map some) ((mergeO os os').map some) v o → Q v H'
  | .ex k p os' => ∀ H1 H' as' cls dx, Same H0 H1 → Rp c H1 Fr H' (vs.map some) ((mergeO os os').map some) as' → ExA t c H1 H' k p cls dx → E cls dx H'
  | .bad => False
theorem Kps.len {c : Cn} {H0 : Hp} {σ : St} : ∀ {vs : List V} {rs : List R}, Kps c H0 σ vs rs → rs.length = vs.length
  | [], rs, h => by
    have h : rs = [] := h
    rw [h]
    rfl
  | v :: vs, rs, ⟨r, qs, h1, _, h3⟩ => by
    subst h1
    simp [Kps.len h3]
/-- the callee runs -/
theorem call_po {t : Tb} {c : Cn} {W : WX} {F : Fn} {md : List Md} {dfl : List D} {n : Nat} {ms : List (M R)} {σ : St} {H : Hp} {Q : VK} {dvs : List V} (hd : ∀ H, Dats c H dfl dvs) (hn : ms.length + dfl.length = n)
    {e : Env} {H0 Fr : Hp} {as : Nat → List Addr} (rp : Rp c H0 Fr H σ e as) (po : Po t c W Fr σ H0 (rrR c Fr σ) Q (mCall F md dfl ms e)) : Po t c W Fr σ H0 (rrRs c Fr σ) (fun vs H1 => spF t c F n (vs ++ dvs) H1 Q (fun cls d H => W cls d σ H)) (mRs ms e) := by
  have hlen : ∀ (ms : List (M R)) (e : Env) (rs : List R) (e1 : Env), mRs ms e = .ok rs e1 → rs.length = ms.length := fun ms => by
    induction ms with
    | nil =>
      intro e rs e1 h
      cases h
      rfl
    | cons m ms ih =>
      intro e rs e1 h
      have h : andThen (m e) (fun r e1 => andThen (mRs ms e1) fun rs e2 => .ok (nrm r :: rs) e2) = .ok rs e1 := h
      cases q1 : m e with
      | ok r e2 =>
        rw [q1] at h
        have h : andThen (mRs ms e2) (fun rs e2 => .ok (nrm r :: rs) e2) = .ok rs e1 := h
        cases q2 : mRs ms e2 with
        | ok rs2 e3 =>
          rw [q2] at h
          cases h
          simp [ih _ _ _ q2]
        | ex _ _ _ =>
          rw [q2] at h
          cases h
        | bad =>
          rw [q2] at h
          cases h
      | ex _ _ _ =>
        rw [q1] at h
        cases h
      | bad =>
        rw [q1] at h
        cases h
  have po : Po t c W Fr σ H0 (rrR c Fr σ) Q (andThen (mRs ms e) fun rs e1 => match asArgs md rs e1 with
    | some (os, e2) => (match F (os ++ dfl.map O.sh) with
      | .rt o os' => .ok (ofRes o) (back md rs (mergeO (os ++ dfl.map O.sh) os') e2)
      | .ex c p os' => .ex c p (back md rs (mergeO (os ++ dfl.map O.sh) os') e2)
      | .bad => .bad)
    | none => .bad) := po
  cases qm : mRs ms e with
  | ex k p e1 =>
    rw [qm] at po
    exact po
  | bad =>
    rw [qm] at po
    exact po
  | ok rs e1 =>
    have hrs := hlen _ _ _ _ qm
    rw [qm] at po
    intro vs H1 H' s ⟨⟨as1, rp1⟩, ks⟩
    have po := Po.mono s po
    have po : Po t c W Fr σ H1 (rrR c Fr σ) Q (match asArgs md rs e1 with
      | some (os, e2) => (match F (os ++ dfl.map O.sh) with
        | .rt o os' => .ok (ofRes o) (back md rs (mergeO (os ++ dfl.map O.sh) os') e2)
        | .ex c p os' => .ex c p (back md rs (mergeO (os ++ dfl.map O.sh) os') e2)
        | .bad => .bad)
      | none => .bad) := po
    cases qa : asArgs md rs e1 with
    | none =>
      rw [qa] at po
      exact po.elim
    | some pr =>
      obtain ⟨os, e2⟩ := pr
      rw [qa] at po
      obtain ⟨H2, as2, s2, rp2, hl2, hlo⟩ := args_ok (g := []) (τ := []) (by simpa using rp1) rp1.len ks qa
      have hl : e2.length = σ.length := by rw [hl2]; exact rp1.len
      have hd2 : Dats c H2 dfl dvs := hd H2
      obtain ⟨as3, rp3⟩ := rp2.snocAll hd2
      have rp3 : Rp c H2 Fr H' (σ ++ (vs ++ dvs).map some) (e2 ++ (os ++ dfl.map O.sh).map some) as3 := by simpa using rp3
      have po := Po.mono s2 po
      have hvs : (vs ++ dvs).length = n := by
        rw [List.length_append, ← Kps.len ks, hrs, hd2.len]
        exact hn
      refine ⟨hvs, os ++ dfl.map O.sh, H2, frC Fr H' e2.length as3, _, rp3.callee hl, ?_⟩
      have po : Po t c W Fr σ H2 (rrR c Fr σ) Q (match F (os ++ dfl.map O.sh) with
        | .rt o os' => .ok (ofRes o) (back md rs (mergeO (os ++ dfl.map O.sh) os') e2)
        | .ex c p os' => .ex c p (back md rs (mergeO (os ++ dfl.map O.sh) os') e2)
        | .bad => .bad) := po
      have fin : ∀ {H3 H'' : Hp} {bs : List Addr} {os2 : List O} {as4 : Nat → List Addr}, Same H2 H3 → (∀ a ∈ bs, H3 a = none ∧ frC Fr H' e2.length as3 a = none) → Rp c H3 (addF (frC Fr H' e2.length as3) H'' bs) H'' ((vs ++ dvs).map some) (os2.map some) as4 →
          ∃ as5, Rp c H3 (addF Fr H'' bs) H'' σ (back md rs os2 e2) as5 := fun {H3 H'' bs os2 as4} s3 off r4 => by
        have frz : ∀ b o, Fr b = some o → frC Fr H' e2.length as3 b = some o := fun b o h => by
          rw [frC_out fun i hi hb => by
            rw [(rp3.off i b hb).2] at h
            cases h]
          exact h
        have nin : ∀ {i a}, i < e2.length → a ∈ as3 i → a ∉ bs := fun {i a} hi ha hb => by
          have z := (off a hb).2
          rw [frC_in hi ha] at z
          obtain ⟨x, hx⟩ := rp3.here ha
          rw [hx] at z
          cases z
        obtain ⟨as5, r5⟩ := rp3.again hl s3 r4 (G2 := addF Fr H'' bs) (fun b o h => by
            have hb : b ∉ bs := fun q => by
              rw [(off b q).2] at h
              cases h
            rw [addF_out hb]
            exact h) (fun b o h => by
            by_cases hb : b ∈ bs
            · rw [addF_in hb] at h ⊢
              exact h
            · rw [addF_out hb] at h ⊢
              exact frz b o h) (fun i a hi ha => by
            rw [addF_out (nin hi ha)]
            exact (rp3.off i a ha).2)
        have hlen2 : rs.length ≤ os2.length := by
          have z := r4.len
          simp at z
          have z2 := Kps.len ks
          omega
        obtain ⟨as6, g, r6⟩ := back_ok (md := md) (vs := vs) (τ := dvs.map some) (by simpa using r5) hl ks hlen2
        exact r6.cutTail (by rw [back_len]; exact hl)
      cases qF : F (os ++ dfl.map O.sh) with
      | rt o os' =>
        rw [qF] at po
        intro v H3 H'' s3 ⟨bs, as4, ow, nd, off, r4⟩
        obtain ⟨as5, r5⟩ := fin s3 off r4
        have r1 : Rp1 c H3 Fr H'' σ (back md rs (mergeO (os ++ dfl.map O.sh) os') e2) v o := ⟨bs, as5, ow, nd, fun a ha => ⟨(off a ha).1, by
          cases z : Fr a with
          | none => rfl
          | some x =>
            have := (off a ha).2
            rw [frC_out fun i hi hb => by
              rw [(rp3.off i a hb).2] at z
              cases z] at this
            rw [this] at z
            cases z⟩, r5⟩
        refine po v H3 H'' s3 ?_
        cases o with
        | sh d => exact ⟨r1.rp, ow.2⟩
        | fl l => exact r1
        | fd l => exact r1
        | fo k l => exact r1
      | ex k p os' =>
        rw [qF] at po
        intro H3 H'' as4 cls dx s3 r4 xa
        obtain ⟨as5, r5⟩ := fin (bs := []) s3 (fun a ha => by cases ha) (by rw [addF_nil]; exact r4)
        rw [addF_nil] at r5
        exact po H3 H'' as5 cls dx s3 r5 xa
      | bad =>
        rw [qF] at po
        exact po.elim
theorem call_ok {t : Tb} {c : Cn} {W : WX} {F : Fn} {md : List Md} {dfl : List D} {n : Nat} {ms : List (M R)} {σ : St} {H : Hp} {Q : VK} {dvs : List V} (hd : ∀ H, Dats c H dfl dvs) (hn : ms.length + dfl.length = n)
    (q : tG t c W (rrR c) (mCall F md dfl ms) σ H Q) : tG t c W (rrRs c) (mRs ms) σ H fun vs H1 => spF t c F n (vs ++ dvs) H1 Q (fun cls d H => W cls d σ H) :=
  let ⟨e, H0, Fr, as, rp, po⟩ := q
  ⟨e, H0, Fr, as, rp, call_po hd hn rp po⟩
/-- what is known of the answer beside -/
theorem Po.also {α β : Type} {t : Tb} {c : Cn} {W : WX} {RR : Hp → Hp → Env → β → α → Prop} {Q R : β → Hp → Prop} {Fr H0 : Hp} {σ : St} {x : Rs α} (h : Po t c W Fr σ H0 RR Q x) (k : ∀ a e b H1 H', Same H0 H1 → RR H1 H' e b a → R b H') : Po t c W Fr σ H0 RR (fun b H' => R b H' ∧ Q b H') x := by
  cases x with
  | ok a e => exact fun b H1 H' s rr => ⟨k a e b H1 H' s rr, h b H1 H' s rr⟩
  | ex k' p e => exact h
  | bad => exact h
/-! ### calls where no repr is under way -/
/-- what a def promises where nothing is being shown -/
structure FnQ (P : Program) (w : World) (K : PySem.W.Frag) (mg : Str → Option Value) (base : Heap) (CX : CXT) (k : Nat) (f : Addr) (fd : FuncData) (ps : List Str) (sp : Sp) : Prop where
  len : ∀ (vs : List V) (H : Hp) (Q : VK) (E : XK), sp vs H Q E → vs.length = ps.length
  run : ∀ (B : Around) (out : List PySem.Env) (st : Shared) (H : Hp) (ar : Args) (us : List Value) (vs : List V) (Q : VK) (E : XK), Room k B → B.guards = some [] → Env0 P w K mg base B out st H → BindsTo st fd ar (ps.zip us) → Vals vs us → sp vs H Q E →
    codeAny (model P w) B (.call (.ref f) ar) (CR CX out P w H st Q E) st
theorem FnQ.of {P : Program} {w : World} {K : PySem.W.Frag} {mg : Str → Option Value} {base : Heap} {CX : CXT} {k : Nat} {f : Addr} {fd : FuncData} {ps : List Str} {sp : Sp} (G : FnOk P w K mg base CX k f fd ps sp) : FnQ P w K mg base CX k f fd ps sp :=
  ⟨G.len, fun B out st H ar us vs Q E hr _ => G.run B out st H ar us vs Q E hr⟩
section
variable {X : Cx} {CX : CXT} {k : Nat} {f : Addr} {fd : FuncData} {ps : List Str} {sp : Sp} {ds : List Value} {dvs : List V} {E : St → XK}
theorem run_q {pn : List (Addr × Obj)} {σ : St} {H : Hp} {st : Shared} {Q : VK} {us : List Value} {vs : List V} (G : FnQ X.prog X.w X.K X.mg X.base CX k f fd ps sp) (hr : Room k X.A) (hu : X.A.guards = some []) (hb : Binds X.K fd ps ds) (hd : Vals dvs ds) (hx : PassesAt CX X σ (E σ)) (I : Inv X pn σ H st) (rel : Vals vs us)
    (asked : sp (vs ++ dvs) H Q (E σ)) : wpAny (model X.prog X.w) X.A (call (.ref f) us) (EP X pn σ Q) X.xe st := by
  have rel2 : Vals (vs ++ dvs) (us ++ ds) := rel.append hd
  have e1 := G.len _ _ _ _ asked
  rw [rel2.length] at e1
  have go := G.run X.A X.stack st H ⟨us, []⟩ (us ++ ds) (vs ++ dvs) Q (E σ) hr hu I.env0 (hb st us I.kIn e1) rel2 asked
  refine wpAny_call (codeAny_mono go fun ans st2 got => ?_)
  match ans, got with
  | .error er, got => exact hx pn H st er st2 I got
  | .ok (.ret u), got => exact I.after got
  | .ok .next, got => exact got.elim
  | .ok .brk, got => exact got.elim
  | .ok .cont, got => exact got.elim
theorem pe_callQ {x : Str} {a : Expr} {es : List Expr} {ta : TA} {p pos : Pos} (G : FnQ X.prog X.w X.K X.mg X.base CX k f fd ps sp) (hr : Room k X.A) (hu : X.A.guards = some []) (hg : Gl X x) (hm : X.mg x = some (.ref f)) (hk : PySem.W.keepIn X.K (.ref f) = true) (hb : Binds X.K fd ps ds) (hd : Vals dvs ds) (hx : ∀ σ, PassesAt CX X σ (E σ))
    (ha : PA X (a :: es) ta) (hdb : (x == ("__debug__" : Str)) = false) (he : starEach (a :: es) X.env = (false, eval a X.env) :: starEach es X.env) (hpl : (backTo pos (starEach es X.env)).any (·.1) = false) : PE X (.Call (.Name x p) (a :: es) [] pos) (tCallSD sp dvs E ta) :=
  ⟨fun pn st σ H Q I asked => wpAny_Call_Name_kw (ld_glob I hg hm (PySem.W.callWith_K (h₀ := X.base) I.ok.mod.kin hk (thn (ha.run pos pn st σ H _ I asked) fun us s1 ⟨vs, H1, I1, rel, q⟩ => ⟨I1.kIn, run_q G hr hu hb hd (hx σ) I1 rel q⟩) he hpl) hdb)⟩
end
section
variable {X : Cx} {t : Tb} {W : WX} {k n : Nat} {f : Addr} {fd : FuncData} {ps : List Str} {Z : Fn} {x : Str} {p pos : Pos} {a : Expr} {es : List Expr} {ms : List (M R)} {ds : List Value} {dvs : List V} {dfl : List D}
abbrev FO (P : Program) (w : World) (K : PySem.W.Frag) (mg : Str → Option Value) (base : Heap) (t : Tb) (k : Nat) (f : Addr) (fd : FuncData) (ps : List Str) (Z : Fn) (n : Nat) : Prop := FnQ P w K mg base (L2.CX P w) k f fd ps (spF t ⟨K, t.cls, t.fld, t.tabs, t.ex, t.exM, t.exR⟩ Z n)
theorem se_call (G : FO X.prog X.w X.K X.mg X.base t k f fd ps Z n) (hr : Room k X.A) (hu : X.A.guards = some []) (hg : Gl X x) (hm : X.mg x = some (.ref f)) (hk : PySem.W.keepIn X.K (.ref f) = true) (hb : Binds X.K fd ps ds) (hd : Vals dvs ds) (hdd : ∀ H, Dats (cn X t) H dfl dvs) (tk : Takes X W) (md : List Md)
    (ha : SA X t W (a :: es) (mRs ms)) (hn : ms.length + dfl.length = n := by rfl) (hdb : (x == ("__debug__" : Str)) = false := by decide) (he : starEach (a :: es) X.env = (false, eval a X.env) :: starEach es X.env := by rfl) (hpl : (backTo pos (starEach es X.env)).any (·.1) = false := by rfl) :
    SE X t W (.Call (.Name x p) (a :: es) [] pos) (mCall Z md dfl ms) :=
  PE.imp (pe_callQ G hr hu hg hm hk hb hd (passAt tk) ha hdb he hpl) fun _ _ _ q => call_ok hdd hn q
end
end F
end

section
set_option Elab.async false
set_option linter.all false
set_option autoImplicit false
set_option maxRecDepth 100000
/-! F layer, part E: statements. -/
namespace F
open PySem PySem.Spec PyProof.Rows L2
/-- slots that the code never stores -/
def Prot (P : Nat → Bool) (σ σ' : St) : Prop := σ'.length = σ.length ∧ ∀ i, P i = true → σ'[i]? = σ[i]?
theorem Prot.refl {P : Nat → Bool} {σ : St} : Prot P σ σ := ⟨rfl, fun _ _ => rfl⟩
theorem Prot.trans {P : Nat → Bool} {σ σ' σ2 : St} (a : Prot P σ σ') (b : Prot P σ' σ2) : Prot P σ σ2 := ⟨b.1.trans a.1, fun i hi => (b.2 i hi).trans (a.2 i hi)⟩
theorem Prot.set {P : Nat → Bool} {σ : St} {i : Nat} {x : Option V} (h : P i = false) : Prot P σ (σ.set i x) := ⟨by simp, fun j hj => List.getElem?_set_ne fun z => by
  rw [z, hj] at h
  cases h⟩
def PoS (t : Tb) (c : Cn) (W : WX) (P : Nat → Bool) (Fr : Hp) (σ : St) (H0 : Hp) (D : Ends) : SR → Prop
  | .nx e => ∀ σ' H1 H' as, Same H0 H1 → Prot P σ σ' → Rp c H1 Fr H' σ' e as → D.nx σ' H'
  | .bk e => ∀ σ' H1 H' as, Same H0 H1 → Prot P σ σ' → Rp c H1 Fr H' σ' e as → D.bk σ' H'
  | .ct e => ∀ σ' H1 H' as, Same H0 H1 → Prot P σ σ' → Rp c H1 Fr H' σ' e as → D.ct σ' H'
  | .rt o e => ∀ v σ' H1 H', Same H0 H1 → Prot P σ σ' → Rp1 c H1 Fr H' σ' e v o → D.rt v H'
  | .ex k p e => ∀ σ' H1 H' as cls dx, Same H0 H1 → Prot P σ σ' → Rp c H1 Fr H' σ' e as → ExA t c H1 H' k p cls dx → W cls dx σ' H'
  | .bad => False
def tS (t : Tb) (c : Cn) (W : WX) (P : Nat → Bool) (m : MS) : TS := fun D σ H => ∃ (e : Env) (H0 Fr : Hp) (as : Nat → List Addr), Rp c H0 Fr H σ e as ∧ PoS t c W P Fr σ H0 D (m e)
abbrev SS (X : Cx) (t : Tb) (W : WX) (P : Nat → Bool) (st : Stmt) (m : MS) : Prop := PS X st (tS t (cn X t) W P m)
abbrev SSs (X : Cx) (t : Tb) (W : WX) (P : Nat → Bool) (st : List Stmt) (m : MS) : Prop := PSs X st (tS t (cn X t) W P m)
theorem PS.imp {X : Cx} {s : Stmt} {u u' : TS} (h : PS X s u) (k : ∀ D σ H, u' D σ H → u D σ H) : PS X s u' := ⟨fun pins s σ H D I q => h.run pins s σ H D I (k _ _ _ q)⟩
theorem PSs.imp {X : Cx} {s : List Stmt} {u u' : TS} (h : PSs X s u) (k : ∀ D σ H, u' D σ H → u D σ H) : PSs X s u' := ⟨fun pins s σ H D I q => h.run pins s σ H D I (k _ _ _ q)⟩
section
variable {t : Tb} {c : Cn} {W : WX} {P : Nat → Bool} {Fr H0 H1 : Hp} {σ σ' : St} {D : Ends}
theorem PoS.mono {x : SR} (s : Same H0 H1) (p : Prot P σ σ') (h : PoS t c W P Fr σ H0 D x) : PoS t c W P Fr σ' H1 D x := by
  cases x with
  | nx e => exact fun σ2 H2 H' as s2 p2 r => h σ2 H2 H' as (s.trans s2) (p.trans p2) r
  | bk e => exact fun σ2 H2 H' as s2 p2 r => h σ2 H2 H' as (s.trans s2) (p.trans p2) r
  | ct e => exact fun σ2 H2 H' as s2 p2 r => h σ2 H2 H' as (s.trans s2) (p.trans p2) r
  | rt o e => exact fun v σ2 H2 H' s2 p2 r => h v σ2 H2 H' (s.trans s2) (p.trans p2) r
  | ex k q e => exact fun σ2 H2 H' as cls dx s2 p2 r xa => h σ2 H2 H' as cls dx (s.trans s2) (p.trans p2) r xa
  | bad => exact h
/-- an expression ahead -/
theorem PoS.of {α β : Type} {RR : Hp → Hp → Env → β → α → Prop} {x : Rs α} {f : α → Env → SR} {k : β → Hp → Prop} (h : PoS t c W P Fr σ H0 D (sOf x f))
    (hk : ∀ (a : α) (e : Env) (b : β) (H1 H' : Hp), Same H0 H1 → RR H1 H' e b a → PoS t c W P Fr σ H1 D (f a e) → k b H') : Po t c W Fr σ H0 RR k x := by
  cases x with
  | ok a e1 => exact fun b H1 H' s rr => hk a e1 b H1 H' s rr (PoS.mono s Prot.refl h)
  | ex k' p e1 => exact fun H1 H' as cls dx s rp xa => h σ H1 H' as cls dx s Prot.refl rp xa
  | bad => exact h
theorem PoS.ofOS {γ : Type} {x : Option γ} {f : γ → SR} (h : PoS t c W P Fr σ H0 D (ofOS x f)) : ∃ a, x = some a ∧ PoS t c W P Fr σ H0 D (f a) := by
  cases x with
  | none => exact h.elim
  | some a => exact ⟨a, rfl, h⟩
theorem PoS.leak {H : Hp} {ra : R} {e1 : Env} {v : V} {f : F.D → Env → SR} (po : PoS t c W P Fr σ H0 D (sOf (leak ra e1) f)) (rr : RpR c H0 Fr H σ e1 v ra) :
    ∃ d e2 H2 as, leak ra e1 = .ok d e2 ∧ Same H0 H2 ∧ Rp c H2 Fr H σ e2 as ∧ Dat c H2 d v ∧ PoS t c W P Fr σ H2 D (f d e2) := by
  rcases leak_ok (e' := e1) rr with ⟨d, e2, q⟩ | q
  · rw [q] at po
    obtain ⟨H2, as, s, rp, hd⟩ := RpR.leak rr q
    exact ⟨d, e2, H2, as, q, s, rp, hd, PoS.mono s Prot.refl po⟩
  · rw [q] at po
    exact po.elim
theorem Rp.takeOut {H : Hp} {e : Env} {as : Nat → List Addr} (r : Rp c H0 Fr H σ e as) {i : Nat} {o : O} {v : V} (q : slot e i = some o) (hv : σ[i]? = some (some v)) : Rp1 c H0 Fr H σ (e.set i none) v o := by
  obtain ⟨w, h1, h2⟩ := r.own i o q
  rw [hv] at h1
  cases h1
  refine ⟨as i, setA as i [], h2, r.nd i, r.off i, ?_⟩
  have d := r.drop i
  refine ⟨d.len, d.sub, fun b x hb => ?_, d.own, fun j a ha => ?_, d.sep, d.nd, d.emp, d.tab.re (Same.refl _) (fun _ _ => rfl) d.tab.n0 (fun p q' => by rw [addF_out (r.tab.na p q' i)]; exact d.tab.nF p q') d.tab.na⟩
  · by_cases z : b ∈ as i
    · rw [addF_in z] at hb
      exact ⟨hb, (r.off i b z).1⟩
    · rw [addF_out z] at hb
      exact r.fr b x hb
  · obtain ⟨hj, ha⟩ := setA_mem ha
    refine ⟨(r.off j a ha).1, ?_⟩
    rw [addF_out fun z => hj (r.sep j i a ha z)]
    exact (r.off j a ha).2
end
section
variable {X : Cx} {t : Tb} {W : WX} {P : Nat → Bool} {st : Stmt} {rest : List Stmt} {m m1 m2 : MS} {a b : Expr} {ma mb : M R} {pos : Pos}
theorem sss_nil : SSs X t W P [] sPass := PSs.imp pss_nil fun D σ H ⟨e, H0, Fr, as, rp, po⟩ => po σ H0 H as (Same.refl _) Prot.refl rp
theorem sss_one (h : SS X t W P st m) : SSs X t W P [st] m := pss_one h
theorem sss_cons (h : SS X t W P st m1) (h2 : SSs X t W P rest m2) : SSs X t W P (st :: rest) (sSeq m1 m2) := by
  refine PSs.imp (pss_cons h h2) fun D σ H ⟨e, H0, Fr, as, rp, po⟩ => ?_
  refine ⟨e, H0, Fr, as, rp, ?_⟩
  have po : PoS t (cn X t) W P Fr σ H0 D (match m1 e with
    | .nx e1 => m2 e1
    | r => r) := po
  cases q : m1 e with
  | nx e1 =>
    rw [q] at po
    exact fun σ' H1 H' as s p r => ⟨e1, H1, Fr, as, r, PoS.mono s p po⟩
  | bk e1 =>
    rw [q] at po
    exact po
  | ct e1 =>
    rw [q] at po
    exact po
  | rt o e1 =>
    rw [q] at po
    exact po
  | ex k p e1 =>
    rw [q] at po
    exact po
  | bad =>
    rw [q] at po
    exact po
theorem ss_exp (h : SE X t W a ma) (hs : swapsWith a none pos.line X.env = pure false := by rfl) : SS X t W P (.Expr a pos) (sExp ma) := by
  refine PS.imp (ps_expr h hs) fun D σ H ⟨e, H0, Fr, as, rp, po⟩ => ?_
  refine ⟨e, H0, Fr, as, rp, PoS.of po fun r e1 v H1 H' s rr po => ?_⟩
  obtain ⟨as2, rp2⟩ := RpR.rp rr
  exact po σ H1 H' as2 (Same.refl _) Prot.refl rp2
theorem ret_read {D : Ends} {σ : St} {H : Hp} (q : tS t (cn X t) W P (sRet ma) D σ H) : tI X t W ma σ H fun v H' => D.rt v H' := by
  obtain ⟨e, H0, Fr, as, rp, po⟩ := q
  refine ⟨e, H0, Fr, as, rp, PoS.of po fun r e1 v H1 H' s rr po => ?_⟩
  cases r with
  | d x =>
    obtain ⟨⟨as2, rp2⟩, hd⟩ := rr
    exact po v σ H1 H' (Same.refl _) Prot.refl (rp2.sh1 hd)
  | ow o => exact po v σ H1 H' (Same.refl _) Prot.refl rr
  | sl i =>
    obtain ⟨⟨as2, rp2⟩, hv⟩ := rr
    have po : PoS t (cn X t) W P Fr σ H1 D (match slot e1 i with
      | some (.sh d) => .rt (.sh d) e1
      | some o => .rt o (e1.set i none)
      | none => .bad) := po
    cases q : slot e1 i with
    | none =>
      rw [q] at po
      exact po.elim
    | some o =>
      rw [q] at po
      cases o with
      | sh d =>
        obtain ⟨w, h1, h2⟩ := rp2.own i _ q
        rw [hv] at h1
        cases h1
        exact po v σ H1 H' (Same.refl _) Prot.refl (rp2.sh1 h2.2)
      | fl l => exact po v σ H1 H' (Same.refl _) Prot.refl (rp2.takeOut q hv)
      | fd l => exact po v σ H1 H' (Same.refl _) Prot.refl (rp2.takeOut q hv)
      | fo k l => exact po v σ H1 H' (Same.refl _) Prot.refl (rp2.takeOut q hv)
theorem ss_ret (h : SE X t W a ma) : SS X t W P (.Return (some a) pos) (sRet ma) := PS.imp (ps_ret h) fun D σ H q => ret_read q
theorem ss_if {c : Expr} {s1 s2 : List Stmt} {mc : M Bool} (h : SB X t W c mc) (h1 : SSs X t W P s1 m1) (h2 : SSs X t W P s2 m2) : SS X t W P (.If c s1 s2 pos) (sIf mc m1 m2) := by
  refine PS.imp (ps_if h h1 h2) fun D σ H ⟨e, H0, Fr, as, rp, po⟩ => ?_
  refine ⟨e, H0, Fr, as, rp, PoS.of po fun x e1 k H1 H' s ⟨ek, as2, rp2⟩ po => ?_⟩
  subst ek
  cases k with
  | true => exact ⟨e1, H1, Fr, as2, rp2, po⟩
  | false => exact ⟨e1, H1, Fr, as2, rp2, po⟩
/-- the store behind an answer -/
theorem set_ok {c : Cn} {i : Nat} (hi : P i = false) {σ : St} {H : Hp} {D : Ends} {Fr H1 : Hp} {e1 : Env} {v : V} {r : R} (rr : RpR c H1 Fr H σ e1 v r)
    (po : PoS t c W P Fr σ H1 D (setR i r e1)) : D.nx (σ.set i (some v)) H := by
  cases r with
  | ow o =>
    obtain ⟨as2, rp2⟩ := Rp1.set (i := i) rr
    exact po _ H1 H as2 (Same.refl _) (Prot.set hi) rp2
  | d x =>
    obtain ⟨⟨as2, rp2⟩, hd⟩ := rr
    exact po _ H1 H _ (Same.refl _) (Prot.set hi) (rp2.setSh hd)
  | sl j =>
    obtain ⟨d, e2, H2, as2, q, s2, rp2, hd, po⟩ := PoS.leak (ra := .sl j) po rr
    exact po _ H2 H _ (Same.refl _) (Prot.set hi) (rp2.setSh hd)
theorem ss_set {i : Nat} {x : Str} {pos' : Pos} (hP : P i = false) (hN : X.N.Nodup) (hi : X.N[i]? = some x) (hx : Loc X.env.scope x) (he : SE X t W a ma) (hs : swapsWith a (some (.Name x pos')) pos.line X.env = pure false := by rfl)
    (hf : X.fn x = true ∨ X.env.scope.names.lookup x = some .local := by first | exact .inl rfl | exact .inr rfl | assumption) : SS X t W P (.Assign [.Name x pos'] a pos) (sSet i ma) := by
  refine PS.imp (ps_set hN hi hx he hs hf) fun D σ H ⟨e, H0, Fr, as, rp, po⟩ => ?_
  exact ⟨e, H0, Fr, as, rp, PoS.of po fun r e1 v H1 H' s rr po => set_ok hP rr po⟩
/-! ### targets -/
def tGt (c : Cn) (P : Nat → Bool) (tg : Tg) : TG := fun v σ H Q => ∃ (e : Env) (H0 Fr : Hp) (as : Nat → List Addr) (d : D) (e' : Env), Rp c H0 Fr H σ e as ∧ Dat c H0 d v ∧ tg.put d e = some e' ∧ ∀ σ' as', Prot P σ σ' → Rp c H0 Fr H σ' e' as' → Q σ' H
def tGts (c : Cn) (P : Nat → Bool) (tgs : List Tg) : TGs := fun vs σ H Q => ∃ (e : Env) (H0 Fr : Hp) (as : Nat → List Addr) (ds : List D) (e' : Env), Rp c H0 Fr H σ e as ∧ Dats c H0 ds vs ∧ putAll tgs ds e = some e' ∧ ∀ σ' as', Prot P σ σ' → Rp c H0 Fr H σ' e' as' → Q σ' H
abbrev SG (X : Cx) (t : Tb) (P : Nat → Bool) (target : Expr) (tg : Tg) : Prop := PG X target (tGt (cn X t) P tg)
abbrev SGs (X : Cx) (t : Tb) (P : Nat → Bool) (ts : List Expr) (tgs : List Tg) : Prop := PGs X ts (tGts (cn X t) P tgs)
theorem PG.imp {X : Cx} {tg : Expr} {u u' : TG} (h : PG X tg u) (k : ∀ v σ H Q, u' v σ H Q → u v σ H Q) : PG X tg u' := ⟨fun pins s σ H v u Q I r q => h.run pins s σ H v u Q I r (k _ _ _ _ q)⟩
theorem PGs.imp {X : Cx} {ts : List Expr} {u u' : TGs} (h : PGs X ts u) (k : ∀ v σ H Q, u' v σ H Q → u v σ H Q) : PGs X ts u' := ⟨fun pins s σ H v u Q I r q => h.run pins s σ H v u Q I r (k _ _ _ _ q)⟩
theorem sg_name {i : Nat} {x : Str} (hP : P i = false) (hN : X.N.Nodup) (hi : X.N[i]? = some x) (hx : Loc X.env.scope x) (hf : X.fn x = true ∨ X.env.scope.names.lookup x = some .local := by first | exact .inl rfl | exact .inr rfl | assumption) : SG X t P (.Name x pos) (.nm i) := by
  refine PG.imp (pg_name hN hi hx hf) fun v σ H Q ⟨e, H0, Fr, as, d, e', rp, hd, hp, q⟩ => ?_
  cases hp
  exact q _ _ (Prot.set hP) (rp.setSh hd)
theorem sgs_nil : SGs X t P [] [] := by
  refine PGs.imp pgs_nil fun vs σ H Q ⟨e, H0, Fr, as, ds, e', rp, hd, hp, q⟩ => ?_
  cases ds with
  | nil =>
    cases hp
    exact ⟨hd, q σ as Prot.refl rp⟩
  | cons d ds => cases hp
theorem sgs_cons {g : Expr} {gs : List Expr} {tg : Tg} {tgs : List Tg} (h1 : SG X t P g tg) (h2 : SGs X t P gs tgs)
    (hs : (assignEach (g :: gs) X.env).map (·.2) = assign g X.env :: (assignEach gs X.env).map (·.2) := by rfl) : SGs X t P (g :: gs) (tg :: tgs) := by
  refine PGs.imp (pgs_cons h1 h2 hs) fun vs σ H Q ⟨e, H0, Fr, as, ds, e', rp, hd, hp, q⟩ => ?_
  cases ds with
  | nil => cases hp
  | cons d ds =>
    obtain ⟨v, r, h1, h2, h3⟩ := hd
    have hp : (match tg.put d e with
      | some e1 => putAll tgs ds e1
      | none => none) = some e' := hp
    cases q1 : tg.put d e with
    | none =>
      rw [q1] at hp
      cases hp
    | some e1 =>
      rw [q1] at hp
      exact ⟨v, r, h1, e, H0, Fr, as, d, e1, rp, h2, q1, fun σ' as' p rp' => ⟨e1, H0, Fr, as', ds, e', rp', h3, hp, fun σ2 as2 p2 rp2 => q σ2 as2 (p.trans p2) rp2⟩⟩
theorem putAll_len : ∀ {tgs : List Tg} {ds : List D} {e e' : Env}, putAll tgs ds e = some e' → ds.length = tgs.length
  | [], [], _, _, _ => rfl
  | [], _ :: _, _, _, h => by cases h
  | _ :: _, [], _, _, h => by cases h
  | tg :: tgs, d :: ds, e, e', h => by
    have hp : (match tg.put d e with
      | some e1 => putAll tgs ds e1
      | none => none) = some e' := h
    cases q1 : tg.put d e with
    | none =>
      rw [q1] at hp
      cases hp
    | some e1 =>
      rw [q1] at hp
      simp [putAll_len hp]
theorem sg_tup {gs : List Expr} {k : Nat} {tgs : List Tg} (hc : X.calm = true) (h : SGs X t P gs tgs) (hn : (assignEach gs X.env).length = tgs.length := by rfl) (hst : (assignEach gs X.env).findIdx? (·.1) = none := by rfl) : SG X t P (.Tuple gs k pos) (.tp tgs) := by
  refine PG.imp (pg_tup hc h hn hst) fun v σ H Q ⟨e, H0, Fr, as, d, e', rp, hd, hp, q⟩ => ?_
  cases d with
  | tup ds =>
    obtain ⟨_, a, vs, h1, h2, h3⟩ := hd
    have hp : putAll tgs ds e = some e' := hp
    exact ⟨a, vs, h1, SqT.same rp.sub h2, by rw [h3.len, putAll_len hp], e, H0, Fr, as, ds, e', rp, h3, hp, q⟩
  | _ => cases hp
theorem ss_unp {target : Expr} {tg : Tg} (he : SE X t W a ma) (hg : SG X t P target tg) (hs : swapsWithSole [target] a pos.line X.env = pure false := by rfl) (hw : swappedStores [target] a X.env = pure none := by rfl) (h1 : (assignEach [target] X.env).map (·.2) = [assign target X.env] := by rfl) : SS X t W P (.Assign [target] a pos) (sUnp tg ma) := by
  refine PS.imp (ps_asg he hg hs hw h1) fun D σ H ⟨e, H0, Fr, as, rp, po⟩ => ?_
  refine ⟨e, H0, Fr, as, rp, PoS.of po fun r e1 v H1 H' s rr po => ?_⟩
  obtain ⟨d, e2, H2, as2, q, s2, rp2, hd, po⟩ := PoS.leak po rr
  obtain ⟨e3, q3, po⟩ := PoS.ofOS po
  exact ⟨e2, H2, Fr, as2, d, e3, rp2, hd, q3, fun σ' as' p rp' => po σ' H2 H' as' (Same.refl _) p rp'⟩
/-! ### loops -/
/-- items, walked -/
def WkD (c : Cn) (H1 : Hp) (J : It) (items : List D) : Prop := ∃ (G : Hp → Prop) (Y : Nat → Hp → V → Hp → Prop), Walk J items.length G Y ∧ (∀ H2 H', Same H1 H2 → Same H2 H' → G H') ∧
  ∀ i H2 H' x H'', i < items.length → Same H1 H2 → Same H2 H' → Y i H' x H'' → ∃ d, items[i]? = some d ∧ ((H'' = H' ∧ Dat c H2 d x) ∨ ∃ p o, x = .ref p ∧ H' p = none ∧ H'' = upd H' p o ∧ Dat c (upd H2 p o) d x)
def rrI (c : Cn) : Hp → St → Hp → Hp → Env → It → List D → Prop := fun Fr σ H1 H' e J items => (∃ as, Rp c H1 Fr H' σ e as) ∧ WkD c H1 J items
def tIt (t : Tb) (c : Cn) (W : WX) (m : M (List D)) : TI := fun σ H Rr => tG t c W (rrI c) m σ H Rr
abbrev SI (X : Cx) (t : Tb) (W : WX) (tg it : Expr) (m : M (List D)) : Prop := PI X tg it (tIt t (cn X t) W m)
theorem PI.imp {X : Cx} {tg it : Expr} {u u' : TI} (h : PI X tg it u) (k : ∀ σ H Q, u' σ H Q → u σ H Q) : PI X tg it u' := ⟨fun pins s σ H R I q => h.run pins s σ H R I (k _ _ _ q)⟩
/-- the item of a turn -/
theorem wk_item {c : Cn} {H1 H2 Fr H' H'' : Hp} {items : List D} {σ : St} {e : Env} {as : Nat → List Addr} {i : Nat} {x : V} {G : Hp → Prop} {Y : Nat → Hp → V → Hp → Prop}
    (hy : ∀ i H2 H' x H'', i < items.length → Same H1 H2 → Same H2 H' → Y i H' x H'' → ∃ d, items[i]? = some d ∧ ((H'' = H' ∧ Dat c H2 d x) ∨ ∃ p o, x = .ref p ∧ H' p = none ∧ H'' = upd H' p o ∧ Dat c (upd H2 p o) d x))
    (hi : i < items.length) (s : Same H1 H2) (rp : Rp c H2 Fr H' σ e as) (y : Y i H' x H'') : ∃ d H3, items[i]? = some d ∧ Same H2 H3 ∧ Rp c H3 Fr H'' σ e as ∧ Dat c H3 d x := by
  obtain ⟨d, e1, q⟩ := hy i H2 H' x H'' hi s rp.sub y
  rcases q with ⟨rfl, hd⟩ | ⟨p, o, rfl, hp, rfl, hd⟩
  · exact ⟨d, H2, e1, Same.refl _, rp, hd⟩
  · exact ⟨d, _, e1, (rp.alloc hp).1, (rp.alloc hp).2, hd⟩
theorem drop_cons {α : Type} {l : List α} {i : Nat} {d : α} (h : l[i]? = some d) : l.drop i = d :: l.drop (i + 1) := by
  obtain ⟨h1, h2⟩ := List.getElem?_eq_some_iff.mp h
  rw [List.drop_eq_getElem_cons h1, h2]
theorem ss_for {target it : Expr} {body : List Stmt} {tg : Tg} {mi : M (List D)} {mb : MS} (hp : PassesOwn (model X.prog X.w) X.A X.env X.xe) (hc : X.calm = true) (hi : SI X t W target it mi) (hg : SG X t P target tg) (hb : SSs X t W P body mb)
    (hs : ∀ x, foldedSetIterable it X.env x = pure x := by intro _; rfl) : SS X t W P (.For target it body [] pos) (sFor tg mi mb) := by
  refine PS.imp (ps_for hp hc hi hg hb hs) fun D σ H ⟨e, H0, Fr, as, rp, po⟩ => ?_
  refine ⟨e, H0, Fr, as, rp, PoS.of po fun items e1 J H1 H' s ⟨⟨as1, rp1⟩, G, Y, wk, hG, hY⟩ po => ?_⟩
  refine for_it wk (fun i σ' H'' => ∃ e' H2 as', Same H1 H2 ∧ Prot P σ σ' ∧ Rp (cn X t) H2 Fr H'' σ' e' as' ∧ PoS t (cn X t) W P Fr σ H1 D (forL tg mb (items.drop i) e'))
    ⟨e1, H1, as1, Same.refl _, Prot.refl, rp1, by simpa using po⟩ (fun i σ' H'' _ ⟨e', H2, as', s2, _, rp2, _⟩ => hG H2 H'' s2 rp2.sub) ?_ ?_
  · rintro i x σ' H2' H3' hi ⟨e', H2, as', s2, p2, rp2, po2⟩ y
    obtain ⟨d, H3, e3, s3, rp3, hd⟩ := wk_item (G := G) hY hi s2 rp2 y
    rw [drop_cons e3] at po2
    have po2 : PoS t (cn X t) W P Fr σ H1 D (match tg.put d e' with
      | some e1 => (match mb e1 with
        | .nx e2 => forL tg mb (items.drop (i + 1)) e2
        | .ct e2 => forL tg mb (items.drop (i + 1)) e2
        | .bk e2 => .nx e2
        | r => r)
      | none => .bad) := po2
    cases q : tg.put d e' with
    | none =>
      rw [q] at po2
      exact po2.elim
    | some e2 =>
      rw [q] at po2
      have po2 : PoS t (cn X t) W P Fr σ H1 D (match mb e2 with
        | .nx e2 => forL tg mb (items.drop (i + 1)) e2
        | .ct e2 => forL tg mb (items.drop (i + 1)) e2
        | .bk e2 => .nx e2
        | r => r) := po2
      refine ⟨e', H3, Fr, as', d, e2, rp3, hd, q, fun σ2 as2 p3 rp4 => ⟨e2, H3, Fr, as2, rp4, ?_⟩⟩
      have s13 : Same H1 H3 := s2.trans s3
      have p13 : Prot P σ σ2 := p2.trans p3
      cases q2 : mb e2 with
      | nx e5 =>
        rw [q2] at po2
        exact fun σ3 H4 H4' as4 s4 p4 rp5 => ⟨e5, H4, as4, s13.trans s4, p13.trans p4, rp5, po2⟩
      | ct e5 =>
        rw [q2] at po2
        exact fun σ3 H4 H4' as4 s4 p4 rp5 => ⟨e5, H4, as4, s13.trans s4, p13.trans p4, rp5, po2⟩
      | bk e5 =>
        rw [q2] at po2
        exact fun σ3 H4 H4' as4 s4 p4 rp5 => po2 σ3 H4 H4' as4 (s13.trans s4) (p13.trans p4) rp5
      | rt o e5 =>
        rw [q2] at po2
        exact fun v σ3 H4 H4' s4 p4 rp5 => po2 v σ3 H4 H4' (s13.trans s4) (p13.trans p4) rp5
      | ex k p e5 =>
        rw [q2] at po2
        exact fun σ3 H4 H4' as4 cls dx s4 p4 rp5 xa => po2 σ3 H4 H4' as4 cls dx (s13.trans s4) (p13.trans p4) rp5 xa
      | bad =>
        rw [q2] at po2
        exact po2
  · rintro σ' H2' ⟨e', H2, as', s2, p2, rp2, po2⟩
    rw [List.drop_length] at po2
    exact po2 σ' H2 H2' as' s2 p2 rp2
theorem ss_while {cnd : Expr} {body : List Stmt} {mc : M Bool} {mb : MS} (n : Nat) (hp : PassesOwn (model X.prog X.w) X.A X.env X.xe) (hc : SB X t W cnd mc) (hb : SSs X t W P body mb) : SS X t W P (.While cnd body [] pos) (sWhile n mc mb) := by
  refine PS.imp (ps_while hp hc hb) fun D σ H ⟨e, H0, Fr, as, rp, po⟩ => ?_
  refine ⟨fun k σ' H' => ∃ e' H2 as', Same H0 H2 ∧ Prot P σ σ' ∧ Rp (cn X t) H2 Fr H' σ' e' as' ∧ PoS t (cn X t) W P Fr σ H0 D (whL mc mb k e'), ⟨n, e, H0, as, Same.refl _, Prot.refl, rp, po⟩, ?_⟩
  rintro k σ' H' ⟨e', H2, as', s2, p2, rp2, po2⟩
  cases k with
  | zero => exact po2.elim
  | succ k =>
    have po2 : PoS t (cn X t) W P Fr σ H0 D (match mc e' with
      | .ok true e1 => (match mb e1 with
        | .nx e2 => whL mc mb k e2
        | .ct e2 => whL mc mb k e2
        | .bk e2 => .nx e2
        | r => r)
      | .ok false e1 => .nx e1
      | .ex k p e1 => .ex k p e1
      | .bad => .bad) := po2
    refine ⟨e', H2, Fr, as', rp2, ?_⟩
    cases q : mc e' with
    | bad =>
      rw [q] at po2
      exact po2
    | ex j p e1 =>
      rw [q] at po2
      exact fun H3 H3' as3 cls dx s3 rp3 xa => po2 σ' H3 H3' as3 cls dx (s2.trans s3) p2 rp3 xa
    | ok b e1 =>
      rw [q] at po2
      rintro b' H3 H3' s3 ⟨rfl, as3, rp3⟩
      cases b' with
      | false => exact po2 σ' H3 H3' as3 (s2.trans s3) p2 rp3
      | true =>
        have po2 : PoS t (cn X t) W P Fr σ H0 D (match mb e1 with
          | .nx e2 => whL mc mb k e2
          | .ct e2 => whL mc mb k e2
          | .bk e2 => .nx e2
          | r => r) := po2
        refine ⟨fun σ2 H2' => ∃ e' H2 as', Same H0 H2 ∧ Prot P σ σ2 ∧ Rp (cn X t) H2 Fr H2' σ2 e' as' ∧ PoS t (cn X t) W P Fr σ H0 D (whL mc mb k e'), fun σ2 H2' h => ⟨k, Nat.lt_succ_self k, h⟩, ⟨e1, H3, Fr, as3, rp3, ?_⟩⟩
        have s03 : Same H0 H3 := s2.trans s3
        cases q2 : mb e1 with
        | nx e5 =>
          rw [q2] at po2
          exact fun σ3 H4 H4' as4 s4 p4 rp5 => ⟨e5, H4, as4, s03.trans s4, p2.trans p4, rp5, po2⟩
        | ct e5 =>
          rw [q2] at po2
          exact fun σ3 H4 H4' as4 s4 p4 rp5 => ⟨e5, H4, as4, s03.trans s4, p2.trans p4, rp5, po2⟩
        | bk e5 =>
          rw [q2] at po2
          exact fun σ3 H4 H4' as4 s4 p4 rp5 => po2 σ3 H4 H4' as4 (s03.trans s4) (p2.trans p4) rp5
        | rt o e5 =>
          rw [q2] at po2
          exact fun v σ3 H4 H4' s4 p4 rp5 => po2 v σ3 H4 H4' (s03.trans s4) (p2.trans p4) rp5
        | ex k p e5 =>
          rw [q2] at po2
          exact fun σ3 H4 H4' as4 cls dx s4 p4 rp5 xa => po2 σ3 H4 H4' as4 cls dx (s03.trans s4) (p2.trans p4) rp5 xa
        | bad =>
          rw [q2] at po2
          exact po2
end
end F
end

section
set_option Elab.async false
set_option linter.all false
set_option autoImplicit false
set_option maxRecDepth 100000
/-! F layer, part F: comprehensions, things changed in place, defs. -/
namespace F
open PySem PySem.Spec PyProof.Rows L2
section
variable {c : Cn} {H0 Fr H : Hp} {σ : St} {e : Env} {as : Nat → List Addr}
/-- a thing of the frame is changed -/
theorem Rp.frUpd (r : Rp c H0 Fr H σ e as) {p : Addr} {o x : HO} (h : Fr p = some o) : Rp c H0 (upd Fr p x) (upd H p x) σ e as := by
  obtain ⟨h1, h2⟩ := r.fr p o h
  have nas : ∀ {i a}, a ∈ as i → a ≠ p := fun {i a} ha z => by
    have := (r.off i a ha).2
    rw [z, h] at this
    cases this
  refine ⟨r.len, fun b y hb => by rw [upd_ne (ne_of_none hb h2)]; exact r.sub b y hb, fun b y hb => ?_, fun i o' q => ?_, fun i a ha => ⟨(r.off i a ha).1, by rw [upd_ne (nas ha)]; exact (r.off i a ha).2⟩, r.sep, r.nd, r.emp, r.tab.re (Same.refl _) (fun q hq => upd_ne fun z => by have := r.tab.nF q hq; rw [z, h] at this; cases this) r.tab.n0 (fun q hq => by rw [upd_ne fun z => by have := r.tab.nF q hq; rw [z, h] at this; cases this]; exact r.tab.nF q hq) r.tab.na⟩
  · by_cases z : b = p
    · subst z
      rw [upd_same] at hb ⊢
      exact ⟨hb, h2⟩
    · rw [upd_ne z] at hb ⊢
      exact r.fr b y hb
  · obtain ⟨v, h3, h4⟩ := r.own i o' q
    exact ⟨v, h3, OwnR.mono (fun _ _ z => z) o' v _ (fun a ha => upd_ne (nas ha)) h4⟩
/-- a new object that goes to the frame -/
theorem Rp.frNew (r : Rp c H0 Fr H σ e as) {p : Addr} {x : HO} (hp : H p = none) : Rp c H0 (upd Fr p x) (upd H p x) σ e as := by
  have h0 : H0 p = none := by
    cases q : H0 p with
    | none => rfl
    | some y =>
      rw [r.sub p y q] at hp
      cases hp
  have sH : Same H (upd H p x) := fun b o e => by rw [upd_ne (ne_of_none e hp)]; exact e
  have r2 := r.heap sH
  refine ⟨r2.len, r2.sub, fun b o hb => ?_, r2.own, fun i a ha => ⟨(r.off i a ha).1, ?_⟩, r2.sep, r2.nd, r2.emp, r2.tab.re (Same.refl _) (fun _ _ => rfl) r2.tab.n0 (fun q hq => by rw [upd_ne (r.tab.ne hq hp)]; exact r2.tab.nF q hq) r2.tab.na⟩
  · by_cases z : b = p
    · subst z
      rw [upd_same] at hb ⊢
      exact ⟨hb, h0⟩
    · rw [upd_ne z] at hb
      exact r2.fr b o hb
  · obtain ⟨y, hy⟩ := r.here ha
    rw [upd_ne (ne_of_none hy hp)]
    exact (r.off i a ha).2
/-- own slots are wiped -/
theorem wipe_len (e : Env) : ∀ own : List Nat, ∀ e : Env, (wipeE e own).length = e.length
  | [], e => rfl
  | i :: is, e => by
    unfold wipeE
    rw [wipe_len e is]
    simp
theorem wipe_slot : ∀ {own : List Nat} {e : Env} {i : Nat} {o : O}, slot (wipeE e own) i = some o → i ∉ own ∧ slot e i = some o
  | [], e, i, o, h => ⟨by simp, h⟩
  | j :: js, e, i, o, h => by
    obtain ⟨h1, h2⟩ := wipe_slot (own := js) (e := e.set j none) h
    obtain ⟨h3, h4⟩ := slot_none h2
    exact ⟨by simp [h1, h3], h4⟩
theorem wipe_get {σ : St} {i : Nat} : ∀ {vs : List Nat}, i ∉ vs → (wipe σ vs)[i]? = σ[i]?
  | [], _ => rfl
  | v :: vs, h => by
    unfold wipe
    rw [List.getElem?_set_ne fun z => h (by simp [z])]
    exact wipe_get fun z => h (by simp [z])
theorem Rp.wipe (r : Rp c H0 Fr H σ e as) (own : List Nat) : ∃ as', Rp c H0 Fr H (L2.wipe σ own) (wipeE e own) as' := by
  refine r.re (by rw [wipe_len e, wipe_length]; exact r.len) id (fun i o q => ?_) (fun i j _ _ _ _ h => h)
  obtain ⟨h1, h2⟩ := wipe_slot q
  exact ⟨h2, wipe_get h1⟩
/-- behind a comprehension -/
theorem Rp.unwipe {e0 : Env} {H1 : Hp} : ∀ {own is : List Nat} {e : Env} {as : Nat → List Addr}, Rp c H0 Fr H σ e as → (∀ i d, slot e0 i = some (.sh d) → ∃ v, σ[i]? = some (some v) ∧ Dat c H0 d v) → ∃ as', Rp c H0 Fr H σ (unwipe e0 e is) as'
  | own, [], e, as, r, h => ⟨as, r⟩
  | own, i :: is, e, as, r, h => by
    unfold F.unwipe
    split
    · rename_i d q
      obtain ⟨v, h1, h2⟩ := h i d q
      have r2 := r.setSh (i := i) h2
      have hs : σ.set i (some v) = σ := by
        apply List.ext_getElem?
        intro j
        by_cases z : i = j
        · subst z
          rw [List.getElem?_set_self (List.getElem?_eq_some_iff.mp h1).1, h1]
        · rw [List.getElem?_set_ne z]
      rw [hs] at r2
      exact Rp.unwipe (own := own) (H1 := H1) r2 h
    · exact Rp.unwipe (own := own) (H1 := H1) r h
end
abbrev W0 : WX := fun _ _ _ _ => False
abbrev STs (X : Cx) (t : Tb) (ifs : List Expr) (m : M Bool) : Prop := PTs X ifs (tG t (cn X t) W0 (rrB (cn X t)) m)
theorem sts_nil {X : Cx} {t : Tb} : STs X t [] mYes := by
  refine ⟨fun pins s σ H Q I ⟨e, H0, Fr, as, rp, po⟩ => pts_nil.run pins s σ H Q I ?_⟩
  exact po true H0 H (Same.refl _) ⟨rfl, as, rp⟩
theorem wipe_in {σ : St} : ∀ {vs : List Nat} {i : Nat}, i ∈ vs → i < σ.length → (L2.wipe σ vs)[i]? = some none
  | [], _, h, _ => by cases h
  | v :: vs, i, h, hl => by
    show ((L2.wipe σ vs).set v none)[i]? = some none
    by_cases z : v = i
    · subst z
      exact List.getElem?_set_self (by rw [wipe_length]; exact hl)
    · rw [List.getElem?_set_ne z]
      rcases List.mem_cons.mp h with e | e
      · exact absurd e.symm z
      · exact wipe_in e hl
theorem wipe_eq {σ σ2 : St} {own : List Nat} (h : Prot (fun i => !own.contains i) (L2.wipe σ own) σ2) : L2.wipe σ2 own = L2.wipe σ own := by
  have hl : σ2.length = σ.length := by rw [h.1, wipe_length]
  apply List.ext_getElem?
  intro i
  by_cases hi : i ∈ own
  · by_cases hlt : i < σ.length
    · rw [wipe_in hi hlt, wipe_in hi (by omega)]
    · rw [List.getElem?_eq_none (by rw [wipe_length]; omega), List.getElem?_eq_none (by rw [wipe_length]; omega)]
  · rw [wipe_get hi, h.2 i (by simpa using hi)]
section
variable {X : Cx} {t : Tb} {W : WX}
theorem lc_read {mi : M (List D)} {own : List Nat} {tg : Tg} {mc : M Bool} {mv : M R} {σ : St} {H : Hp} {Q : VK} (q : tI X t W (mLc own tg mi mc mv) σ H Q) :
    tLc (tIt t (cn X t) W mi) (tGt (cn X t) (fun i => !own.contains i) tg) (tG t (cn X t) W0 (rrB (cn X t)) mc) (tI X t W0 mv) own σ H Q := by
  obtain ⟨e, H0, Fr, as, rp, po⟩ := q
  refine ⟨e, H0, Fr, as, rp, po.bind fun items e1 J H1 H' s ⟨⟨as1, rp1⟩, G, Y, wk, hG, hY⟩ po => ?_⟩
  intro L hL
  by_cases hlim : items.length ≤ lim
  case neg =>
    rw [if_neg hlim] at po
    exact po.elim
  rw [if_pos hlim] at po
  have h1L : H1 L = none := by
    cases z : H1 L with
    | none => rfl
    | some y =>
      rw [rp1.sub L y z] at hL
      cases hL
  have hFL : Fr L = none := by
    cases z : Fr L with
    | none => rfl
    | some y =>
      rw [(rp1.fr L y z).1] at hL
      cases hL
  -- what is kept of the names' shared data
  have old : ∀ i d, slot e1 i = some (.sh d) → ∃ v, σ[i]? = some (some v) ∧ Dat (cn X t) H1 d v := fun i d z => by
    obtain ⟨v, h1, h2⟩ := rp1.own i _ z
    exact ⟨v, h1, h2.2⟩
  obtain ⟨as0, rp0⟩ := rp1.wipe own
  refine lc_it wk (fun i H'' => ∃ (e' : Env) (H2 : Hp) (as' : Nat → List Addr) (acc : List D) (ws : List V), Same H1 H2 ∧ Rp (cn X t) H2 (upd Fr L (.lst ws)) H'' (L2.wipe σ own) e' as' ∧ Dats (cn X t) H2 acc ws ∧ acc.length ≤ i ∧
      Po t (cn X t) W Fr σ H1 (rrR (cn X t) Fr σ) Q (lcEnd e1 own (lcL own tg mc mv (items.drop i) acc e'))) ⟨wipeE e1 own, H1, as0, [], [], Same.refl _, rp0.frNew hL, rfl, Nat.le_refl _, by simpa using po⟩ (fun i H'' _ ⟨e', H2, as', acc, ws, s2, rp2, _⟩ => hG H2 H'' s2 rp2.sub) ?_ ?_
  · rintro i x Hi Hx hi ⟨e', H2, as', acc, ws, s2, rp2, hacc, hlen, po2⟩ y
    obtain ⟨d, H3, e3, s3, rp3, hd⟩ := wk_item (G := G) hY hi s2 rp2 y
    rw [drop_cons e3] at po2
    unfold lcL at po2
    cases q : tg.put d e' with
    | none =>
      rw [q] at po2
      exact po2.elim
    | some e2 =>
      rw [q] at po2
      dsimp only at po2
      refine ⟨e', H3, upd Fr L (.lst ws), as', d, e2, rp3, hd, q, fun σ2 as2 p3 rp4 => ?_⟩
      have hw := wipe_eq p3
      refine ⟨hw, e2, H3, upd Fr L (.lst ws), as2, rp4, ?_⟩
      cases qc : mc e2 with
      | bad =>
        rw [qc] at po2
        exact po2.elim
      | ex _ _ _ =>
        rw [qc] at po2
        exact po2.elim
      | ok b e4 =>
        rw [qc] at po2
        rintro b' H4 H4' s4 ⟨rfl, as4, rp4⟩
        cases b' with
        | false =>
          dsimp only at po2
          rw [if_neg Bool.false_ne_true]
          obtain ⟨as5, rp5⟩ := rp4.wipe own
          rw [hw] at rp5
          exact ⟨_, H4, as5, acc, ws, (s2.trans s3).trans s4, rp5, Dats.mono (s3.trans s4) _ _ hacc, by omega, po2⟩
        | true =>
          dsimp only at po2
          rw [if_pos rfl]
          refine ⟨e4, H4, upd Fr L (.lst ws), as4, rp4, ?_⟩
          cases qv : mv e4 with
          | bad =>
            rw [qv] at po2
            exact po2.elim
          | ex _ _ _ =>
            rw [qv] at po2
            exact po2.elim
          | ok r e5 =>
            rw [qv] at po2
            dsimp only at po2
            intro v H5 H5' s5 rr
            rcases leak_ok (e' := e5) rr with ⟨d6, e6, ql⟩ | ql
            · rw [ql] at po2
              dsimp only at po2
              obtain ⟨H6, as6, s6, rp6, hd6⟩ := RpR.leak rr ql
              have hL6 : H5' L = some (.lst ws) := (rp6.fr L _ upd_same).1
              have hwl : ws.length = acc.length := hacc.len
              have hz : sizeLine = lim := sizeLine_lim
              refine ⟨ws, hL6, by omega, ?_⟩
              obtain ⟨as7, rp7⟩ := rp6.wipe own
              rw [hw] at rp7
              have rp8 := rp7.frUpd (p := L) (x := .lst (ws ++ [v])) upd_same
              rw [upd_upd] at rp8
              have s26 : Same H2 H6 := ((s3.trans s4).trans s5).trans s6
              exact ⟨_, H6, as7, acc ++ [d6], ws ++ [v], s2.trans s26, rp8, Dats.app (Dats.mono s26 _ _ hacc) (Dats.one hd6), by simp; omega, po2⟩
            · rw [ql] at po2
              exact po2.elim
  · rintro H'' ⟨e', H2, as', acc, ws, s2, rp2, hacc, hlen, po2⟩
    rw [List.drop_length] at po2
    have po2 : Po t (cn X t) W Fr σ H1 (rrR (cn X t) Fr σ) Q (.ok (.ow (.fl acc)) (unwipe e1 e' own)) := po2
    have rp3 : Rp (cn X t) H2 (upd Fr L (.lst ws)) H'' σ e' as' := by
      refine rp2.other (by rw [wipe_length]) fun i o q => ?_
      obtain ⟨v, h1, _⟩ := rp2.own i o q
      rw [(wipe_some h1).1, h1]
    obtain ⟨as4, rp4⟩ := rp3.unwipe (e0 := e1) (own := own) (H1 := H1) (is := own) fun i d z => by
      obtain ⟨v, h1, h2⟩ := old i d z
      exact ⟨v, h1, Dat.mono s2 _ _ h2⟩
    refine po2 (.ref L) H2 H'' s2 ⟨[L], as4, ⟨?_, L, ws, rfl, rfl, ?_, hacc⟩, by simp, fun a ha => ?_, ?_⟩
    · omega
    · exact (rp2.fr L _ upd_same).1
    · rw [List.mem_singleton.mp ha]
      exact ⟨(rp2.fr L _ upd_same).2, hFL⟩
    · have hF : addF Fr H'' [L] = upd Fr L (.lst ws) := by
        funext b
        by_cases z : b = L
        · subst z
          rw [addF_in (by simp), upd_same]
          exact (rp2.fr b _ upd_same).1
        · rw [addF_out (by simpa using z), upd_ne z]
      rw [hF]
      exact rp4
variable {elt target iter : Expr} {ifs : List Expr} {scope : Scope} {own : List (Str × Nat)} {pos spos py : Pos} {tg : Tg} {mi : M (List D)} {mc : M Bool} {mv : M R} {P : Nat → Bool}
abbrev Blk (X : Cx) (scope : Scope) (s : Shared) (H : Hp) (C : Addr) (cl : List (Str × Addr)) (fp : List Addr) : Cx := X.blk s H scope (compEnvC scope cl C X.env) fp
theorem se_lc (hc : X.calm = true) (hN : X.N.Nodup) (hi : SI X t W target iter mi) (ok : BlkOk X.N X.env.scope scope own)
    (hg : ∀ s H C cl fp, SG (Blk X scope s H C cl fp) t (fun i => !(own.map (·.2)).contains i) target tg) (ht : ∀ s H C cl fp, STs (Blk X scope s H C cl fp) t ifs mc)
    (he : ∀ s H C cl fp, SE (Blk X scope s H C cl fp) t W0 elt mv) (hs : ∀ x, foldedSetIterable iter X.env x = pure x := by intro _; rfl) :
    SE X t W (.ListComp elt [⟨target, iter, ifs, 0⟩] scope pos) (mLc (own.map (·.2)) tg mi mc mv) :=
  PE.imp (pe_lc (own := own) hc hN hi ok hg ht he hs) fun _ _ _ q => lc_read q
end
/-! ### things changed in place -/
section
variable {X : Cx} {t : Tb} {W : WX} {P : Nat → Bool} {a b k v : Expr} {ma mb mk mv : M R} {pos apos cpos p1 : Pos} {i : Nat}
/-- a name's own list, at its address -/
theorem Rp.lst {c : Cn} {H0 Fr H : Hp} {σ : St} {e : Env} {as : Nat → List Addr} (r : Rp c H0 Fr H σ e as) {i : Nat} {l : List D} (q : slot e i = some (.fl l)) {v : V} (hv : σ[i]? = some (some v)) :
    l.length ≤ lim ∧ ∃ p vs, v = .ref p ∧ H p = some (.lst vs) ∧ Dats c H0 l vs ∧
      ∀ l' vs', l'.length ≤ lim → Dats c H0 l' vs' → Rp c H0 Fr (upd H p (.lst vs')) σ (e.set i (some (.fl l'))) as := by
  obtain ⟨w, h1, hl, p, vs, h2, h3, h4, h5⟩ := r.own i _ q
  rw [hv] at h1
  cases h1
  refine ⟨hl, p, vs, h2, h4, h5, fun l' vs' hl' hd => r.mut q h3 fun w hw _ => ?_⟩
  rw [hv] at hw
  cases hw
  exact ⟨hl', p, vs', h2, rfl, upd_same, hd⟩
def MOp1 (c : Cn) (r : V → List V → Hp → VK → Prop) (f : List D → D → Option (D × List D)) : Prop := ∀ (H0 H : Hp) (p : Addr) (l : List D) (vs : List V) (x d : D) (y : V) (l' : List D) (Q : VK), Same H0 H → f l x = some (d, l') → l.length ≤ lim → H p = some (.lst vs) → Dats c H0 l vs → Dat c H0 x y →
  (∀ z vs', l'.length ≤ lim → Dats c H0 l' vs' → Dat c H0 d z → Q z (upd H p (.lst vs'))) → r (.ref p) [y] H Q
theorem tyV_lst {K : PySem.W.Frag} {H : Hp} {p : Addr} {vs : List V} (h : H p = some (.lst vs)) : tyV K "list" (.ref p) H := Or.inl ⟨rfl, vs, SqL.of h⟩
theorem se_mut1 {x name : Str} {id : String} {r : V → List V → Hp → VK → Prop} {f : List D → D → Option (D × List D)} (slot : Slot "list" name id) (hty : typeOf (.builtin id) = pure (.type "method_descriptor")) (hm : MtR X id r) (hr : MOp1 (cn X t) r f) (ho : PE X (.Name x p1) (tVar i)) (ha : SE X t W a ma)
    (hs1 : starEach (a :: []) X.env = (false, eval a X.env) :: starEach [] X.env := by rfl)
    (hbase : attributeBase (.Name x p1) name X.env (eval (.Name x p1) X.env) = eval (.Name x p1) X.env := by rfl)
    (hfew : ((backTo cpos (starEach (a :: []) X.env)).all (fun x => !x.1) && (backToKw cpos (keywordEach [] X.env)).all (fun x => x.1.isSome)
      && decide ((a :: []).length + ([] : List Keyword).length + (if ([] : List Keyword).isEmpty then 0 else 1) < 30)) = true := by rfl)
    (hline : (apos.endLine == cpos.line) = true := by rfl) (hs : starEach (a :: []) X.env = (false, eval a X.env) :: starEach [] X.env := by rfl) (hplain : (backTo cpos (starEach [] X.env)).any (·.1) = false := by rfl) :
    SE X t W (.Call (.Attribute (.Name x p1) name apos) [a] [] cpos) (mMut1 i f ma) := by
  refine PE.imp (pe_bm PySem.F.plainAttrs_list slot hty hm ho (pa_cons ha pa_nil hs1) hbase hfew hline hs hplain) fun σ H Q ⟨e, H0, Fr, as, rp, po⟩ => ?_
  have po : Po t (cn X t) W Fr σ H0 (rrR (cn X t) Fr σ) Q (match F.slot e i with
    | some (.fl _) => andThen (ma e) fun r e1 => andThen (leak r e1) fun d e2 => (match F.slot e2 i with
      | some (.fl l) => ofO (f l d) fun p => .ok (.d p.1) (e2.set i (some (.fl p.2)))
      | _ => .bad)
    | _ => .bad) := po
  split at po
  · rename_i l0 q0
    obtain ⟨w, h1, _⟩ := rp.own i _ q0
    obtain ⟨_, p, vs0, rfl, h2, _, _⟩ := rp.lst q0 h1
    refine ⟨_, h1, tyV_lst h2, e, H0, Fr, as, rp, po.bind fun ra e1 y H1 H' s rr po => ?_⟩
    obtain ⟨x, e2, H2, as2, ql, s2, rp2, hx, po⟩ := po.leak rr
    split at po
    · rename_i l q
      obtain ⟨hl, p', vs, e3, h3, h4, h5⟩ := rp2.lst q h1
      cases e3
      obtain ⟨pr, e4, po⟩ := po.ofO
      obtain ⟨d, l'⟩ := pr
      exact hr H2 H' p l vs x d y l' Q rp2.sub e4 hl h3 h4 hx fun z vs' hl' hd hz => po z H2 _ (Same.refl _) ⟨⟨as2, h5 l' vs' hl' hd⟩, hz⟩
    · exact po.elim
  · exact po.elim
theorem ss_sto {x : Str} (ho : PE X (.Name x p1) (tVar i)) (hk : SE X t W k mk) (hv : SE X t W v mv)
    (ha : ∀ v, assign (.Subscript (.Name x p1) k apos) X.env v = (do
      let ov ← holding [v] (eval (.Name x p1) X.env)
      let iv ← holding [v, ov] (eval k X.env)
      standAt apos
      holding [v, ov, iv] (setItem ov iv v)
      release [v, ov, iv] []) := by intro _; rfl) (hs : swapsWithSole [.Subscript (.Name x p1) k apos] v pos.line X.env = pure false := by rfl) (hw : swappedStores [.Subscript (.Name x p1) k apos] v X.env = pure none := by rfl)
    (h1 : (assignEach [.Subscript (.Name x p1) k apos] X.env).map (·.2) = [assign (.Subscript (.Name x p1) k apos) X.env] := by rfl) : SS X t W P (.Assign [.Subscript (.Name x p1) k apos] v pos) (sSto i mk mv) := by
  refine PS.imp (ps_asg hv (pg_sub ho hk set_list ha) hs hw h1) fun D σ H ⟨e, H0, Fr, as, rp, po⟩ => ?_
  refine ⟨e, H0, Fr, as, rp, PoS.of po fun r e1 y H1 H' s rr po => ?_⟩
  obtain ⟨d, e2, H2, as2, ql, s2, rp2, hd, po⟩ := PoS.leak po rr
  cases q0 : F.slot e2 i with
  | none =>
    rw [q0] at po
    exact po.elim
  | some o =>
    rw [q0] at po
    obtain ⟨w, hw, _⟩ := rp2.own i _ q0
    refine ⟨w, hw, e2, H2, Fr, as2, rp2, PoS.of po fun q e3 z H3 H'' s3 rr3 po => ?_⟩
    obtain ⟨j, q1, po⟩ := PoS.ofOS po
    obtain ⟨H4, as4, s4, rp4, hj⟩ := RpR.peek rr3 q1
    split at po
    · rename_i l j' q
      split at po
      · rename_i n qn
        obtain ⟨hl, p, vs, rfl, h3, h4, h5⟩ := rp4.lst q hw
        refine ⟨p, vs, j', n, rfl, hj, h3, by rw [h4.len]; exact qn, ?_⟩
        exact po σ H4 _ as4 s4 Prot.refl (h5 _ _ (by simpa using hl) (Dats.set (Dat.mono (s3.trans s4) _ _ hd) n h4))
      · exact po.elim
    · exact po.elim
end
/-! ### several answers, new things left as they are -/
section
variable {c : Cn} {H0 Fr H : Hp} {σ : St} {e : Env}
def RpO (c : Cn) (H0 Fr H : Hp) (σ : St) (e : Env) (vs : List V) (os : List O) : Prop := ∃ bs as, OwnRs c H0 H os vs bs ∧ bs.Nodup ∧ (∀ a ∈ bs, H0 a = none ∧ Fr a = none) ∧ Rp c H0 (addF Fr H bs) H σ e as
/-- the first goes to a name -/
theorem RpO.set {v : V} {vs : List V} {o : O} {os : List O} {i : Nat} (r : RpO c H0 Fr H σ e (v :: vs) (o :: os)) : RpO c H0 Fr H (σ.set i (some v)) (e.set i (some o)) vs os := by
  obtain ⟨bs, as, ⟨v', r', b1, b2, e1, e2, h1, h2⟩, nd, off, rp⟩ := r
  cases e1
  subst e2
  have hd : ∀ a ∈ b1, a ∉ b2 := fun a ha hb => by
    have := (List.nodup_append.mp nd).2.2 a ha a hb
    exact this rfl
  have r1 : Rp1 c H0 (addF Fr H b2) H σ e v o := by
    refine ⟨b1, as, h1, (List.nodup_append.mp nd).1, fun a ha => ⟨(off a (List.mem_append_left _ ha)).1, ?_⟩, ?_⟩
    · rw [addF_out (hd a ha)]
      exact (off a (List.mem_append_left _ ha)).2
    · have : addF (addF Fr H b2) H b1 = addF Fr H (b1 ++ b2) := by
        funext a
        by_cases z1 : a ∈ b1
        · rw [addF_in z1, addF_in (List.mem_append_left _ z1)]
        · rw [addF_out z1]
          by_cases z2 : a ∈ b2
          · rw [addF_in z2, addF_in (List.mem_append_right _ z2)]
          · rw [addF_out z2, addF_out (by simp [z1, z2])]
      rw [this]
      exact rp
  obtain ⟨as2, rp2⟩ := r1.set (i := i)
  exact ⟨b2, as2, h2, (List.nodup_append.mp nd).2.1, fun a ha => off a (List.mem_append_right _ ha), rp2⟩
end
section
variable {X : Cx} {t : Tb} {W : WX} {P : Nat → Bool} {a b : Expr} {es : List Expr} {ma mb : M R} {ms : List (M R)} {pos : Pos}
/-! ### built-ins by values -/
def Dats1 (c : Cn) (H0 H : Hp) : List D → List V → Prop
  | [], vs => vs = []
  | d :: ds, vs => ∃ v r, vs = v :: r ∧ Dat1 c H0 H d v ∧ Dats1 c H0 H ds r
theorem Kps.peeks {c : Cn} {H0 Fr H : Hp} {σ : St} {e : Env} {as : Nat → List Addr} (rp : Rp c H0 Fr H σ e as) : ∀ {vs : List V} {rs : List R} {ds : List D}, Kps c H0 σ vs rs → peeks rs e = some ds → Dats1 c H0 H ds vs
  | [], rs, ds, h, q => by
    have h : rs = [] := h
    subst h
    cases q
    rfl
  | v :: vs, rs, ds, ⟨r, qs, h1, h2, h3⟩, q => by
    subst h1
    have q : (match peek r e, F.peeks qs e with
      | some x, some xs => some (x :: xs)
      | _, _ => none) = some ds := q
    cases q1 : peek r e with
    | none =>
      rw [q1] at q
      cases q
    | some x =>
      cases q2 : F.peeks qs e with
      | none =>
        rw [q1, q2] at q
        cases q
      | some xs =>
        rw [q1, q2] at q
        cases q
        exact ⟨v, vs, rfl, h2.peek rp q1, Kps.peeks rp h3 q2⟩
def CB (c : Cn) (r : List V → Hp → VK → Prop) (f : List D → Option D) : Prop := ∀ (H0 H : Hp) (xs : List V) (ds : List D) (dz : D) (Q : VK), Same H0 H → f ds = some dz → Dats1 c H0 H ds xs → Out c H0 H dz Q → r xs H Q
theorem tI_bi {c : Cn} {r : List V → Hp → VK → Prop} {f : List D → Option D} (h : CB c r f) {σ : St} {H : Hp} {Q : VK} (q : tG t c W (rrR c) (mBi f ms) σ H Q) : tCB r (tG t c W (rrRs c) (mRs ms)) σ H Q := by
  obtain ⟨e, H0, Fr, as, rp, po⟩ := q
  refine ⟨e, H0, Fr, as, rp, po.bind fun rs e1 vs H1 H' s ⟨⟨as1, rp1⟩, ks⟩ po => ?_⟩
  obtain ⟨ds, q1, po⟩ := po.ofO
  obtain ⟨dz, q2, po⟩ := po.ofO
  exact h H1 H' vs ds dz Q rp1.sub q2 (ks.peeks rp1 q1) (po.out rp1)
end
end F
end

section
set_option Elab.async false
set_option linter.all false
set_option autoImplicit false
set_option maxRecDepth 100000
/-! F layer, part G: operations. -/
namespace F
open PySem PySem.Spec PyProof.Rows L2
section
variable {c : Cn}
theorem Out.of {H0 H : Hp} {d : D} {Q : VK} (h : Out c H0 H d Q) {z : V} (hz : Dat c H0 d z) : Q z H := h.1 z hz
theorem Out.int {H0 H : Hp} {i : Int} {Q : VK} (h : Out c H0 H (.int i) Q) : Q (.int i) H := h.1 _ rfl
theorem Out.bl {H0 H : Hp} {b : Bool} {Q : VK} (h : Out c H0 H (.bl b) Q) : Q (.bl b) H := h.1 _ rfl
theorem Out.str {H0 H : Hp} {x : List Nat} {Q : VK} (h : Out c H0 H (.str x) Q) (hl : x.length ≤ lim) : Q (.str (sS x)) H := h.1 _ ⟨rfl, hl⟩
theorem sS_len (x : List Nat) : (sS x).length = x.length := by simp [sS, Str.length]
theorem sS_app (x y : List Nat) : sS x ++ sS y = sS (x ++ y) := by
  show (⟨(sS x).cps ++ (sS y).cps⟩ : Str) = _
  simp [sS]
theorem sS_tl (x : List Nat) : (sS x).cps.toList = x := by simp [sS]
theorem sS_inj {x y : List Nat} : sS x = sS y ↔ x = y := by
  constructor
  · intro h
    have := congrArg (fun z : Str => z.cps.toList) h
    simpa [sS] using this
  · intro h; rw [h]
def rAddV : R2 := fun x y H Q => (rI0 (fun i j => .int (i + j)) x y H Q) ∨ (∃ i j, x = .str i ∧ y = .str j ∧ i.length + j.length ≤ sizeLine ∧ Q (.str (i ++ j)) H)
theorem op_addV {X : Cx} : OpR X (binaryOp .Add) rAddV := OpR.or op_add op_add_str
theorem v_add : VOp2 c rAddV addD := by
  intro H0 H x y dx dy dz Q s e hx hy o
  cases dx <;> cases dy <;> try cases e
  · cases hx
    cases hy
    exact .inl ⟨_, _, rfl, rfl, o.int⟩
  · rename_i a b
    obtain ⟨rfl, h1⟩ := hx
    obtain ⟨rfl, h2⟩ := hy
    have e : (if a.length + b.length ≤ lim then some (D.str (a ++ b)) else none) = some dz := e
    by_cases hl : a.length + b.length ≤ lim
    · rw [if_pos hl] at e
      cases e
      refine .inr ⟨_, _, rfl, rfl, by rw [sS_len, sS_len, sizeLine_lim]; exact hl, ?_⟩
      rw [sS_app]
      exact o.str (by simpa using hl)
    · rw [if_neg hl] at e
      cases e
theorem v_mul : VOp2 c (rI CMul fun i j => .int (i * j)) mulD := by
  intro H0 H x y dx dy dz Q s e hx hy o
  cases dx <;> cases dy <;> try cases e
  rename_i i j
  cases hx
  cases hy
  have e : (if mulOk i j = true then some (D.int (i * j)) else none) = some dz := e
  by_cases hm : mulOk i j = true
  · rw [if_pos hm] at e
    cases e
    refine ⟨_, _, rfl, rfl, ?_, o.int⟩
    unfold mulOk at hm
    simp only [Bool.or_eq_true, Bool.and_eq_true, decide_eq_true_eq] at hm
    unfold CMul
    omega
  · rw [if_neg hm] at e
    cases e
theorem v_mod : VOp2 c (rI (fun _ j => 0 < j) fun i j => .int (i % j)) modD := by
  intro H0 H x y dx dy dz Q s e hx hy o
  cases dx <;> cases dy <;> try cases e
  rename_i i j
  cases hx
  cases hy
  have e : (if 0 < j then some (D.int (i % j)) else none) = some dz := e
  by_cases hm : 0 < j
  · rw [if_pos hm] at e
    cases e
    exact ⟨_, _, rfl, rfl, hm, o.int⟩
  · rw [if_neg hm] at e
    cases e
theorem v_pow : VOp2 c (rI CPow fun i j => .int (i ^ j.toNat)) powD := by
  intro H0 H x y dx dy dz Q s e hx hy o
  cases dx <;> cases dy <;> try cases e
  rename_i i j
  cases hx
  cases hy
  have e : (if 0 ≤ j ∧ j ≤ 1000000 ∧ i.natAbs < 18446744073709551616 then some (D.int (i ^ j.toNat)) else none) = some dz := e
  by_cases hm : 0 ≤ j ∧ j ≤ 1000000 ∧ i.natAbs < 18446744073709551616
  · rw [if_pos hm] at e
    cases e
    exact ⟨_, _, rfl, rfl, ⟨hm.1, hm.2.1, by have := hm.2.2; omega⟩, o.int⟩
  · rw [if_neg hm] at e
    cases e
theorem v_neg : VOp1 c (rU fun i => .int (-i)) negD := by
  intro H0 H x dx dz Q s e hx o
  cases dx <;> try cases e
  cases hx
  exact ⟨_, rfl, o.int⟩
/-! ### order -/
def rLtV : R2 := fun x y H Q => (rI0 (fun i j => .bl (decide (i < j))) x y H Q) ∨ (∃ i j, x = .str i ∧ y = .str j ∧ Q (.bl (decide (i.cps.toList < j.cps.toList))) H)
theorem op_ltV {X : Cx} : OpR X (compareOp .Lt) rLtV := OpR.or op_lt op_lt_str
theorem v_lt : VOp2 c rLtV ltD := by
  intro H0 H x y dx dy dz Q s e hx hy o
  cases dx <;> cases dy <;> try cases e
  · cases hx
    cases hy
    exact .inl ⟨_, _, rfl, rfl, o.bl⟩
  · obtain ⟨rfl, h1⟩ := hx
    obtain ⟨rfl, h2⟩ := hy
    exact .inr ⟨_, _, rfl, rfl, by rw [sS_tl, sS_tl]; exact o.bl⟩
def rGtV : R2 := fun x y H Q => (rI0 (fun i j => .bl (decide (j < i))) x y H Q) ∨ (∃ i j, x = .str i ∧ y = .str j ∧ Q (.bl (decide (j.cps.toList < i.cps.toList))) H)
theorem op_gtV {X : Cx} : OpR X (compareOp .Gt) rGtV := OpR.or op_gt op_gt_str
theorem v_gt : VOp2 c rGtV gtD := by
  intro H0 H x y dx dy dz Q s e hx hy o
  cases dx <;> cases dy <;> try cases e
  · cases hx
    cases hy
    exact .inl ⟨_, _, rfl, rfl, o.bl⟩
  · obtain ⟨rfl, h1⟩ := hx
    obtain ⟨rfl, h2⟩ := hy
    exact .inr ⟨_, _, rfl, rfl, by rw [sS_tl, sS_tl]; exact o.bl⟩
theorem v_ge : VOp2 c (rI0 fun i j => .bl (decide (j ≤ i))) geD := by
  intro H0 H x y dx dy dz Q s e hx hy o
  cases dx <;> cases dy <;> try cases e
  cases hx
  cases hy
  exact ⟨_, _, rfl, rfl, o.bl⟩
/-! ### is None -/
/-! ### equality of plain data -/
mutual
def toP : D → PyData
  | .non => .none
  | .bl b => .bool b
  | .int i => .int i
  | .str x => .str (sS x)
  | .tup l => .tuple (toPs l)
  | .lst l => .list (toPs l)
  | .dct _ => .none
  | .obj _ _ => .none
  | .ex _ _ => .none
def toPs : List D → List PyData
  | [] => []
  | d :: ds => toP d :: toPs ds
end
mutual
theorem toP_plain : ∀ d : D, (toP d).plain = true
  | .non | .bl _ | .int _ | .str _ | .dct _ | .obj _ _ | .ex _ _ => rfl
  | .tup l => toPs_plain l
  | .lst l => toPs_plain l
theorem toPs_plain : ∀ l : List D, PyData.plainAll (toPs l) = true
  | [] => rfl
  | d :: ds => by
    show ((toP d).plain && PyData.plainAll (toPs ds)) = true
    rw [toP_plain d, toPs_plain ds]
    rfl
end
mutual
theorem toP_depth : ∀ d : D, (toP d).depth = d.dp
  | .non | .bl _ | .int _ | .str _ | .dct _ | .obj _ _ | .ex _ _ => rfl
  | .tup l => by
    show PyData.depthAll (toPs l) + 1 = dps l + 1
    rw [toPs_depth l]
  | .lst l => by
    show PyData.depthAll (toPs l) + 1 = dps l + 1
    rw [toPs_depth l]
theorem toPs_depth : ∀ l : List D, PyData.depthAll (toPs l) = dps l
  | [] => rfl
  | d :: ds => by
    show max (toP d).depth (PyData.depthAll (toPs ds)) = max d.dp (dps ds)
    rw [toP_depth d, toPs_depth ds]
end
mutual
theorem eqB_eqv : ∀ a b : D, a.pl = true → b.pl = true → PyData.eqv (toP a) (toP b) = eqB a b
  | a, .dct _, _, h => by cases h
  | a, .obj _ _, _, h => by cases h
  | a, .ex _ _, _, h => by cases h
  | .dct _, _, h, _ => by cases h
  | .obj _ _, _, h, _ => by cases h
  | .ex _ _, _, h, _ => by cases h
  | .non, .non, _, _ => rfl
  | .non, .bl _, _, _ => rfl
  | .non, .int _, _, _ => rfl
  | .non, .str _, _, _ => rfl
  | .non, .tup _, _, _ => rfl
  | .non, .lst _, _, _ => rfl
  | .bl _, .non, _, _ => rfl
  | .bl _, .bl _, _, _ => rfl
  | .bl _, .int _, _, _ => rfl
  | .bl _, .str _, _, _ => rfl
  | .bl _, .tup _, _, _ => rfl
  | .bl _, .lst _, _, _ => rfl
  | .int _, .non, _, _ => rfl
  | .int _, .bl _, _, _ => rfl
  | .int _, .int _, _, _ => rfl
  | .int _, .str _, _, _ => rfl
  | .int _, .tup _, _, _ => rfl
  | .int _, .lst _, _, _ => rfl
  | .str _, .non, _, _ => rfl
  | .str _, .bl _, _, _ => rfl
  | .str _, .int _, _, _ => rfl
  | .str x, .str y, _, _ => by
    show (sS x == sS y) = (x == y)
    by_cases h : x = y
    · subst h; simp
    · rw [beq_eq_false_iff_ne.mpr h, beq_eq_false_iff_ne.mpr fun z => h (sS_inj.mp z)]
  | .str _, .tup _, _, _ => rfl
  | .str _, .lst _, _, _ => rfl
  | .tup _, .non, _, _ => rfl
  | .tup _, .bl _, _, _ => rfl
  | .tup _, .int _, _, _ => rfl
  | .tup _, .str _, _, _ => rfl
  | .tup _, .lst _, _, _ => rfl
  | .tup l, .tup m, h, g => eqBs_eqv l m h g
  | .lst _, .non, _, _ => rfl
  | .lst _, .bl _, _, _ => rfl
  | .lst _, .int _, _, _ => rfl
  | .lst _, .str _, _, _ => rfl
  | .lst _, .tup _, _, _ => rfl
  | .lst l, .lst m, h, g => eqBs_eqv l m h g
theorem eqBs_eqv : ∀ l m : List D, pls l = true → pls m = true → PyData.eqvAll (toPs l) (toPs m) = eqBs l m
  | [], [], _, _ => rfl
  | [], _ :: _, _, _ => rfl
  | _ :: _, [], _, _ => rfl
  | a :: l, b :: m, h, g => by
    have h : (a.pl && pls l) = true := h
    have g : (b.pl && pls m) = true := g
    rw [Bool.and_eq_true] at h g
    show (PyData.eqv (toP a) (toP b) && PyData.eqvAll (toPs l) (toPs m)) = (eqB a b && eqBs l m)
    rw [eqB_eqv a b h.1 g.1, eqBs_eqv l m h.2 g.2]
end
mutual
theorem Dat.dp {H : Hp} : ∀ (d : D) (v : V), d.pl = true → Dat c H d v → Dp c.K H v (toP d)
  | .non, _, _, h => by cases h; exact .non
  | .bl _, _, _, h => by cases h; exact .bl _
  | .int _, _, _, h => by cases h; exact .int _
  | .str _, _, _, ⟨h, _⟩ => by cases h; exact .str _
  | .tup l, _, p, ⟨_, a, vs, h1, h2, h3⟩ => by cases h1; exact .tup h2 (Dats.dp l vs p h3)
  | .lst l, _, p, ⟨_, a, vs, h1, h2, h3⟩ => by cases h1; exact .lst h2 (Dats.dp l vs p h3)
  | .dct _, _, p, _ => by cases p
  | .obj _ _, _, p, _ => by cases p
  | .ex _ _, _, p, _ => by cases p
theorem Dats.dp {H : Hp} : ∀ (l : List D) (vs : List V), pls l = true → Dats c H l vs → DpAll c.K H vs (toPs l)
  | [], _, _, h => by
    have h : _ = _ := h
    subst h
    exact .nil
  | d :: ds, _, p, ⟨v, r, h1, h2, h3⟩ => by
    have p : (d.pl && pls ds) = true := p
    rw [Bool.and_eq_true] at p
    subst h1
    exact .cons (Dat.dp d v p.1 h2) (Dats.dp ds r p.2 h3)
end
def rEqP (K : PySem.W.Frag) : R2 := fun x y H Q => ∃ d e, Dp K H x d ∧ Dp K H y e ∧ d.plain = true ∧ e.plain = true ∧ min d.depth e.depth ≤ 50 ∧ Q (.bl (PyData.eqv d e)) H
def rNeP (K : PySem.W.Frag) : R2 := fun x y H Q => ∃ d e, Dp K H x d ∧ Dp K H y e ∧ d.plain = true ∧ e.plain = true ∧ min d.depth e.depth ≤ 50 ∧ Q (.bl (!PyData.eqv d e)) H
theorem op_eqP {X : Cx} (hu : X.A.units + 64 < cLine) : OpR X (compareOp .Eq) (rEqP X.K) := by
  intro pins s σ H x y v u Q I rx ry ⟨d, e, hd, he, pd, pe, hm, q⟩
  obtain ⟨as, r1⟩ := Dp.reads I d x v hd rx
  obtain ⟨bs, r2⟩ := Dp.reads I e y u he ry
  exact SeqAt.eq_plain r1 r2 pd pe (by omega) ⟨.bl _, H, I, rfl, q⟩
theorem op_neP {X : Cx} (hu : X.A.units + 64 < cLine) : OpR X (compareOp .NotEq) (rNeP X.K) := by
  intro pins s σ H x y v u Q I rx ry ⟨d, e, hd, he, pd, pe, hm, q⟩
  obtain ⟨as, r1⟩ := Dp.reads I d x v hd rx
  obtain ⟨bs, r2⟩ := Dp.reads I e y u he ry
  exact SeqAt.ne_plain r1 r2 pd pe (by omega) ⟨.bl _, H, I, rfl, q⟩
theorem cmpOk_of {a b : D} (h : cmpOk a b = true) : a.pl = true ∧ b.pl = true ∧ min (toP a).depth (toP b).depth ≤ 50 := by
  unfold cmpOk at h
  simp only [Bool.and_eq_true, Bool.or_eq_true, decide_eq_true_eq] at h
  obtain ⟨⟨h1, h2⟩, h3⟩ := h
  rw [toP_depth, toP_depth]
  exact ⟨h1, h2, by omega⟩
theorem v_eq : VOp2 c (rEqP c.K) eqD := by
  intro H0 H x y dx dy dz Q s e hx hy o
  unfold eqD at e
  split at e
  · rename_i h
    cases e
    obtain ⟨h1, h2, h3⟩ := cmpOk_of h
    exact ⟨_, _, Dat.dp _ _ h1 (hx.dat s), Dat.dp _ _ h2 (hy.dat s), toP_plain _, toP_plain _, h3, by rw [eqB_eqv _ _ h1 h2]; exact o.bl⟩
  · cases e
theorem v_ne : VOp2 c (rNeP c.K) neD := by
  intro H0 H x y dx dy dz Q s e hx hy o
  unfold neD at e
  split at e
  · rename_i h
    cases e
    obtain ⟨h1, h2, h3⟩ := cmpOk_of h
    exact ⟨_, _, Dat.dp _ _ h1 (hx.dat s), Dat.dp _ _ h2 (hy.dat s), toP_plain _, toP_plain _, h3, by rw [eqB_eqv _ _ h1 h2]; exact o.bl⟩
  · cases e
/-! ### in -/
/-! ### items -/
theorem atI_dats {H0 : Hp} {l : List D} {vs : List V} {i : Int} {d : D} (h : Dats c H0 l vs) (e : getI l i = some d) : ∃ v, atI vs i = some v ∧ Dat c H0 d v := by
  unfold getI at e
  unfold atI
  rw [h.len]
  cases q : ixI l.length i with
  | none =>
    rw [q] at e
    cases e
  | some j =>
    rw [q] at e
    have q2 : ixN l.length i = some j := q
    rw [q2]
    exact h.get (i := j) e
theorem v_ix : VOp2 c (rIx c.K) ixD := by
  intro H0 H x y dx dy dz Q s e hx hy o
  cases dx with
  | lst l =>
    cases dy with
    | int i =>
      obtain ⟨_, p, vs, rfl, h2, h3⟩ := hx
      cases hy
      obtain ⟨v, h4, h5⟩ := atI_dats h3 e
      exact .inl ⟨p, vs, i, v, rfl, rfl, h2, h4, o.of h5⟩
    | _ => cases e
  | tup l =>
    cases dy with
    | int i =>
      obtain ⟨_, p, vs, rfl, h2, h3⟩ := hx
      cases hy
      obtain ⟨v, h4, h5⟩ := atI_dats h3 e
      exact .inr (.inl ⟨p, vs, i, v, rfl, rfl, h2, h4, o.of h5⟩)
    | _ => cases e
  | str z =>
    cases dy with
    | int i =>
      obtain ⟨rfl, hl⟩ := hx
      cases hy
      have e : (getI z i).map (fun k => D.str [k]) = some dz := e
      cases q : getI z i with
      | none =>
        rw [q] at e
        cases e
      | some k =>
        rw [q] at e
        cases e
        refine .inr (.inr ⟨sS z, i, k, rfl, rfl, by rw [sS_len, sizeLine_lim]; exact hl, by rw [sS_tl]; exact q, ?_⟩)
        exact o.of (z := .str ⟨#[k]⟩) ⟨rfl, by simp [lim]⟩
    | _ => cases e
  | _ => cases dy <;> cases e
end
end F
end

section
set_option Elab.async false
set_option linter.all false
set_option autoImplicit false
set_option maxRecDepth 100000
/-! F layer, part H: defs, built-ins, methods, what is walked, match. -/
namespace F
open PySem PySem.Spec PyProof.Rows L2
/-! ### a def keeps its promise -/
theorem mergeO_eq : ∀ {os os' : List O}, os'.length = os.length → (mergeO os os').length = os.length
  | [], [], _ => rfl
  | [], _ :: _, h => by simp at h
  | o :: os, [], h => by simp at h
  | o :: os, o' :: os', h => by
    have := mergeO_eq (os := os) (os' := os') (by simpa using h)
    cases o <;> simp [mergeO, this]
theorem mergeO_get : ∀ {os os' : List O} {i : Nat} {o : O}, (mergeO os os')[i]? = some o → (∃ d, os[i]? = some (.sh d) ∧ o = .sh d) ∨ (os'[i]? = some o ∧ ∃ o1, os[i]? = some o1 ∧ ∀ d, o1 ≠ .sh d)
  | [], _, i, o, h => by simp [mergeO] at h
  | .sh d :: os, [], i, o, h => by simp [mergeO] at h
  | .fl _ :: os, [], i, o, h => by simp [mergeO] at h
  | .fd _ :: os, [], i, o, h => by simp [mergeO] at h
  | .fo _ _ :: os, [], i, o, h => by simp [mergeO] at h
  | o1 :: os, o2 :: os', 0, o, h => by
    cases o1 with
    | sh d =>
      simp [mergeO] at h
      exact .inl ⟨d, rfl, h.symm⟩
    | fl l =>
      simp [mergeO] at h
      exact .inr ⟨by simp [h], _, rfl, fun d z => by cases z⟩
    | fd l =>
      simp [mergeO] at h
      exact .inr ⟨by simp [h], _, rfl, fun d z => by cases z⟩
    | fo k l =>
      simp [mergeO] at h
      exact .inr ⟨by simp [h], _, rfl, fun d z => by cases z⟩
  | o1 :: os, o2 :: os', i + 1, o, h => by
    have : (mergeO os os')[i]? = some o := by
      cases o1 <;> simpa [mergeO] using h
    simpa using mergeO_get this
theorem endF_get {n : Nat} {e : Env} {os' : List O} (h : endF n e = some os') : os'.length = min n e.length ∧ ∀ (i : Nat) (o : O), os'[i]? = some o → slot e i = some o := by
  unfold endF at h
  have key : ∀ {l : List (Option O)} {os' : List O}, allO l = some os' → os'.length = l.length ∧ ∀ (i : Nat) (o : O), os'[i]? = some o → l[i]? = some (some o) := by
    intro l
    induction l with
    | nil =>
      intro os' h
      cases h
      simp
    | cons x l ih =>
      intro os' h
      cases x with
      | none => cases h
      | some a =>
        have h : (allO l).map (a :: ·) = some os' := h
        cases q : allO l with
        | none =>
          rw [q] at h
          cases h
        | some b =>
          rw [q] at h
          cases h
          obtain ⟨h1, h2⟩ := ih q
          refine ⟨by simp [h1], fun i o q => ?_⟩
          cases i with
          | zero => simpa using q
          | succ i => simpa using h2 i o (by simpa using q)
  obtain ⟨h1, h2⟩ := key h
  refine ⟨by rw [h1, List.length_take], fun i o q => ?_⟩
  have := h2 i o q
  rw [List.getElem?_take] at this
  split at this
  · unfold slot
    rw [this]
  · cases this
def asB (os : List O) (as' : Nat → List Addr) (i : Nat) : List Addr := match os[i]? with
  | some (.sh _) => []
  | some _ => as' i
  | none => []
/-- the arguments' things behind the body -/
theorem args_back {c : Cn} {H0 H1 Fr Fr2 H H' : Hp} {vs : List V} {os os' : List O} {n : Nat} {σ' : St} {e : Env} {as as' : Nat → List Addr} (rp0 : Rp c H0 Fr H (vs.map some) (os.map some) as) (hn : vs.length = n) (s : Same H0 H1)
    (hp : ∀ (i : Nat) (o : O), os[i]? = some o → (∀ d, o ≠ .sh d) → σ'[i]? = (vs.map some)[i]?) (r : Rp c H1 Fr2 H' σ' e as') (he : endF n e = some os') (hl : n ≤ e.length) :
    ∃ as2, Rp c H1 Fr2 H' (vs.map some) ((mergeO os os').map some) as2 := by
  obtain ⟨h1, h2⟩ := endF_get he
  have hos : os.length = n := by
    have := rp0.len
    simpa [hn] using this
  have hos' : os'.length = os.length := by omega
  have hm := mergeO_eq hos'
  -- shared arguments: from the start; the others: from the end
  have own : ∀ i o, slot ((mergeO os os').map some) i = some o → (∃ d, os[i]? = some (.sh d) ∧ o = .sh d) ∨ (slot e i = some o ∧ σ'[i]? = (vs.map some)[i]? ∧ ∀ d, os[i]? ≠ some (.sh d)) := fun i o q => by
    have q2 : (mergeO os os')[i]? = some o := by
      unfold slot at q
      rw [List.getElem?_map] at q
      cases z : (mergeO os os')[i]? with
      | none => rw [z] at q; cases q
      | some x => rw [z] at q; simpa using q
    rcases mergeO_get q2 with z | ⟨z1, o1, z2, z3⟩
    · exact .inl z
    · refine .inr ⟨h2 i o z1, hp i o1 z2 z3, fun d z => ?_⟩
      rw [z2] at z
      exact z3 d (by simpa using z)
  refine ⟨asB os as', by simp [hm, hos, hn], r.sub, r.fr, fun i o q => ?_, fun i a ha => ?_, fun i j a ha hj => ?_, fun i => ?_, fun i q => ?_, r.tab.sub fun i a z => ⟨i, by
    unfold asB at z
    split at z
    · cases z
    · exact z
    · cases z⟩⟩
  · rcases own i o q with ⟨d, z1, rfl⟩ | ⟨z1, z2, z3⟩
    · obtain ⟨v, g1, g2⟩ := rp0.own i (.sh d) (by unfold slot; rw [List.getElem?_map, z1]; rfl)
      exact ⟨v, g1, by unfold asB; rw [z1]; exact ⟨rfl, Dat.mono s _ _ g2.2⟩⟩
    · obtain ⟨v, g1, g2⟩ := r.own i o z1
      refine ⟨v, by rw [← z2]; exact g1, ?_⟩
      unfold asB
      cases z : os[i]? with
      | none =>
        have hlt := slot_lt q
        have : i < os.length := by simpa [hm] using hlt
        rw [List.getElem?_eq_none_iff] at z
        omega
      | some o1 =>
        cases o1 with
        | sh d => exact absurd z (z3 d)
        | fl l => exact g2
        | fd l => exact g2
        | fo k l => exact g2
  · unfold asB at ha
    split at ha
    · cases ha
    · exact r.off i a ha
    · cases ha
  · unfold asB at ha hj
    split at ha
    · cases ha
    · split at hj
      · cases hj
      · exact r.sep i j a ha hj
      · cases hj
    · cases ha
  · unfold asB
    split
    · exact List.nodup_nil
    · exact r.nd i
    · exact List.nodup_nil
  · have q2 : (mergeO os os')[i]? = none := by
      unfold slot at q
      rw [List.getElem?_map] at q
      cases z : (mergeO os os')[i]? with
      | none => rfl
      | some x => rw [z] at q; cases q
    have : os[i]? = none := by
      rw [List.getElem?_eq_none_iff] at q2 ⊢
      omega
    unfold asB
    rw [this]
section
variable {P : Program} {w : World} {K : PySem.W.Frag} {mg : Str → Option Value} {base : Heap} {t : Tb}
theorem gdO_get : ∀ {pr : Nat → Bool} {os : List O} {j i : Nat} {o : O}, gdO pr j os = true → os[i]? = some o → (∀ d, o ≠ .sh d) → pr (j + i) = true
  | pr, [], j, i, o, h, q, _ => by simp at q
  | pr, o1 :: os, j, 0, o, h, q, z => by
    simp at q
    subst q
    cases o1 with
    | sh d => exact absurd rfl (z d)
    | fl l => exact (Bool.and_eq_true_iff.mp (show (pr j && gdO pr (j + 1) os) = true from h)).1
    | fd l => exact (Bool.and_eq_true_iff.mp (show (pr j && gdO pr (j + 1) os) = true from h)).1
    | fo k l => exact (Bool.and_eq_true_iff.mp (show (pr j && gdO pr (j + 1) os) = true from h)).1
  | pr, o1 :: os, j, i + 1, o, h, q, z => by
    have h2 : gdO pr (j + 1) os = true := by
      cases o1 with
      | sh d => exact h
      | fl l => exact (Bool.and_eq_true_iff.mp (show (pr j && gdO pr (j + 1) os) = true from h)).2
      | fd l => exact (Bool.and_eq_true_iff.mp (show (pr j && gdO pr (j + 1) os) = true from h)).2
      | fo k l => exact (Bool.and_eq_true_iff.mp (show (pr j && gdO pr (j + 1) os) = true from h)).2
    have := gdO_get (i := i) h2 (by simpa using q) z
    rw [show j + (i + 1) = j + 1 + i by omega]
    exact this
theorem Rp.pad {c : Cn} {H0 Fr H : Hp} {σ : St} {e : Env} {as : Nat → List Addr} (r : Rp c H0 Fr H σ e as) (j : Nat) : ∃ as', Rp c H0 Fr H (σ ++ List.replicate j none) (e ++ List.replicate j none) as' := by
  refine r.re (by simp [r.len]) id (fun i o q => ?_) (fun i j _ _ _ _ h => h)
  by_cases hi : i < e.length
  · rw [slot_app_l hi] at q
    exact ⟨q, by rw [id, get_app_l (by rw [← r.len]; exact hi)]⟩
  · obtain ⟨k, rfl⟩ : ∃ k, i = e.length + k := ⟨i - e.length, by omega⟩
    rw [slot_app_r] at q
    unfold slot at q
    split at q
    · rename_i z
      have := List.mem_of_getElem? z
      simp at this
    · cases q
/-- a def of the text, its code object known, where nothing is being shown -/
theorem okC {x qual : Str} {params : Arguments} {body : List Stmt} {scope : Scope} {dvs : List V} {kws : List (Str × V)} {f : Addr} {fd : FuncData} {CX : CXT} {N ps : List Str} {k : Nat} {sp : Sp} (F : FunD K x qual params body scope dvs kws f fd) (S : FnScope N ps scope) (len : ∀ vs H Q E, sp vs H Q E → vs.length = ps.length)
    (hb : ∀ (cdv : Value) (A : Around) (outer : List PySem.Env) (s : Shared) (H : Hp) (vs : List V) (Q : VK) (E : XK), cdv = fd.code → PySem.W.codeIn K cdv qual = true → Room k (A.deeper (envOfC qual scope s.heap.objs.size f cdv)) → (A.deeper (envOfC qual scope s.heap.objs.size f cdv)).guards = some [] → sp vs H Q E →
      ∃ t, PSs (cxOf CX P w K mg base N qual scope f cdv A outer s H E) body t ∧ t { nx := fun _ H' => Q .non H', rt := Q } (start N vs) H) : FnQ P w K mg base CX (k + 1) f fd ps sp := by
  obtain ⟨oc, od, dV, kV, doc, pm, an, cdv, ct, osl, rfl, lk, hcd, _, _⟩ := F.ex
  refine ⟨len, fun B out st H ar us vs Q E hr hu e0 bnd rel asked => ?_⟩
  have hl := len _ _ _ _ asked
  have inK : K.In st.heap := e0.mod.kin.keeps fun a o e => (e0.bs a o e).1
  have noL : st.heap.NoLimit := e0.mod.nolimit.keeps fun a o e => (e0.bs a o e).1
  have kinds : ∀ y ∈ ps.zip us, scope.names.lookup y.1 = some .local ∨ (scope.names.lookup y.1 = some .cell ∧ ((cellsFrom (st.heap.objs.size + 1) scope.names []).lookup y.1).isSome = true) := by
    rintro ⟨n, v⟩ hy
    exact (S.par n (List.of_mem_zip hy).1).imp id fun c => ⟨c, PySem.W.cellsFrom_some _ _ _ (.inl c)⟩
  refine codeAny_call_function hr.depth (inK _ _ lk) rfl S.co S.gen rfl (PySem.W.codeRec_of inK hcd) (bnd _ _ _ _ (wpAny_newFunctionEnv_cells S.kind kinds fun en he s1 x => ?_))
  subst he
  refine ⟨noL.keeps x.toInCall.keep, codeAny_func ?_⟩
  obtain ⟨t, ht, hq⟩ := hb cdv B out st H vs Q E rfl hcd (hr.deeper _) (by exact hu) asked
  refine wpAny_mono (ht.run [] s1 (start N vs) H _ (inv_start S hr.hd e0 hl rel x) hq) (fun fl s2 got => ?_) fun _ _ got => got
  match fl, got with
  | .ret u, ⟨v, σ2, H2, J, rv, q⟩ => exact ⟨v, H2, J.os, J.bare, J.base, J.hok, rv, q⟩
  | .next, ⟨σ2, H2, J, q⟩ => exact ⟨.non, H2, J.os, J.bare, J.base, J.hok, rfl, q⟩
  | .brk, ⟨_, _, _, q⟩ => exact q.elim
  | .cont, ⟨_, _, _, q⟩ => exact q.elim
/-- a promise as what the body's plain function must do -/
theorem fn_read {c : Cn} {pr : Nat → Bool} {n j : Nat} {m : MS} {Z : Fn} {vs : List V} {H : Hp} {Q : VK} {E : XK} (hZ : ∀ os, Z os ≠ .bad → Z os = runF pr n j m os) (hsp : spF t c Z n vs H Q E) :
    tS t c (fun cls d _ H => E cls d H) pr m { nx := fun _ H' => Q .non H', rt := Q } (vs.map some ++ List.replicate j none) H := by
  obtain ⟨hvs, os, H0, Fr, as, rp, hm⟩ := hsp
  obtain ⟨as1, rp1⟩ := rp.pad j
  refine ⟨_, H0, Fr, as1, rp1, ?_⟩
  have hne : Z os ≠ .bad := fun z => by
    rw [z] at hm
    exact hm
  rw [hZ os hne] at hm
  unfold runF at hm
  by_cases hg : gdO pr 0 os = true
  case neg =>
    rw [if_neg hg] at hm
    exact hm.elim
  rw [if_pos hg] at hm
  have prot : ∀ {σ' : St}, Prot pr (vs.map some ++ List.replicate j none) σ' → ∀ (i : Nat) (o : O), os[i]? = some o → (∀ d, o ≠ .sh d) → σ'[i]? = (vs.map some)[i]? := fun {σ'} p i o q z => by
    have hlt : i < (vs.map some).length := by
      have h1 := (List.getElem?_eq_some_iff.mp q).1
      have h2 := rp.len
      simp at h2 ⊢
      omega
    have h1 := gdO_get hg q z
    rw [Nat.zero_add] at h1
    rw [p.2 i h1, get_app_l hlt]
  have elen : ∀ {σ' : St} {H1 Fr' H' : Hp} {e : Env} {as' : Nat → List Addr}, Prot pr (vs.map some ++ List.replicate j none) σ' → Rp c H1 Fr' H' σ' e as' → n ≤ e.length := fun p r => by
    rw [r.len, p.1]
    simp [hvs]
  cases q : m (os.map some ++ List.replicate j none) with
  | bad =>
    rw [q] at hm
    exact hm
  | bk e =>
    rw [q] at hm
    exact hm.elim
  | ct e =>
    rw [q] at hm
    exact hm.elim
  | nx e =>
    rw [q] at hm
    cases z : endF n e with
    | none =>
      simp only [finR, z] at hm
    | some os' =>
      simp only [finR, z] at hm
      intro σ' H1 H' as' s1 p r
      obtain ⟨as2, r2⟩ := args_back rp hvs s1 (prot p) r z (elen p r)
      exact hm .non H1 H' s1 (r2.sh1 rfl)
  | rt o e =>
    rw [q] at hm
    cases z : endF n e with
    | none =>
      simp only [finR, z] at hm
    | some os' =>
      simp only [finR, z] at hm
      intro v σ' H1 H' s1 p ⟨bs, as', ow, nd, off, r⟩
      -- the frame with the result's own objects
      have rp2 : Rp c H0 Fr H (vs.map some) (os.map some) as := rp
      obtain ⟨as2, r2⟩ := args_back rp hvs s1 (prot p) r z (elen p r)
      exact hm v H1 H' s1 ⟨bs, as2, ow, nd, off, r2⟩
  | ex k' p' e =>
    rw [q] at hm
    cases z : endF n e with
    | none =>
      simp only [finR, z] at hm
    | some os' =>
      simp only [finR, z] at hm
      intro σ' H1 H' as' cls dx s1 p r xa
      obtain ⟨as2, r2⟩ := args_back rp hvs s1 (prot p) r z (elen p r)
      exact hm H1 H' as2 cls dx s1 r2 xa
/-- THE RULE for a def: its body as a plain function; pr: the parameters whose things it may be lent (never stored to); Z: what it does, told where it is asked -/
theorem fn_F {x qual : Str} {params : Arguments} {body : List Stmt} {scope : Scope} {dvs : List V} {kws : List (Str × V)} {f : Addr} {fd : FuncData} {N ps : List Str} {k n j : Nat} {m : MS} (F : FunD K x qual params body scope dvs kws f fd) (S : FnScope N ps scope) (pr : Nat → Bool) (hn : ps.length = n) (hN : N.length = n + j) (Z : Fn)
    (hZ : ∀ os, Z os ≠ .bad → Z os = runF pr n j m os)
    (hb : ∀ (cdv : Value) (A : Around) (outer : List PySem.Env) (s : Shared) (H : Hp) (E : XK), cdv = fd.code → PySem.W.codeIn K cdv qual = true → Room k (A.deeper (envOfC qual scope s.heap.objs.size f cdv)) → (A.deeper (envOfC qual scope s.heap.objs.size f cdv)).guards = some [] →
      SSs (cxOf (L2.CX P w) P w K mg base N qual scope f cdv A outer s H E) t (fun cls d _ H => E cls d H) pr body m) : FO P w K mg base t (k + 1) f fd ps Z n := by
  refine okC F S (fun vs H Q E h => by rw [h.1, hn]) fun cdv A outer s H vs Q E hc hci hr hu hsp => ⟨_, hb cdv A outer s H E hc hci hr hu, ?_⟩
  have hst : L2.start N vs = vs.map some ++ List.replicate j none := by
    unfold L2.start
    rw [hN, hsp.1, Nat.add_sub_cancel_left]
  rw [hst]
  exact fn_read hZ hsp
end
end F
end

section
set_option Elab.async false
set_option linter.all false
set_option autoImplicit false
set_option maxRecDepth 100000
/-! F layer, part I: built-ins, methods, what is walked, match. -/
namespace F
open PySem PySem.Spec PyProof.Rows L2
section
variable {X : Cx} {t : Tb} {W : WX} {a b : Expr} {es : List Expr} {ma mb : M R} {ms : List (M R)} {pos p : Pos} {x : Str} {id : String}
/-! ### built-ins by values -/
theorem se_bi {r : List V → Hp → VK → Prop} {f : List D → Option D} (hc : CallR X (.builtin id) r) (h : CB (cn X t) r f) (hg : Gl X x) (hm : X.mg x = none) (hv : bootBuiltins x = some (.builtin id)) (ha : SA X t W (a :: es) (mRs ms)) (hn : x ≠ "__name__" := by decide) (hdb : (x == ("__debug__" : Str)) = false := by decide)
    (he : starEach (a :: es) X.env = (false, eval a X.env) :: starEach es X.env := by rfl) (hpl : (backTo pos (starEach es X.env)).any (·.1) = false := by rfl) : SE X t W (.Call (.Name x p) (a :: es) [] pos) (mBi f ms) :=
  PE.imp (pe_callB hc hg hm hv ha hn hdb he hpl) fun _ _ _ q => tI_bi h q
theorem se_ti {r : List V → Hp → VK → Prop} {f : List D → Option D} (hc : CallR X (.type id) r) (h : CB (cn X t) r f) (hg : Gl X x) (hm : X.mg x = none) (hv : bootBuiltins x = some (.type id)) (ha : SA X t W (a :: es) (mRs ms)) (hn : x ≠ "__name__" := by decide) (hdb : (x == ("__debug__" : Str)) = false := by decide)
    (he : starEach (a :: es) X.env = (false, eval a X.env) :: starEach es X.env := by rfl) (hpl : (backTo pos (starEach es X.env)).any (·.1) = false := by rfl) : SE X t W (.Call (.Name x p) (a :: es) [] pos) (mBi f ms) :=
  PE.imp (pe_callTy hc hg hm hv ha hn hdb he hpl) fun _ _ _ q => tI_bi h q
end
section
variable {c : Cn}
theorem Dats1.one {H0 H : Hp} {d : D} {vs : List V} (h : Dats1 c H0 H [d] vs) : ∃ v, vs = [v] ∧ Dat1 c H0 H d v := by
  obtain ⟨v, r, h1, h2, h3⟩ := h
  have h3 : r = [] := h3
  subst h3
  exact ⟨v, h1, h2⟩
theorem Dats1.two {H0 H : Hp} {d e : D} {vs : List V} (h : Dats1 c H0 H [d, e] vs) : ∃ v w, vs = [v, w] ∧ Dat1 c H0 H d v ∧ Dat1 c H0 H e w := by
  obtain ⟨v, r, h1, h2, h3⟩ := h
  obtain ⟨w, h4, h5⟩ := Dats1.one h3
  subst h4
  exact ⟨v, w, h1, h2, h5⟩
def rLenV (K : PySem.W.Frag) : List V → Hp → VK → Prop := fun xs H Q => (∃ p ys, xs = [.ref p] ∧ (SqL K H p ys ∨ SqT K H p ys) ∧ Q (.int ys.length) H) ∨ ∃ z, xs = [.str z] ∧ z.length ≤ sizeLine ∧ Q (.int z.length) H
theorem call_lenV {X : Cx} : CallR X (.builtin "len") (rLenV X.K) := CallR.or call_len_seq call_len_str
theorem b_len : CB c (rLenV c.K) lenD := by
  intro H0 H xs ds dz Q s e h o
  match ds, e with
  | [.str x], e =>
    cases e
    obtain ⟨v, rfl, rfl, hl⟩ := h.one
    exact .inr ⟨sS x, rfl, by rw [sS_len, sizeLine_lim]; exact hl, by rw [sS_len]; exact o.int⟩
  | [.lst l], e =>
    cases e
    obtain ⟨v, rfl, hl, q, vs, rfl, h2, h3⟩ := h.one
    exact .inl ⟨q, vs, rfl, .inl h2, by rw [h3.len]; exact o.int⟩
  | [.tup l], e =>
    cases e
    obtain ⟨v, rfl, hl, q, vs, rfl, h2, h3⟩ := h.one
    exact .inl ⟨q, vs, rfl, .inr h2, by rw [h3.len]; exact o.int⟩
def rInt1 : List V → Hp → VK → Prop := fun xs H Q => (∃ i, xs = [.int i] ∧ Q (.int i) H) ∨ ∃ k, xs = [.bl k] ∧ Q (.int (if k then 1 else 0)) H
theorem b_int : CB c rInt1 intD := by
  intro H0 H xs ds dz Q s e h o
  match ds, e with
  | [.int i], e =>
    cases e
    obtain ⟨v, rfl, h1⟩ := h.one
    cases h1
    exact .inl ⟨i, rfl, o.int⟩
  | [.bl b], e =>
    cases e
    obtain ⟨v, rfl, h1⟩ := h.one
    cases h1
    exact .inr ⟨b, rfl, o.int⟩
theorem b_abs : CB c (fun xs H Q => ∃ i, xs = [.int i] ∧ Q (.int (if i < 0 then -i else i)) H) absD := by
  intro H0 H xs ds dz Q s e h o
  match ds, e with
  | [.int i], e =>
    cases e
    obtain ⟨v, rfl, h1⟩ := h.one
    cases h1
    exact ⟨i, rfl, o.int⟩
theorem b_max2 : CB c (fun xs H Q => ∃ i j, xs = [.int i, .int j] ∧ Q (.int (if j > i then j else i)) H) max2D := by
  intro H0 H xs ds dz Q s e h o
  match ds, e with
  | [.int i, .int j], e =>
    cases e
    obtain ⟨v, w, rfl, h1, h2⟩ := h.two
    cases h1
    cases h2
    exact ⟨i, j, rfl, o.int⟩
theorem b_min2 : CB c (fun xs H Q => ∃ i j, xs = [.int i, .int j] ∧ Q (.int (if j < i then j else i)) H) min2D := by
  intro H0 H xs ds dz Q s e h o
  match ds, e with
  | [.int i, .int j], e =>
    cases e
    obtain ⟨v, w, rfl, h1, h2⟩ := h.two
    cases h1
    cases h2
    exact ⟨i, j, rfl, o.int⟩
end
section
variable {X : Cx} {pins : List (Addr × Obj)} {σ : St} {H : Hp} {s : Shared} {p : Addr} {xs : List V}
theorem sq_lst (I : Inv X pins σ H s) (h : SqL X.K H p xs) : ∃ (its : List Value) (n : Nat) (sl : Array (Option Value)), xs.length ≤ sizeLine ∧ Vals xs its ∧ xs.length = its.length ∧ s.heap.get? p = some ⟨.type "list", none, .seq its.toArray n, sl⟩ := by
  obtain ⟨its, r, ⟨⟨oc, od, dt, sl⟩, n, e, hc, hd, hs⟩, hz⟩ := I.list h
  simp only at hc hd hs
  subst hc hd hs
  exact ⟨its, n, sl, hz, r, r.length, e⟩
end
/-- xs + ys of lists -/
def rCatR (K : PySem.W.Frag) : R2 := fun x y H Q => ∃ l b xs zs, x = .ref l ∧ y = .ref b ∧ SqL K H l xs ∧ SqL K H b zs ∧ xs.length + zs.length ≤ sizeLine ∧ ∀ p, H p = none → Q (.ref p) (upd H p (.lst (xs ++ zs)))
theorem op_catR {X : Cx} : OpR X (binaryOp .Add) (rCatR X.K) := by
  rintro pins s σ H x y v u Q I rx ry ⟨l, b, xs, zs, e1, e2, hl, hb, few, q⟩
  subst e1 e2
  cases rx
  cases ry
  have ⟨is1, n1, sl1, _, r1, len1, at_l⟩ := sq_lst I hl
  have ⟨is2, n2, sl2, _, r2, len2, at_b⟩ := sq_lst I hb
  have both : is1.toArray ++ is2.toArray = (is1 ++ is2).toArray := List.append_toArray ..
  have size : is1.toArray.size + is2.toArray.size ≤ sizeLine := by
    rw [List.size_toArray, List.size_toArray, ← len1, ← len2]
    exact few
  have adds := list_addW l b is1.toArray is2.toArray n1 n2 none none sl1 sl2 size
  refine concat_meets ⟨_, at_l, rfl⟩ ⟨_, at_b, rfl⟩ noFill_list_add seq_list_add PySem.F.slot_list_add PySem.F.entry_list_add (PySem.F.args_list_add_2 _ _) adds ⟨at_l, at_b, ?_⟩
  rw [both]
  refine ⟨.ref _, _, I.lnew (r1.append r2) ?_, rfl, q _ I.fresh⟩
  rw [List.length_append]
  exact few
theorem v_cat {c : Cn} : LOp2 c (rCatR c.K) catL := by
  intro H0 H x y dx dy l Q s e hx hy nl
  match dx, dy, e with
  | .lst a, .lst b, e =>
    obtain ⟨h1, p1, vs, rfl, h2, h3⟩ := hx
    obtain ⟨g1, p2, ws, rfl, g2, g3⟩ := hy
    have e : (if a.length + b.length ≤ lim then some (a ++ b) else none) = some l := e
    by_cases hl : a.length + b.length ≤ lim
    · rw [if_pos hl] at e
      cases e
      refine ⟨p1, p2, vs, ws, rfl, rfl, h2, g2, by rw [h3.len, g3.len, sizeLine_lim]; exact hl, fun p hp => nl p _ hp (by simpa using hl) (Dats.app h3 g3)⟩
    · rw [if_neg hl] at e
      cases e
/-! ### a name's own list -/
section
variable {c : Cn}
theorem m_app : MOp1 c rAppend appF := by
  intro H0 H p l vs x d y l' Q s e hl hp hv hy q
  have e : (if l.length < lim then some (D.non, l ++ [x]) else none) = some (d, l') := e
  split at e
  · cases e
    rename_i h
    exact ⟨p, vs, y, rfl, rfl, hp, by rw [hv.len, sizeLine_lim]; exact h, q _ _ (by simp; omega) (Dats.app hv (Dats.one hy)) rfl⟩
  · cases e
end
end F
end

section
set_option Elab.async false
set_option linter.all false
set_option autoImplicit false
set_option maxRecDepth 100000
/-! F layer, part J: what is walked. -/
namespace F
open PySem PySem.Spec PyProof.Rows L2
/-! ### enumerate over a text -/
/-! ### what is walked -/
theorem same_upd {H : Hp} {p : Addr} {o : HO} (h : H p = none) : Same H (upd H p o) := fun b u e => by
  by_cases z : b = p
  · rw [z, h] at e; cases e
  · rw [upd_ne z]; exact e

section
variable {X : Cx} {t : Tb} {W : WX} {a : Expr} {ma : M R} {tg : Expr} {pos p : Pos}
def ItOp (c : Cn) (u : V → Hp → (It → Hp → Prop) → Prop) (f : D → Option (List D)) : Prop := ∀ (H0 H : Hp) (x : V) (dx : D) (l : List D) (Rr : It → Hp → Prop), Same H0 H → f dx = some l → Dat c H0 dx x → (∀ J, WkD c H0 J l → Rr J H) → u x H Rr
theorem tI_it {u : V → Hp → (It → Hp → Prop) → Prop} {f : D → Option (List D)} (h : ItOp (cn X t) u f) {σ : St} {H : Hp} {Rr : It → Hp → Prop} (q : tIt t (cn X t) W (mIt f ma) σ H Rr) : tI X t W ma σ H fun x H1 => u x H1 Rr := by
  obtain ⟨e, H0, Fr, as, rp, po⟩ := q
  refine ⟨e, H0, Fr, as, rp, Po.bind (f := fun r e1 => andThen (leak r e1) fun d e2 => ofO (f d) fun l => .ok l e2) po fun ra e1 v H1 H' s rr po => ?_⟩
  obtain ⟨d, e2, H2, as, q, s2, rp, hd, po⟩ := po.leak rr
  obtain ⟨l, e3, po⟩ := po.ofO
  exact h H2 H' v d l Rr rp.sub e3 hd fun J wk => po.ret (Same.refl _) ⟨⟨as, rp⟩, wk⟩
/-- the one argument of a call -/
theorem tI_it1 {u : List V → Hp → (It → Hp → Prop) → Prop} {f : D → Option (List D)} (h : ItOp (cn X t) (fun x H Rr => u [x] H Rr) f) {σ : St} {H : Hp} {Rr : It → Hp → Prop} (q : tIt t (cn X t) W (mIt f ma) σ H Rr) :
    tG t (cn X t) W (rrDs (cn X t)) (mLks [ma]) σ H fun vs H1 => u vs H1 Rr := by
  obtain ⟨e, H0, Fr, as, rp, po⟩ := q
  refine ⟨e, H0, Fr, as, rp, ?_⟩
  have po : Po t (cn X t) W Fr σ H0 _ Rr (andThen (ma e) fun r e1 => andThen (leak r e1) fun d e2 => ofO (f d) fun l => .ok l e2) := po
  have go : Po t (cn X t) W Fr σ H0 (rrDs (cn X t) Fr σ) (fun vs H1 => u vs H1 Rr) (andThen (ma e) fun r e1 => andThen (leak r e1) fun d e2 => .ok [d] e2) := by
    cases q0 : ma e with
    | ok ra e1 =>
      rw [q0] at po
      have po : Po t (cn X t) W Fr σ H0 _ Rr (andThen (leak ra e1) fun d e2 => ofO (f d) fun l => .ok l e2) := po
      show Po t (cn X t) W Fr σ H0 _ _ (andThen (leak ra e1) fun d e2 => .ok [d] e2)
      cases q1 : leak ra e1 with
      | ok d e2 =>
        rw [q1] at po
        rintro vs H1 H' s ⟨⟨as1, rp1⟩, v, vs', rfl, hd, k2⟩
        have k2 : vs' = [] := k2
        subst k2
        obtain ⟨l, e3, po⟩ := Po.ofO po
        exact h H1 H' v d l Rr rp1.sub e3 hd fun J wk => po J H1 H' s ⟨⟨as1, rp1⟩, wk⟩
      | ex k' p e1 =>
        rw [q1] at po
        exact po
      | bad =>
        rw [q1] at po
        exact po.elim
    | ex k' p e1 =>
      rw [q0] at po
      exact po
    | bad =>
      rw [q0] at po
      exact po.elim
  exact go
theorem wk_mk {c : Cn} {H0 : Hp} {J : It} {l : List D} {n : Nat} {G : Hp → Prop} {Y : Nat → Hp → V → Hp → Prop} (w : Walk J n G Y) (hn : n = l.length) (hG : ∀ H2 H', Same H0 H2 → Same H2 H' → G H')
    (hY : ∀ i H2 H' x H'', i < l.length → Same H0 H2 → Same H2 H' → Y i H' x H'' → ∃ d, l[i]? = some d ∧ ((H'' = H' ∧ Dat c H2 d x) ∨ ∃ p o, x = .ref p ∧ H' p = none ∧ H'' = upd H' p o ∧ Dat c (upd H2 p o) d x)) : WkD c H0 J l := by
  subst hn
  exact ⟨G, Y, w, hG, hY⟩
theorem wk_of {c : Cn} {H0 : Hp} {J : It} {l : List D} {vs : List V} {n : Nat} {G : Hp → Prop} (w : Walk J n G (YAt vs)) (hn : n = l.length) (hd : Dats c H0 l vs) (hG : ∀ H2 H', Same H0 H2 → Same H2 H' → G H') : WkD c H0 J l := by
  subst hn
  refine ⟨G, _, w, hG, ?_⟩
  rintro i H2 H' x H'' hi s1 s2 ⟨rfl, hx⟩
  obtain ⟨v, g1, g2⟩ := hd.get (List.getElem?_eq_getElem hi)
  rw [hx] at g1
  cases g1
  exact ⟨l[i], List.getElem?_eq_getElem hi, .inl ⟨rfl, Dat.mono s1 _ _ g2⟩⟩
theorem it_list {c : Cn} : ItOp c (fun x H1 Rr => ∃ a, x = .ref a ∧ (∃ xs, SqL c.K H1 a xs) ∧ Rr (Itl c.K a) H1) itL := by
  intro H0 H x dx l Rr s e hd q
  match dx, e with
  | .lst l, e =>
    cases e
    obtain ⟨hl, a, vs, rfl, h2, h3⟩ := hd
    exact ⟨a, rfl, ⟨vs, SqL.same s h2⟩, q _ (wk_of walk_list h3.len h3 fun H2 H' s1 s2 => SqL.same (s1.trans s2) h2)⟩
theorem enumF_at : ∀ (n : Nat) (l : List D) (i : Nat), (enumF n l)[i]? = l[i]?.map fun d => .tup [.int ((n + i : Nat) : Int), d]
  | n, [], i => by simp [enumF]
  | n, d :: l, 0 => by simp [enumF]
  | n, d :: l, i + 1 => by
    simp only [enumF, List.getElem?_cons_succ]
    rw [enumF_at (n + 1) l i]
    have : n + 1 + i = n + (i + 1) := by omega
    rw [this]
theorem enumF_len : ∀ (n : Nat) (l : List D), (enumF n l).length = l.length
  | _, [] => rfl
  | n, d :: l => by simp [enumF, enumF_len (n + 1) l]
theorem dat_pair {c : Cn} {H : Hp} {p : Addr} {a b : D} {x y : V} (s : ∀ d v, Dat c H d v → Dat c (upd H p (.tup [x, y])) d v) (ha : Dat c H a x) (hb : Dat c H b y) : Dat c (upd H p (.tup [x, y])) (.tup [a, b]) (.ref p) :=
  ⟨by show 2 ≤ lim; decide, p, [x, y], rfl, SqT.of upd_same, x, [y], rfl, s _ _ ha, y, [], rfl, s _ _ hb, rfl⟩
theorem it_enumL {c : Cn} : ItOp c (fun v H1 Rr => ∃ a xs, [v] = [.ref a] ∧ SqL c.K H1 a xs ∧ Rr (Ite c.K a) H1) itEL := by
  intro H0 H x dx l Rr s e hd q
  match dx, e with
  | .lst l, e =>
    cases e
    obtain ⟨hl, a, vs, rfl, h2, h3⟩ := hd
    refine ⟨a, vs, rfl, SqL.same s h2, q _ (wk_mk (walk_enum (K := c.K) (a := a) (xs := vs)) (by rw [enumF_len, h3.len]) (fun H2 H' s1 s2 => SqL.same (s1.trans s2) h2) ?_)⟩
    · rintro i H2 H' x H'' hi s1 s2 ⟨T, x1, y1, rfl, hT, rfl, e1, e2⟩
      cases e1
      have e2 : vs[i]? = some y1 := e2
      rw [enumF_len] at hi
      obtain ⟨v, g1, g2⟩ := h3.get (List.getElem?_eq_getElem hi)
      rw [e2] at g1
      cases g1
      have hT2 : H2 T = none := by
        cases q : H2 T with
        | none => rfl
        | some o => rw [s2 _ _ q] at hT; cases hT
      refine ⟨.tup [.int (i : Nat), l[i]], by rw [enumF_at]; simp [List.getElem?_eq_getElem hi], .inr ⟨T, _, rfl, hT, rfl, ?_⟩⟩
      exact dat_pair (fun d v h => Dat.mono (same_upd hT2) _ _ h) rfl (Dat.mono s1 _ _ g2)
theorem rngF_len : ∀ (lo : Int) (n : Nat), (rngF lo n).length = n
  | _, 0 => rfl
  | lo, n + 1 => by simp [rngF, rngF_len (lo + 1) n]
theorem rngF_at : ∀ (lo : Int) (n i : Nat), i < n → (rngF lo n)[i]? = some (.int (lo + i))
  | _, 0, _, h => absurd h (Nat.not_lt_zero _)
  | lo, n + 1, 0, _ => by simp [rngF]
  | lo, n + 1, i + 1, h => by
    simp only [rngF, List.getElem?_cons_succ]
    rw [rngF_at (lo + 1) n i (Nat.lt_of_succ_lt_succ h)]
    have : lo + 1 + (i : Int) = lo + ((i + 1 : Nat) : Int) := by omega
    rw [this]
theorem wk_rng {c : Cn} {H0 : Hp} {lo : Int} {n : Nat} : WkD c H0 (Itr lo n) (rngF lo n) := by
  refine wk_mk (walk_range (lo := lo) (n := n)) (rngF_len _ _).symm (fun _ _ _ _ => trivial) ?_
  · rintro i H2 H' x H'' hi s1 s2 ⟨rfl, rfl⟩
    rw [rngF_len] at hi
    exact ⟨_, rngF_at _ _ _ hi, .inl ⟨rfl, rfl⟩⟩
theorem it_rng1 {c : Cn} : ItOp c (fun v H1 Rr => ∃ j : Int, [v] = [.int j] ∧ -(2 ^ 62) ≤ j ∧ j < 2 ^ 62 ∧ Rr (Itr 0 j.toNat) H1) itR1 := by
  intro H0 H x dx l Rr s e hd q
  match dx, e with
  | .int j, e =>
    have e : (if -4611686018427387904 ≤ j ∧ j < 4611686018427387904 then some (rngF 0 j.toNat) else none) = some l := e
    by_cases h : -4611686018427387904 ≤ j ∧ j < 4611686018427387904
    · rw [if_pos h] at e
      cases e
      cases hd
      exact ⟨j, rfl, by omega, by omega, q _ wk_rng⟩
    · rw [if_neg h] at e
      cases e
theorem si_list (h : SE X t W a ma) : SI X t W tg a (mIt itL ma) := PI.imp (pi_list h) fun σ H Q q => tI_it it_list q
variable {elts : List Expr} {kk : Nat} {tpos : Pos}
theorem si_enumL (hg : Gl X "enumerate") (hm : X.mg "enumerate" = none) (h : SE X t W a ma) (hs : starEach [a] X.env = [(false, eval a X.env)] := by rfl) : SI X t W (.Tuple elts kk tpos) (.Call (.Name "enumerate" p) [a] [] pos) (mIt itEL ma) :=
  PI.imp (pi_enum hg hm (sd_cons h sd_nil hs) hs) fun σ H Q q => tI_it1 (u := fun vs H1 Rr => ∃ b xs, vs = [.ref b] ∧ SqL X.K H1 b xs ∧ Rr (Ite X.K b) H1) it_enumL q
theorem si_rng1 (hg : Gl X "range") (hm : X.mg "range" = none) (h : SE X t W a ma) (hs : starEach [a] X.env = [(false, eval a X.env)] := by rfl) : SI X t W tg (.Call (.Name "range" p) [a] [] pos) (mIt itR1 ma) :=
  PI.imp (pi_range1 hg hm (sd_cons h sd_nil hs) hs) fun σ H Q q => tI_it1 (u := fun vs H1 Rr => ∃ j : Int, vs = [.int j] ∧ -(2 ^ 62) ≤ j ∧ j < 2 ^ 62 ∧ Rr (Itr 0 j.toNat) H1) it_rng1 q
end
end F
end

section
set_option Elab.async false
set_option linter.all false
set_option autoImplicit false
set_option maxRecDepth 100000
/-! F layer, part K: methods of texts, slices, dicts, isinstance. -/
namespace F
open PySem PySem.Spec PyProof.Rows L2
section
variable {X : Cx} {t : Tb} {W : WX} {o a b : Expr} {mo ma mb : M R} {pos p : Pos}
/-! ### a method of a text -/
/-! ### slices -/
theorem PO.imp {X : Cx} {e : Option Expr} {u u' : TO} (h : PO X e u) (k : ∀ σ H Q, u' σ H Q → u σ H Q) : PO X e u' := ⟨fun pins s σ H Q I q => h.run pins s σ H Q I (k _ _ _ q)⟩
section
variable {lo hi : Option Expr} {ml mh : Option (M R)} {p2 : Pos} {r : V → Option Int → Option Int → Hp → VK → Prop}
end
end
end F
end

section
set_option Elab.async false
set_option linter.all false
set_option autoImplicit false
set_option maxRecDepth 100000
/-! F layer, part L: dicts, isinstance, match, sorted. -/
namespace F
open PySem PySem.Spec PyProof.Rows L2
section
variable {c : Cn} {H0 Fr H : Hp} {σ : St} {e : Env} {as : Nat → List Addr}
theorem Rp.own1 {p : Addr} {y x : HO} {o : O} (r : Rp c H0 (upd Fr p y) H σ e as) (hF : Fr p = none) (h : OwnR c H0 (upd H p x) o (.ref p) [p]) : Rp1 c H0 Fr (upd H p x) σ e (.ref p) o := by
  refine ⟨[p], as, h, by simp, fun a ha => ?_, ?_⟩
  · rw [List.mem_singleton.mp ha]
    exact ⟨(r.fr p y upd_same).2, hF⟩
  · have e1 : addF Fr (upd H p x) [p] = upd (upd Fr p y) p x := by
      funext b
      by_cases z : b = p
      · subst z
        rw [addF_in (List.mem_singleton_self b), upd_same, upd_same]
      · rw [addF_out (by simpa using z), upd_ne z, upd_ne z]
    rw [e1]
    exact r.frUpd upd_same
end
section
variable {X : Cx} {t : Tb} {W : WX} {o a b : Expr} {mo ma mb : M R} {pos p : Pos}
/-! ### {k: v, ..} -/
def rrKv (c : Cn) : Hp → St → Hp → Hp → Env → List (V × V) → List (Ky × D) → Prop := fun Fr σ H1 H' e ps l => (∃ as, Rp c H1 Fr H' σ e as) ∧ ∃ kvs : List (Key × V), ps = kvs.map (fun kv => (kV kv.1, kv.2)) ∧ DatK c H1 l kvs
def SDc (X : Cx) (t : Tb) (W : WX) (pos : Pos) (ks : List (Option Expr)) (vs : List Expr) (kms : List (Ky × M R)) : Prop := ∃ trs, PPs X pos ks vs trs ∧ ∀ σ H Q, tG t (cn X t) W (rrKv (cn X t)) (mDvs kms) σ H Q → tPairs trs σ H Q
theorem sdc_nil : SDc X t W pos [] [] [] := ⟨[], pps_nil, fun σ H Q ⟨e, H0, Fr, as, rp, po⟩ => po [] H0 H (Same.refl _) ⟨⟨as, rp⟩, [], rfl, rfl⟩⟩
theorem sdc_cons {ke : Expr} {k : Ky} {ks : List (Option Expr)} {vs : List Expr} {kms : List (Ky × M R)} (hk : PE X ke (tC (kV (kyK k)))) (ha : SE X t W a ma) (hr : SDc X t W pos ks vs kms) : SDc X t W pos (some ke :: ks) (a :: vs) ((k, ma) :: kms) := by
  obtain ⟨trs, h1, h2⟩ := hr
  refine ⟨_, pps_cons hk ha h1, fun σ H Q ⟨e, H0, Fr, as, rp, po⟩ => ?_⟩
  refine ⟨e, H0, Fr, as, rp, Po.bind (f := fun r e1 => andThen (leak r e1) fun d e2 => andThen (mDvs kms e2) fun ds e3 => .ok ((k, d) :: ds) e3) po fun ra e1 v H1 H' s rr po => ?_⟩
  obtain ⟨d, e2, H2, as, q, s2, rp, hd, po⟩ := po.leak rr
  refine h2 _ _ _ ⟨e2, H2, Fr, as, rp, po.bind fun ds e3 ps H3 H'' s3 ⟨rp3, kvs, e4, ks⟩ po => ?_⟩
  subst e4
  exact po.ret (Same.refl _) ⟨rp3, (kyK k, v) :: kvs, rfl, v, kvs, rfl, Dat.mono s3 _ _ hd, ks⟩
theorem kyK_inj {k q : Ky} (h : kyK k = kyK q) : k = q := by
  cases k with
  | i m =>
    cases q with
    | i n => cases h; rfl
    | s y => cases h
  | s x =>
    cases q with
    | i n => cases h
    | s y =>
      have h1 : sS x = sS y := Sum.inr.inj h
      rw [SX.S_inj h1]
theorem DatK.keys {c : Cn} {H : Hp} : ∀ {l : List (Ky × D)} {kvs : List (Key × V)}, DatK c H l kvs → kvs.map (·.1) = (l.map (·.1)).map kyK
  | [], _, h => by
    have h : _ = [] := h
    subst h
    rfl
  | (k, d) :: r, _, ⟨v, s, h1, h2, h3⟩ => by
    subst h1
    simp only [List.map_cons]
    rw [DatK.keys h3]
theorem merge_nodup : ∀ (kvs acc : List (Key × V)), (acc ++ kvs).map (·.1) |>.Nodup → mergeK acc kvs = acc ++ kvs
  | [], acc, _ => by simp [mergeK]
  | kv :: kvs, acc, h => by
    have hno : (acc.any fun p => decide (p.1 = kv.1)) = false := by
      rw [List.any_eq_false]
      intro p hp
      rw [decide_eq_true_eq]
      intro e
      rw [List.map_append, List.map_cons, List.nodup_append] at h
      exact h.2.2 _ (List.mem_map_of_mem hp) _ (List.mem_cons_self ..) e
    have e1 : putK acc kv.1 kv.2 = acc ++ [kv] := by
      unfold putK
      rw [hno]
      rfl
    show mergeK (putK acc kv.1 kv.2) kvs = _
    rw [e1, merge_nodup kvs (acc ++ [kv]) (by rw [List.append_assoc]; exact h), List.append_assoc]
    rfl
theorem mDvs_keys : ∀ {kms : List (Ky × M R)} {e e' : Env} {l : List (Ky × D)}, mDvs kms e = .ok l e' → l.map (·.1) = kms.map (·.1)
  | [], _, _, _, h => by
    cases h
    rfl
  | (k, m) :: kms, e, e', l, h => by
    have h : (andThen (m e) fun r e1 => andThen (leak r e1) fun d e2 => andThen (mDvs kms e2) fun ds e3 => .ok ((k, d) :: ds) e3) = .ok l e' := h
    cases q : m e with
    | ok r e1 =>
      rw [q] at h
      have h : (andThen (leak r e1) fun d e2 => andThen (mDvs kms e2) fun ds e3 => .ok ((k, d) :: ds) e3) = .ok l e' := h
      cases q2 : leak r e1 with
      | ok d e2 =>
        rw [q2] at h
        have h : (andThen (mDvs kms e2) fun ds e3 => .ok ((k, d) :: ds) e3) = .ok l e' := h
        cases q3 : mDvs kms e2 with
        | ok ds e3 =>
          rw [q3] at h
          cases h
          simp only [List.map_cons]
          rw [mDvs_keys q3]
        | ex => rw [q3] at h; cases h
        | bad => rw [q3] at h; cases h
      | ex => rw [q2] at h; cases h
      | bad => rw [q2] at h; cases h
    | ex => rw [q] at h; cases h
    | bad => rw [q] at h; cases h
theorem se_dct {ks : List (Option Expr)} {vs : List Expr} {kms : List (Ky × M R)} (h : SDc X t W pos ks vs kms) (hall : ks.all (·.isSome) = true := by rfl) (hl : ks.length = vs.length := by rfl) (h0 : ks ≠ [] := by exact List.cons_ne_nil _ _) (h15 : ks.length ≤ 15 := by decide)
    (hnd : (kms.map (·.1)).Nodup := by decide) (hlen : kms.length ≤ 15 := by decide) : SE X t W (.Dict ks vs pos) (mDct kms) := by
  obtain ⟨trs, h1, h2⟩ := h
  refine PE.imp (pe_disp h1 hall hl h0 h15) fun σ H Q ⟨e, H0, Fr, as, rp, po⟩ p hp => h2 _ _ _ ?_
  have hF : Fr p = none := by
    cases q : Fr p with
    | none => rfl
    | some y => rw [(rp.fr p y q).1] at hp; cases hp
  have po : Po t (cn X t) W Fr σ H0 (rrR (cn X t) Fr σ) Q (andThen (mDvs kms e) fun l e1 => .ok (.ow (.fd l)) e1) := po
  cases q0 : mDvs kms e with
  | ok l e1 =>
    rw [q0] at po
    refine ⟨e, H0, upd Fr p (.dK []), as, rp.frNew hp, ?_⟩
    rw [q0]
    rintro ps H1 H' s ⟨⟨as1, rp1⟩, kvs, rfl, dk⟩
    have hk := mDvs_keys q0
    have hkl : kvs.length = kms.length := by
      have := congrArg List.length (dk.keys.trans (congrArg (List.map kyK) hk))
      simpa using this
    have hnd2 : (kvs.map (·.1)).Nodup := by
      rw [dk.keys, hk]
      exact List.Pairwise.map _ (fun a b h z => h (kyK_inj z)) hnd
    have hll : l.length ≤ lim := by
      have := congrArg List.length hk
      simp only [List.length_map] at this
      rw [this]
      exact Nat.le_trans hlen (by decide)
    refine ⟨(rp1.fr p _ upd_same).1, kvs, rfl, by rw [hkl]; exact hlen, ?_⟩
    have em : mergeK [] kvs = kvs := merge_nodup kvs [] hnd2
    rw [em]
    refine po (.ref p) H1 _ s (rp1.own1 hF ⟨hll, p, kvs, rfl, rfl, upd_same, dk⟩)
  | ex k' d e1 =>
    rw [q0] at po
    refine ⟨e, H0, upd Fr p (.dK []), as, rp.frNew hp, ?_⟩
    rw [q0]
    exact fun H2 H' as cls dx s rp xa => po H2 H' as cls dx s (rp.less fun b o hb => by
      by_cases z : b = p
      · rw [z, hF] at hb; cases hb
      · rw [upd_ne z]; exact hb) xa
  | bad =>
    rw [q0] at po
    exact po.elim
/-! ### d[k] -/
/-! ### a written table of texts -/
/-! ### isinstance with a built-in class -/
end
end F
end

section
set_option Elab.async false
set_option linter.all false
set_option autoImplicit false
set_option maxRecDepth 100000
/-! F layer, part M: comprehensions of two clauses; a = b = e; match; sorted. -/
namespace F
open PySem PySem.Spec PyProof.Rows L2
/-! ### two clauses -/
section
variable {X : Cx} {t : Tb} {W : WX}
variable {elt target iter target1 iter1 : Expr} {ifs ifs1 : List Expr} {scope : Scope} {own : List (Str × Nat)} {own1 : List Nat} {pos : Pos} {tg tg1 : Tg} {mi mi1 : M (List D)} {mc mc1 : M Bool} {mv : M R}
end
end F
end

section
set_option Elab.async false
set_option linter.all false
set_option autoImplicit false
set_option maxRecDepth 100000
/-! F layer, part N: a = b = e; match; sorted. -/
namespace F
open PySem PySem.Spec PyProof.Rows L2
section
variable {X : Cx} {t : Tb} {W : WX} {P : Nat → Bool} {a b : Expr} {ma mb : M R} {pos p : Pos}
/-- t1 = t2 = e -/
def sAsg2 (t1 t2 : Tg) (a : M R) : MS := fun e => sOf (a e) fun r e1 => sOf (leak r e1) fun d e2 => ofOS (t1.put d e2) fun e3 => ofOS (t2.put d e3) fun e4 => .nx e4
/-! ### match on texts -/
end
/-! ### sorted(text) -/
end F
end

section
set_option Elab.async false
set_option linter.all false
set_option autoImplicit false
set_option maxRecDepth 100000
/-! F layer, part P: defs by names. -/
namespace F
open PySem PySem.Spec PyProof.Rows L2
/-- the def that the module's name x stands for: called with some arguments, the defaults dfl behind them, it does as Z says -/
def FnG (P : Program) (w : World) (K : PySem.W.Frag) (mg : Str → Option Value) (base : Heap) (t : Tb) (x : Str) (k n : Nat) (Z : Fn) (dfl : List D) : Prop :=
  ∃ (f : Addr) (fd : FuncData) (ps : List Str) (dvs : List V) (ds : List Value), FO P w K mg base t k f fd ps Z n ∧ mg x = some (.ref f) ∧ PySem.W.keepIn K (.ref f) = true ∧ Binds K fd ps ds ∧ Vals dvs ds ∧ ∀ H, Dats ⟨K, t.cls, t.fld, t.tabs, t.ex, t.exM, t.exR⟩ H dfl dvs
section
variable {X : Cx} {t : Tb} {W : WX} {a : Expr} {es : List Expr} {ms : List (M R)} {pos p : Pos} {x : Str} {k kk n : Nat} {Z : Fn} {dfl : List D}
theorem se_fn (G : FnG X.prog X.w X.K X.mg X.base t x k n Z dfl) (hr : Room kk X.A) (hu : X.A.guards = some []) (tk : Takes X W) (md : List Md) (ha : SA X t W (a :: es) (mRs ms)) (hg : Gl X x := by rfl) (hk : k ≤ kk := by decide)
    (hn : ms.length + dfl.length = n := by rfl) (hdb : (x == ("__debug__" : Str)) = false := by decide) (he : starEach (a :: es) X.env = (false, eval a X.env) :: starEach es X.env := by rfl) (hpl : (backTo pos (starEach es X.env)).any (·.1) = false := by rfl) :
    SE X t W (.Call (.Name x p) (a :: es) [] pos) (mCall Z md dfl ms) := by
  obtain ⟨f, fd, ps, dvs, ds, G, hm, hk2, hb, hd, hdd⟩ := G
  exact se_call G (hr.mono hk) hu hg hm hk2 hb hd hdd tk md ha hn hdb he hpl
theorem pe_fn0 {CX : CXT} {f : Addr} {fd : FuncData} {ps : List Str} {sp : Sp} {ds : List Value} {dvs : List V} {E : St → XK} (G0 : FnQ X.prog X.w X.K X.mg X.base CX k f fd ps sp) (hr : Room k X.A) (hu : X.A.guards = some []) (hg : Gl X x) (hm : X.mg x = some (.ref f)) (hk : PySem.W.keepIn X.K (.ref f) = true) (hb : Binds X.K fd ps ds) (hd : Vals dvs ds) (hx : ∀ σ, PassesAt CX X σ (E σ))
    (hdb : (x == ("__debug__" : Str)) = false := by decide) : PE X (.Call (.Name x p) [] [] pos) (tCallSD sp dvs E tNil) :=
  ⟨fun pins s σ H Q I h => wpAny_Call_Name_kw (ld_glob I hg hm (PySem.W.callWith_K0 I.kIn hk (run_q (us := []) G0 hr hu hb hd (hx σ) I .nil h)) hdb)⟩
theorem se_fn0 (G : FnG X.prog X.w X.K X.mg X.base t x k n Z dfl) (hr : Room kk X.A) (hu : X.A.guards = some []) (tk : Takes X W) (hg : Gl X x := by rfl) (hk : k ≤ kk := by decide) (hn : dfl.length = n := by rfl) (hdb : (x == ("__debug__" : Str)) = false := by decide) :
    SE X t W (.Call (.Name x p) [] [] pos) (mCall Z [] dfl []) := by
  obtain ⟨f, fd, ps, dvs, ds, G, hm, hk2, hb, hd, hdd⟩ := G
  refine PE.imp (pe_fn0 G (hr.mono hk) hu hg hm hk2 hb hd (passAt tk) hdb) fun σ H Q q => ?_
  have := call_ok (ms := []) hdd (by simpa using hn) q
  obtain ⟨e, H0, Fr, as, rp, po⟩ := this
  exact po [] H0 H (Same.refl _) ⟨⟨as, rp⟩, rfl⟩
theorem u1 (hr : Room k X.A) : X.A.units + 1 < cLine := by have := hr.units; omega
theorem no_takes : Takes X W0 := fun u s' ⟨_, _, _, _, _, _, _, _, _, _, _, _, _, _, _, _, w⟩ => w.elim
end
/-! ### tables of the text -/
/-! ### the law's end -/
/-- all but the tables -/
def cutT (T : List (Addr × Option Str)) (H : Hp) : Hp := fun b => if b ∈ T.map (·.1) then none else H b
theorem cutT_same {T : List (Addr × Option Str)} {H : Hp} : Same (cutT T H) H := fun b o e => by
  unfold cutT at e
  split at e
  · cases e
  · exact e
theorem cutT_rd {T : List (Addr × Option Str)} {H : Hp} {a : Addr} {u : HO} (hT : ∀ p ∈ T, H p.1 = some (.tbl #[])) (hu : ∀ ps, u ≠ .tbl ps) (h : Rd H a u) : Rd (cutT T H) a u := by
  have na : a ∉ T.map (·.1) := fun z => by
    obtain ⟨p, hp, e⟩ := List.mem_map.mp z
    have q := hT p hp
    rw [e] at q
    rcases h with h | ⟨o, h⟩
    · rw [h] at q
      exact hu _ (Option.some.inj q)
    · rw [h] at q
      cases q
  unfold Rd cutT
  rw [if_neg na]
  exact h
theorem Rp_script {K : PySem.W.Frag} {t : Tb} {H : Hp} {a : Addr} {ns : List Int} (hl : ns.length ≤ lim) (h : SqL K H a (ns.map V.int)) (hT : ∀ p ∈ t.tabs, H p.1 = some (.tbl #[])) : Rp ⟨K, t.cls, t.fld, t.tabs, t.ex, t.exM, t.exR⟩ (cutT t.tabs H) (fun _ => none) H [some (.ref a)] [some (.sh (.lst (ns.map .int)))] (fun _ => []) := by
  have h' : SqL K (cutT t.tabs H) a (ns.map V.int) := h.elim (fun h => .inl (cutT_rd hT (fun ps z => by cases z) h)) .inr
  have hd : ∀ l : List Int, Dats ⟨K, t.cls, t.fld, t.tabs, t.ex, t.exM, t.exR⟩ (cutT t.tabs H) (l.map D.int) (l.map V.int) := fun l => by
    induction l with
    | nil => rfl
    | cons a l ih => exact ⟨.int a, _, rfl, rfl, ih⟩
  refine ⟨rfl, cutT_same, fun b o (e : none = some o) => (by cases e), fun i o e => ?_, fun i a h => (by cases h), fun i j a h => (by cases h), fun _ => List.nodup_nil, fun _ _ => rfl, fun p hp => ⟨#[], hT p hp, True.intro, fun q _ pos cv hc => ?_⟩, fun p hp => if_pos (List.mem_map.mpr ⟨p, hp, rfl⟩), fun p hp => rfl, fun p hp i z => by cases z⟩
  · match i, e with
    | 0, e =>
      cases e
      exact ⟨.ref a, rfl, rfl, by simpa using hl, a, _, rfl, h', hd ns⟩
  · have z : codeAmong pos [] = some cv := hc
    simp [codeAmong] at z
theorem law_end {t : Tb} {K : PySem.W.Frag} {Z : Fn} (hz : ∀ ns : List Int, ns.length ≤ 63 → ∃ os, Z [.sh (.lst (ns.map .int))] = .rt (.sh (.bl true)) os) (H : Hp) (a : Addr) (ns : List Int) (hl : ns.length ≤ 63) (hT : ∀ p ∈ t.tabs, H p.1 = some (.tbl #[])) (hS : SqL K H a (ns.map V.int)) :
    spF t ⟨K, t.cls, t.fld, t.tabs, t.ex, t.exM, t.exR⟩ Z 1 [.ref a] H (fun v _ => v = .bl true) fun _ _ _ => False := by
  obtain ⟨os, e⟩ := hz ns hl
  refine ⟨rfl, [.sh (.lst (ns.map .int))], cutT t.tabs H, fun _ => none, fun _ => [], Rp_script (Nat.le_trans hl (by decide)) hS hT, ?_⟩
  rw [e]
  rintro v H1 H' s ⟨bs, as, ⟨_, h⟩, _⟩
  exact h
theorem no_exc {P : Program} {w : World} (H : Hp) (s : Shared) (e : Value) (s' : Shared) : L2.CX P w [] H s (fun _ _ _ => False) e s' → False := fun ⟨_, _, _, _, _, _, _, _, _, _, _, _, h⟩ => h
theorem fd_uniq {K : PySem.W.Frag} {x qual : Str} {params : Arguments} {body : List Stmt} {scope : Scope} {dvs : List V} {kws : List (Str × V)} {f : Addr} {fd fd' : FuncData} (h : FunD K x qual params body scope dvs kws f fd) (h' : FunD K x qual params body scope dvs kws f fd') : fd = fd' := by
  obtain ⟨_, _, _, _, _, _, _, _, _, _, _, h1, _⟩ := h.ex
  obtain ⟨_, _, _, _, _, _, _, _, _, _, _, h2, _⟩ := h'.ex
  rw [h1] at h2
  cases h2
  rfl
end F
end

section
set_option Elab.async false
set_option linter.all false
set_option maxRecDepth 100000
set_option maxHeartbeats 2000000
/-! F layer, part Q: next of a generator expression over a text with one test. -/
namespace F
open PySem PySem.Spec PyProof.Rows L2
section
variable {X : Cx} {pins : List (Addr × Obj)} {σ : L2.St} {H : Hp} {s : Shared}
end
section
variable {prog : Program} {w : World} {A : Around} {E : Value → Shared → Prop} {s : Shared}
end
section
variable {X : Cx}
end
/-! ### tests -/
end F
end

section
set_option Elab.async false
set_option linter.all false
set_option maxRecDepth 100000
set_option maxHeartbeats 2000000
/-! F layer, part R: next; all, any; find, rfind; zip; range with two ends; forgetting. -/
namespace F
open PySem PySem.Spec PyProof.Rows L2
/-! ### tables -/
/-- next((x for x in e if f), None) -/
def mNextS (f : Nat → Bool) (a : M R) : M R := fun e => andThen (a e) fun r e1 => match peek r e1 with
  | some (.str x) => .ok (.d (match x.find? f with | some k => .str [k] | none => .non)) e1
  | _ => .bad
section
variable {X : Cx} {t : Tb} {W : WX} {P : Nat → Bool}
end
/-! ### all, any of a list of bools -/
/-! ### find, rfind -/
/-! ### zip -/
def zipF : List D → List D → List D
  | x :: xs, y :: ys => .tup [x, y] :: zipF xs ys
  | _, _ => []
def zipR : D → D → Env → Rs (List D)
  | .lst xs, .lst ys, e => .ok (zipF xs ys) e
  | _, _, _ => .bad
def mItZ (a b : M R) : M (List D) := fun e => andThen (a e) fun r e1 => andThen (leak r e1) fun x e2 => andThen (b e2) fun q e3 => andThen (leak q e3) fun y e4 => zipR x y e4
section
variable {X : Cx} {t : Tb} {W : WX} {a b : Expr} {ma mb : M R} {pos p tpos : Pos} {elts : List Expr} {kk : Nat}
end
/-! ### names forgotten -/
def sDrop (m : MS) (is : List Nat) : MS := fun e => match m e with
  | .nx e1 => .nx (wipeE e1 is)
  | .ct e1 => .ct (wipeE e1 is)
  | r => r
section
variable {X : Cx} {t : Tb} {W : WX} {P : Nat → Bool} {st : Stmt} {sts : List Stmt} {m : MS}
theorem Rp.dropAll {c : Cn} {H0 Fr H : Hp} {σ : St} : ∀ {is : List Nat} {e : Env} {as : Nat → List Addr}, Rp c H0 Fr H σ e as → ∃ as', Rp c H0 Fr H σ (wipeE e is) as'
  | [], e, as, r => ⟨as, r⟩
  | i :: is, e, as, r => Rp.dropAll (is := is) (r.drop i)
theorem PoS.drop {Fr H0 : Hp} {σ : St} {D : Ends} {c : Cn} {e : Env} {is : List Nat} (po : PoS t c W P Fr σ H0 D (sDrop m is e)) : PoS t c W P Fr σ H0 D (m e) := by
  unfold sDrop at po
  cases q : m e with
  | nx e1 =>
    rw [q] at po
    intro σ' H1 H' as s p rp
    obtain ⟨as2, rp2⟩ := Rp.dropAll (is := is) rp
    exact po σ' H1 H' as2 s p rp2
  | ct e1 =>
    rw [q] at po
    intro σ' H1 H' as s p rp
    obtain ⟨as2, rp2⟩ := Rp.dropAll (is := is) rp
    exact po σ' H1 H' as2 s p rp2
  | bk e1 => rw [q] at po; exact po
  | rt o e1 => rw [q] at po; exact po
  | ex k p e1 => rw [q] at po; exact po
  | bad => rw [q] at po; exact po
theorem ss_drop (is : List Nat) (h : SS X t W P st m) : SS X t W P st (sDrop m is) := PS.imp h fun D σ H ⟨e, H0, Fr, as, rp, po⟩ => ⟨e, H0, Fr, as, rp, po.drop⟩
theorem sss_drop (is : List Nat) (h : SSs X t W P sts m) : SSs X t W P sts (sDrop m is) := PSs.imp h fun D σ H ⟨e, H0, Fr, as, rp, po⟩ => ⟨e, H0, Fr, as, rp, po.drop⟩
end
/-! ### for the generator -/
theorem code_of {K : PySem.W.Frag} {x qual : Str} {params : Arguments} {body : List Stmt} {scope : Scope} {dvs : List V} {kws : List (Str × V)} {n : Str} {fd : FuncData} {cdv : Value} (F : FunD K x qual params body scope dvs kws (He.ga K n) fd) (h : cdv = fd.code) (hc : PySem.W.codeIn K cdv qual = true) : cdv = .ref (He.cT K (n, none)).1 := by
  obtain ⟨oc, od, dV, kV, doc, pm, an, cdv', ct, osl, rfl, lk, hcd, _, _⟩ := F.ex
  obtain ⟨c, e⟩ := He.codeIn_ref hc
  have e2 : (PySem.W.fnOf x qual params body scope dV kV doc pm an cdv' ct).code = Value.ref c := h.symm.trans e
  rw [e]
  exact congrArg Value.ref (He.codeOf_eq (p := (n, none)) lk e2).symm
end F
end

section
set_option Elab.async false
set_option linter.all false
set_option maxRecDepth 100000
set_option maxHeartbeats 2000000
/-! F layer, part T: lambdas that capture nothing, as values. -/
namespace F
open PySem PySem.Spec PyProof.Rows L2
/-- a lambda's words and its code object -/
structure LF where
  qual : Str
  params : Arguments
  body : Expr
  scope : Scope
  c : Addr
abbrev LF.nf (F : LF) : NdefX.NF := ⟨"<lambda>", F.qual, F.params, [], F.scope, [], F.c⟩
/-- the object at f is it -/
def FnL (f : Addr) (F : LF) : HO := .ext fun h => ∃ (pm ctv : Value), h.get? f = some (PySem.W.kla_obj "<lambda>" F.qual F.params F.body F.scope [] pm F.c ctv)
theorem fnL_at {P : Program} {w : World} {H : Hp} {h : Heap} {f : Addr} {F : LF} (hok : HOk P w H h) (e : H f = some (FnL f F)) : ∃ (pm ctv : Value), h.get? f = some (PySem.W.kla_obj "<lambda>" F.qual F.params F.body F.scope [] pm F.c ctv) := by
  obtain ⟨z, _, _⟩ := hok f _ e
  exact z
/-- the object at f is a lambda with the captured cells cl -/
def FnLc (f : Addr) (F : LF) (cl : List (Str × Addr)) : HO := .ext fun h => ∃ (pm ctv : Value), h.get? f = some (PySem.W.kla_obj "<lambda>" F.qual F.params F.body F.scope cl pm F.c ctv)
theorem fnLc_at {P : Program} {w : World} {H : Hp} {h : Heap} {f : Addr} {F : LF} {cl : List (Str × Addr)} (hok : HOk P w H h) (e : H f = some (FnLc f F cl)) : ∃ (pm ctv : Value), h.get? f = some (PySem.W.kla_obj "<lambda>" F.qual F.params F.body F.scope cl pm F.c ctv) := by
  obtain ⟨z, _, _⟩ := hok f _ e
  exact z
section
variable {X : Cx} {pins : List (Addr × Obj)} {σ : L2.St} {H : Hp} {s : Shared}
/-- what the making of a lambda asks: the maker's table at P, its entries code objects of the name q -/
def tLamC (P : Addr) (mk : Addr → LF) (cl : List (Str × Addr)) : TE := fun σ H Q => ∃ ps : Array Value, H P = some (.tbl ps) ∧ TriplesOk ps.toList ∧ (∀ (pos : Pos) (cv : Value), codeAmong pos ps.toList = some cv → ∃ a, cv = .ref a ∧ H a = some (LamX.CodeO a (mk a).qual)) ∧
  (∀ f c' ps', H c' = none → H f = none → f ≠ c' → TriplesOk ps'.toList → (∀ (pos : Pos) (cv : Value), codeAmong pos ps'.toList = some cv → codeAmong pos ps.toList = some cv ∨ cv = .ref c') → Q (.ref f) (upd (upd (upd H P (.tbl ps')) c' (LamX.CodeO c' (mk c').qual)) f (FnLc f (mk c') cl))) ∧
  (∀ f c', H f = none → H c' = some (LamX.CodeO c' (mk c').qual) → (∃ pos, codeAmong pos ps.toList = some (.ref c')) → Q (.ref f) (upd H f (FnLc f (mk c') cl)))
abbrev mkLf (q : Str) (params : Arguments) (body : Expr) (scope : Scope) (c' : Addr) : LF := ⟨q, params, body, scope, c'⟩
/-- the words of a lambda with captured cells -/
abbrev nfC (F : LF) (cl : List (Str × Addr)) : NdefX.NF := ⟨"<lambda>", F.qual, F.params, [], F.scope, cl, F.c⟩
/-- a new lambda is known from now on -/
theorem lam_known {F : LF} {cl : List (Str × Addr)} {h' : Heap} {t' : Nat} {H1 : Hp} {pm ctv : Value} {Q : VK} (I : Inv X pins σ H1 { s with heap := h', toks := t' }) (q : Q (.ref h'.objs.size) (upd H1 h'.objs.size (FnLc h'.objs.size F cl))) :
    EP X pins σ Q (.ref h'.objs.size) { s with heap := h'.push (PySem.W.kla_obj "<lambda>" F.qual F.params F.body F.scope cl pm F.c ctv), toks := t' } := by
  have here : (h'.push (PySem.W.kla_obj "<lambda>" F.qual F.params F.body F.scope cl pm F.c ctv)).get? h'.objs.size = some _ := Heap.get?_push_size _ rfl
  have stay : ∀ b u, h'.get? b = some u → (h'.push (PySem.W.kla_obj "<lambda>" F.qual F.params F.body F.scope cl pm F.c ctv)).get? b = some u := fun b u z => Heap.get?_push_of_some _ z
  exact ⟨.ref h'.objs.size, _, I.laid (o := FnLc h'.objs.size F cl) stay (Nat.le_refl _) ⟨⟨pm, ctv, here⟩, ⟨_, here⟩, fun _ _ ⟨p, t, z⟩ keep => ⟨p, t, keep _ z⟩⟩, rfl, q⟩
/-- a lambda is made: its code object is a new one, or the one that its table has for this place -/
theorem pe_lamG {c P : Addr} {params : Arguments} {body : Expr} {scope : Scope} {pos : Pos} {cl : List (Str × Addr)} (TB : LamX.TabB X.base X.mg c P) (hcode : X.env.code = .ref c) (hdef : defaultsOf params X.env = ([], []))
    (caught : X.Ok → ∀ y ∈ scope.names, y.2 = .free → ∃ c, X.env.cells.lookup y.1 = some c) (hcl : cloFrom X.env.cells scope.names [] = cl) : PE X (.Lambda params body scope pos) (tLamC P (mkLf (X.env.qual ++ "<lambda>") params body scope) cl) := by
  constructor
  intro pins s σ H Q I ⟨ps, hP, trip, known, fresh, again⟩
  have closure := closure_ok (caught I.ok)
  rw [hcl] at closure
  have table : s.heap.get? P = some { cls := .none, data := .fields ps } := I.hok P _ hP
  have bltn := TB.bm.keeps I.bk
  have code := TB.code.keeps I.bk
  have globals := I.mod.glob.keeps I.bk
  apply PySem.W.kla_eval hdef
  cases found : codeAmong pos ps.toList with
  | some cv =>
    have ⟨c', e, hc⟩ := known pos cv found
    subst e
    apply PySem.W.kla_makeFunctionHit closure I.ok.glob globals hcode code table trip found bltn
    intro ctv h' tk stay le
    exact lam_known (F := mkLf (X.env.qual ++ "<lambda>") params body scope c') (I.kept stay) (again _ c' (I.hok.fresh le) hc ⟨pos, found⟩)
  | none =>
    apply PySem.W.kla_makeFunction closure I.ok.glob globals hcode code table trip found TB.gP bltn
    rintro c' ctv h' tk ext le lt ⟨_, oc, vs, t, ⟨⟩, o1, o2, o3⟩ tab
    have rows : (ps ++ #[rawInt pos.line, rawInt pos.col, .ref c']).toList = ps.toList ++ [rawInt pos.line, rawInt pos.col, .ref c'] := Array.toList_append
    have J := LamX.inv_table (q := X.env.qual ++ "<lambda>") (t' := tk) (more := #[rawInt pos.line, rawInt pos.col, .ref c']) I hP ext tab le ⟨oc, vs, t, o1, o2, o3⟩
    refine lam_known (F := mkLf (X.env.qual ++ "<lambda>") params body scope c') J (fresh _ c' _ (I.hok.fresh le) (I.hok.fresh (Nat.le_trans le (Nat.le_of_lt lt))) (Nat.ne_of_gt lt) ?_ fun p' cv h => ?_)
    · exact rows ▸ PySem.TriplesOk_snoc _ _ _ _ trip
    · exact LamX.among_app _ trip (rows ▸ h)
/-- what the making of a lambda that captures nothing asks -/
def tLam (P : Addr) (q : Str) (mk : Addr → LF) : TE := fun σ H Q => ∃ ps : Array Value, H P = some (.tbl ps) ∧ TriplesOk ps.toList ∧ (∀ (pos : Pos) (cv : Value), codeAmong pos ps.toList = some cv → ∃ a, cv = .ref a ∧ H a = some (LamX.CodeO a q)) ∧
  (∀ f c' ps', H c' = none → H f = none → f ≠ c' → TriplesOk ps'.toList → (∀ (pos : Pos) (cv : Value), codeAmong pos ps'.toList = some cv → codeAmong pos ps.toList = some cv ∨ cv = .ref c') → Q (.ref f) (upd (upd (upd H P (.tbl ps')) c' (LamX.CodeO c' q)) f (FnL f (mk c')))) ∧
  (∀ f c', H f = none → H c' = some (LamX.CodeO c' q) → (∃ pos, codeAmong pos ps.toList = some (.ref c')) → Q (.ref f) (upd H f (FnL f (mk c'))))
theorem pe_lam {c P : Addr} {params : Arguments} {body : Expr} {scope : Scope} {pos : Pos} (TB : LamX.TabB X.base X.mg c P) (hcode : X.env.code = .ref c) (hdef : defaultsOf params X.env = ([], [])) (hcl : cloFrom X.env.cells scope.names [] = []) (hfree : ∀ y ∈ scope.names, y.2 ≠ .free) :
    PE X (.Lambda params body scope pos) (tLam P (X.env.qual ++ "<lambda>") fun c' => ⟨X.env.qual ++ "<lambda>", params, body, scope, c'⟩) :=
  pe_lamG TB hcode hdef (fun _ y hy e => absurd e (hfree y hy)) hcl
end
/-! ### a lambda called -/
section
variable {P : Program} {w : World} {A : Around} {s : Shared} {H : Hp}
/-- by the run of its body in the new frame -/
theorem lam_enter {F : LF} {cl : List (Str × Addr)} {f : Addr} {us : List Value} {bs : List (Str × Value)} {R : Result → Shared → Prop} (deep : A.depth < recursionLimit) (lim : s.heap.NoLimit) (ok : HOk P w H s.heap) (hf : H f = some (FnLc f F cl)) (hc : H F.c = some (LamX.CodeO F.c F.qual))
    (kind : F.scope.kind = .function) (co : F.scope.isCoroutine = false) (gen : F.scope.isGenerator = false) (nocell : ∀ y ∈ F.scope.names, y.2 ≠ .cell) (par : ∀ y ∈ bs, F.scope.names.lookup y.1 = some .local)
    (bind : ∀ pm ctv : Value, bindArgs (PySem.W.kla_fn "<lambda>" F.qual F.params F.body F.scope cl pm (.ref F.c) ctv) ⟨us, []⟩ = pure bs)
    (run : ∀ h1 : Heap, h1.Ns s.heap.objs.size (fun x => bs.reverse.lookup x) → Heap.SameBut s.heap.objs.size (s.heap.push { cls := .type "frame", data := .dict #[] }) h1 → (∀ b o, s.heap.get? b = some o → h1.get? b = some o) →
      wpAny (model P w) (A.deeper (NdefX.envF (nfC F cl) f s.heap.objs.size)) (eval F.body (NdefX.envF (nfC F cl) f s.heap.objs.size)) (fun v s' => R (.ok (.ret v)) s')
        (fun e s' => wpAny (model P w) (A.deeper (NdefX.envF (nfC F cl) f s.heap.objs.size)) (leaving (NdefX.envF (nfC F cl) f s.heap.objs.size) e) (fun _ s2 => R (.error e) s2) (fun e2 s2 => R (.error e2) s2) s') { s with heap := h1, toks := s.toks + bs.length }) :
    codeAny (model P w) A (.call (.ref f) ⟨us, []⟩) R s := by
  have ⟨pm, ctv, obj⟩ := fnLc_at ok hf
  have ⟨⟨oc, vs, t, c1, c2, c3⟩, _⟩ := ok F.c _ hc
  apply PySem.W.kla_callFunE deep obj rfl co gen rfl ⟨F.c, oc, vs, t, rfl, c1, c2, c3⟩
  rw [bind]
  apply wpAny_pure
  refine wpAny_newFunctionEnv nocell par (fun h1 ns same => ⟨lim.fresh _ same, PySem.W.kla_codeExpr (run h1 ns same fun b o e => ?_)⟩) kind
  exact same.extBut b o (Nat.ne_of_lt (Heap.lt_size e)) (Heap.get?_push_of_some _ e)
/-- what a frame gives back -/
theorem gives_back {X : Cx} {outer : List PySem.Env} {pins : List (Addr × Obj)} {σ : L2.St} {s0 s' : Shared} {H0 : Hp} {Q : VK} {v : Value} (h : EP X pins σ Q v s') (os : X.s_0.os = s0.os) (fs : X.fs = frs outer) (ex : X.ex = []) (h0 : X.H_0 = H0) (hp : X.s_0.heap = s0.heap) : L2.CE outer X.prog X.w H0 s0 Q v s' := by
  obtain ⟨x, H', J, r, q⟩ := h
  refine ⟨x, H', J.os.trans os, J.bare, ?_, J.hok, r, q⟩
  rw [← h0, ← hp, ← fs, ← ex]
  exact J.base
/-- a call that is back in X -/
theorem call_back {X : Cx} {CX : CXT} {pins : List (Addr × Obj)} {σ : L2.St} {H : Hp} {s : Shared} {f : Value} {us : List Value} {Q : VK} {E : XK} (I : Inv X pins σ H s) (pass : ∀ e s', CX X.stack H s E e s' → X.xe e s')
    (h : codeAny (model X.prog X.w) X.A (.call f ⟨us, []⟩) (L2.CR CX X.stack X.prog X.w H s Q E) s) : wpAny (model X.prog X.w) X.A (call f us) (EP X pins σ Q) X.xe s := by
  apply wpAny_call
  refine codeAny_mono h fun r s' q => ?_
  rcases r with e | fl
  · exact pass e s' q
  · cases fl <;> first | exact I.after q | exact False.elim q
end
/-! ### what it promises -/
structure LOk (P : Program) (w : World) (K : PySem.W.Frag) (mg : Str → Option Value) (base : Heap) (CX : CXT) (k : Nat) (F : LF) (n : Nat) (sp : Sp) : Prop where
  len : ∀ vs H Q E, sp vs H Q E → vs.length = n
  run : ∀ (A : Around) (outer : List PySem.Env) (s : Shared) (H : Hp) (f : Addr) (us : List Value) (vs : List V) (Q : VK) (E : XK), Room k A → A.guards = some [] → Env0 P w K mg base A outer s H → H f = some (FnL f F) → H F.c = some (LamX.CodeO F.c F.qual) →
    Vals vs us → sp vs H Q E → codeAny (model P w) A (.call (.ref f) ⟨us, []⟩) (CR CX outer P w H s Q E) s
section
variable {CX : CXT} {P : Program} {w : World} {K : PySem.W.Frag} {mg : Str → Option Value} {base : Heap} {N ps : List Str} {F : LF} {k j n : Nat} {sp : Sp}
theorem LOk.mono (o : LOk P w K mg base CX j F n sp) (h : j ≤ k) : LOk P w K mg base CX k F n sp := ⟨o.len, fun A outer s H f us vs Q E hr => o.run A outer s H f us vs Q E (hr.mono h)⟩
theorem lok_of (S : NdefX.NScope N ps [] F.scope) (hn : ps.length = n) (hb : ∀ (pm ctv : Value) (us : List Value), us.length = n → bindArgs (PySem.W.kla_fn "<lambda>" F.qual F.params F.body F.scope [] pm (.ref F.c) ctv) ⟨us, []⟩ = pure (ps.zip us)) (len : ∀ vs H Q E, sp vs H Q E → vs.length = n)
    (hbody : ∀ (A : Around) (outer : List PySem.Env) (s : Shared) (H : Hp) (f : Addr) (vs : List V) (Q : VK) (E : XK), Room k (A.deeper (NdefX.envF F.nf f s.heap.objs.size)) → (A.deeper (NdefX.envF F.nf f s.heap.objs.size)).guards = some [] → sp vs H Q E →
      ∃ t, PE (NdefX.ncx CX P w K mg base N F.nf f A outer s H E) F.body t ∧ t (NdefX.startF N vs []) H Q) :
    LOk P w K mg base CX (k + 1) F n sp := by
  refine ⟨len, fun A outer s H f us vs Q E hr hu e0 hf hc r hsp => ?_⟩
  have n1 := len _ _ _ _ hsp
  refine lam_enter (cl := []) (bs := ps.zip us) hr.depth (e0.mod.nolimit.keeps fun b o e => (e0.bs b o e).1) e0.hok hf hc S.kind S.co S.gen S.nocell (fun y hy => S.par y.1 (List.of_mem_zip hy).1) (fun pm ctv => hb pm ctv us (r.length.symm.trans n1)) fun h1 ns _ keep => ?_
  have ⟨tb, hp, hq⟩ := hbody A outer s H f vs Q E (hr.deeper _) hu hsp
  have none_caught : NdefX.CellsAt F.nf.cl [] [] s.heap H := ⟨rfl, (fun _ _ e => nomatch e), (fun _ _ _ e => nomatch e), fun _ _ e => nomatch e⟩
  have J := NdefX.inv_startN (CX := CX) (E := E) (f := f) (tk := s.toks + (ps.zip us).length) S hr.hd e0 (n1.trans hn.symm) r none_caught ns keep
  exact wpAny_mono (hp.run [] _ _ H Q J hq) (fun v s' z => gives_back z rfl rfl rfl rfl rfl) fun e s' z => z
end
/-- x(..), x a name that holds one of these; E: what is wished of what it raises -/
def tCallL (mk : Nat → Addr → LF) (i : Nat) (sp : Nat → Sp) (E : St → XK) (t : TA) : TE := fun σ H Q => ∃ n f c', σ[i]? = some (some (.ref f)) ∧ H f = some (FnL f (mk n c')) ∧
  t σ H fun vs H1 => H1 f = some (FnL f (mk n c')) ∧ H1 (mk n c').c = some (LamX.CodeO (mk n c').c (mk n c').qual) ∧ sp n vs H1 Q (E σ)
section
variable {X : Cx} {CX : CXT} {mk : Nat → Addr → LF} {i j k : Nat} {ar : Nat → Nat} {x : Str} {sp : Nat → Sp} {E : St → XK} {t : TA} {e : Expr} {es : List Expr} {p pos : Pos}
theorem pe_callL (Fn : ∀ n c', LOk X.prog X.w X.K X.mg X.base CX k (mk n c') (ar n) (sp n)) (hr : Room j X.A) (hu : X.A.guards = some []) (hk : k ≤ j) (hx : ∀ σ, PassesAt CX X σ (E σ)) (hN : X.N[i]? = some x) (hv : Vis X.env.scope x) (ha : PA X (e :: es) t)
    (hd : (x == ("__debug__" : Str)) = false := by decide) (hcd : (x == ("__classdict__" : Str)) = false := by decide)
    (he : starEach (e :: es) X.env = (false, eval e X.env) :: starEach es X.env := by rfl) (hpl : (backTo pos (starEach es X.env)).any (·.1) = false := by rfl) :
    PE X (.Call (.Name x p) (e :: es) [] pos) (tCallL mk i sp E t) := by
  constructor
  intro pins s σ H Q I ⟨n, f, c', hs, hf, ht⟩
  have lam : ∀ {s : Shared} {σ : L2.St} {H : Hp}, Inv X pins σ H s → H f = some (FnL f (mk n c')) → PySem.W.FnAt f s.heap := fun J e => (fnL_at J.hok e).elim fun _ z => z.elim fun _ o => ⟨_, _, _, _, o⟩
  have name := (pe_var (pos := p) hN hv hd hcd).run pins s σ H (fun v H1 => v = .ref f ∧ H1 = H) I ⟨.ref f, hs, rfl, rfl⟩
  refine wpAny_Call_Name_kw (thn name fun u s1 ⟨v, H1, I1, r1, e1, e2⟩ => ?_)
  subst e1 e2
  cases r1
  refine PySem.W.callWith_F (first := []) (lam I1 hf) (thn (ha.run pos pins s1 σ H1 _ I1 ht) fun us s2 ⟨vs, H2, I2, r, g1, g2, q⟩ => ⟨lam I2 g1, ?_⟩) he hpl
  exact call_back I2 (fun e s' z => hx σ pins H2 s2 e s' I2 z) ((Fn n c').run X.A X.stack s2 H2 f us vs Q (E σ) (hr.mono hk) hu I2.env0 g1 g2 r q)
end
end F
end

section
set_option Elab.async false
set_option linter.all false
set_option maxRecDepth 100000
set_option maxHeartbeats 2000000
/-! F layer, part U: lambdas as plain data. -/
namespace F
open PySem PySem.Spec PyProof.Rows L2
/-- what stands for the described thing (kind 1: the n-th lambda of the text) -/
def exL (mk : Nat → Addr → LF) (k : Nat) (d : D) (v : V) (H : Hp) : Prop := k = 1 ∧ ∃ n : Nat, d = .int (n : Int) ∧ ∃ f c', v = .ref f ∧ H f = some (FnL f (mk n c')) ∧ H (mk n c').c = some (LamX.CodeO (mk n c').c (mk n c').qual)
theorem exL_mono (mk : Nat → Addr → LF) (k : Nat) (d : D) (v : V) (H H' : Hp) (s : Same H H') (h : exL mk k d v H) : exL mk k d v H' := by
  obtain ⟨e, n, e2, f, c', h1, h2, h3⟩ := h
  exact ⟨e, n, e2, f, c', h1, s _ _ h2, s _ _ h3⟩
theorem exL_ref (mk : Nat → Addr → LF) (k : Nat) (d : D) (v : V) (H : Hp) (h : exL mk k d v H) : ∃ a, v = .ref a := by
  obtain ⟨_, _, _, f, _, h1, _⟩ := h
  exact ⟨f, h1⟩
/-- a table gets other entries -/
theorem Rp.tabNew {c : Cn} {H0 Fr H : Hp} {σ : St} {e : Env} {as : Nat → List Addr} (r : Rp c H0 Fr H σ e as) {p : Addr × Option Str} (hp : p ∈ c.tabs) (hu : ∀ q ∈ c.tabs, q.1 = p.1 → q.2 = p.2) {ps : Array Value} (ht : TriplesOk ps.toList)
    (h : ∀ q, p.2 = some q → ∀ (pos : Pos) (cv : Value), codeAmong pos ps.toList = some cv → ∃ a, cv = .ref a ∧ H0 a = some (LamX.CodeO a q)) : Rp c H0 Fr (upd H p.1 (.tbl ps)) σ e as := by
  refine ⟨r.len, fun b o e => ?_, fun b o e => ?_, fun i o e => ?_, r.off, r.sep, r.nd, r.emp, ⟨fun q hq => ?_, r.tab.n0, r.tab.nF, r.tab.na⟩⟩
  · rw [upd_ne fun z => by rw [z, r.tab.n0 p hp] at e; cases e]
    exact r.sub b o e
  · rw [upd_ne fun z => by rw [z, r.tab.nF p hp] at e; cases e]
    exact r.fr b o e
  · obtain ⟨v, g1, g2⟩ := r.own i o e
    exact ⟨v, g1, OwnR.mono (fun _ _ z => z) o v _ (fun a ha => upd_ne fun z => r.tab.na p hp i (z ▸ ha)) g2⟩
  · by_cases z : q.1 = p.1
    · refine ⟨ps, by rw [z, upd_same], ht, fun nm hn => ?_⟩
      rw [hu q hq z] at hn
      exact h nm hn
    · exact (r.tab.at_ q hq).mono (Same.refl _) (upd_ne z)
theorem upd_comm {H : Hp} {a b : Addr} {x y : HO} (h : a ≠ b) : upd (upd H a x) b y = upd (upd H b y) a x := by
  funext d
  by_cases z : d = a
  · subst z
    rw [upd_ne h, upd_same, upd_same]
  · by_cases z2 : d = b
    · subst z2
      rw [upd_same, upd_ne z, upd_same]
    · rw [upd_ne z2, upd_ne z, upd_ne z, upd_ne z2]
section
variable {X : Cx} {t : Tb} {W : WX}
theorem se_lam {mk : Nat → Addr → LF} {n : Nat} {c : Addr} {q : Addr × Option Str} {params : Arguments} {body : Expr} {scope : Scope} {pos : Pos} (hx : ∀ d v H, exL mk 1 d v H → t.ex 1 d v H) (hmk : ∀ c', mk n c' = ⟨X.env.qual ++ "<lambda>", params, body, scope, c'⟩)
    (TB : LamX.TabB X.base X.mg c q.1) (hq : q ∈ t.tabs) (hqn : q.2 = some (X.env.qual ++ "<lambda>")) (hu : ∀ z ∈ t.tabs, z.1 = q.1 → z.2 = q.2) (hcode : X.env.code = .ref c) (hdef : defaultsOf params X.env = ([], [])) (hcl : cloFrom X.env.cells scope.names [] = []) (hfree : ∀ y ∈ scope.names, y.2 ≠ .free) :
    SE X t W (.Lambda params body scope pos) (mC (.ex 1 (.int (n : Nat)))) := by
  refine PE.imp (pe_lam TB hcode hdef hcl hfree) fun σ H Q ⟨e, H0, Fr, as, rp, po⟩ => ?_
  have po : Po t (cn X t) W Fr σ H0 (rrR (cn X t) Fr σ) Q (.ok (.d (.ex 1 (.int (n : Nat)))) e) := po
  obtain ⟨ps, h1, h2, h3⟩ := rp.tab.at_ q hq
  have h3 := h3 _ hqn
  have nP : ∀ {b : Addr}, H b = none → q.1 ≠ b := fun h => rp.tab.ne hq h
  refine ⟨ps, h1, h2, fun pos cv hc => ?_, fun f c' ps' n1 n2 ne ht hps => ?_, fun f c' n2 hco hpos => ?_⟩
  · obtain ⟨a, e1, e2⟩ := h3 pos cv hc
    exact ⟨a, e1, rp.sub _ _ e2⟩
  · obtain ⟨s1, rp1⟩ := rp.alloc (x := LamX.CodeO c' (X.env.qual ++ "<lambda>")) n1
    have rp2 := rp1.tabNew hq hu ht fun nm hn pos cv hc => by
      rw [hqn] at hn
      cases hn
      rcases hps pos cv hc with z | z
      · obtain ⟨a, e1, e2⟩ := h3 pos cv z
        exact ⟨a, e1, s1 _ _ e2⟩
      · exact ⟨c', z, upd_same⟩
    have n3 : upd (upd H c' (LamX.CodeO c' (X.env.qual ++ "<lambda>"))) q.1 (.tbl ps') f = none := by rw [upd_ne (nP n2).symm, upd_ne ne]; exact n2
    obtain ⟨s2, rp3⟩ := rp2.alloc (x := FnL f ⟨X.env.qual ++ "<lambda>", params, body, scope, c'⟩) n3
    rw [upd_comm (nP n1)]
    refine po _ _ _ (s1.trans s2) ⟨⟨as, rp3⟩, hx _ _ _ ⟨rfl, n, rfl, f, c', rfl, ?_, ?_⟩⟩
    · rw [hmk, upd_same]
    · rw [hmk]
      exact s2 _ _ upd_same
  · obtain ⟨s2, rp3⟩ := rp.alloc (x := FnL f ⟨X.env.qual ++ "<lambda>", params, body, scope, c'⟩) n2
    obtain ⟨pos, hpos⟩ := hpos
    obtain ⟨a, e1, e2⟩ := h3 pos _ hpos
    cases e1
    refine po _ _ _ s2 ⟨⟨as, rp3⟩, hx _ _ _ ⟨rfl, n, rfl, f, c', rfl, ?_, ?_⟩⟩
    · rw [hmk, upd_same]
    · rw [hmk]
      exact s2 _ _ e2
/-! ### calls -/
def mCallV (i : Nat) (Fs : Nat → Fn) (ms : List (M R)) : M R := fun e => match slot e i with
  | some (.sh (.ex 1 (.int n))) => mCall (Fs n.toNat) [] [] ms e
  | _ => .bad
theorem se_callL {mk : Nat → Addr → LF} {Fs : Nat → Fn} {ar : Nat} {i j k : Nat} {x : Str} {a : Expr} {es : List Expr} {ms : List (M R)} {p pos : Pos} (hx : ∀ d v H, t.ex 1 d v H → exL mk 1 d v H)
    (Fn : ∀ n c', LOk X.prog X.w X.K X.mg X.base (L2.CX X.prog X.w) k (mk n c') ar (spF t (cn X t) (Fs n) ar)) (hr : Room j X.A) (hu : X.A.guards = some []) (tk : Takes X W) (hN : X.N[i]? = some x) (hv : Vis X.env.scope x) (ha : SA X t W (a :: es) (mRs ms))
    (hk : k ≤ j := by decide) (hn : ms.length = ar := by rfl) (hd : (x == ("__debug__" : Str)) = false := by decide) (hcd : (x == ("__classdict__" : Str)) = false := by decide)
    (he : starEach (a :: es) X.env = (false, eval a X.env) :: starEach es X.env := by rfl) (hpl : (backTo pos (starEach es X.env)).any (·.1) = false := by rfl) :
    SE X t W (.Call (.Name x p) (a :: es) [] pos) (mCallV i Fs ms) := by
  refine PE.imp (pe_callL (i := i) (ar := fun _ => ar) Fn hr hu hk (passAt tk) hN hv ha hd hcd he hpl) fun σ H Q ⟨e, H0, Fr, as, rp, po⟩ => ?_
  have key : ∃ n : Int, F.slot e i = some (.sh (.ex 1 (.int n))) := by
    unfold mCallV at po
    cases q : F.slot e i with
    | none => rw [q] at po; exact po.elim
    | some o =>
      rw [q] at po
      match o, po with
      | .sh (.ex 1 (.int n)), _ => exact ⟨n, rfl⟩
  obtain ⟨n, q⟩ := key
  have go : mCallV i Fs ms e = mCall (Fs n.toNat) [] [] ms e := by
    unfold mCallV
    rw [q]
    rfl
  rw [go] at po
  obtain ⟨v, h1, h2, h3⟩ := rp.own i _ q
  obtain ⟨_, n', e2, f, c', rfl, h4, h5⟩ := hx _ _ _ h3
  cases e2
  rw [Int.toNat_natCast] at po
  have cq := (call_po (dvs := []) (dfl := []) (c := cn X t) (n := ar) (fun _ => (rfl : ([] : List V) = [])) (by simpa using hn) rp po).also (R := fun _ H1 => H1 f = some (FnL f (mk n' c')) ∧ H1 (mk n' c').c = some (LamX.CodeO (mk n' c').c (mk n' c').qual)) fun a e b H1 H' s rr => by
    obtain ⟨⟨as1, rp1⟩, _⟩ := rr
    exact ⟨rp1.sub _ _ (s _ _ h4), rp1.sub _ _ (s _ _ h5)⟩
  refine ⟨n', f, c', h1, rp.sub _ _ h4, e, H0, Fr, as, rp, ?_⟩
  have eq : (fun (vs : List V) (H1 : Hp) => (H1 f = some (FnL f (mk n' c')) ∧ H1 (mk n' c').c = some (LamX.CodeO (mk n' c').c (mk n' c').qual)) ∧ spF t (cn X t) (Fs n') ar (vs ++ []) H1 Q (fun cls d H => W cls d σ H)) =
      fun vs H1 => H1 f = some (FnL f (mk n' c')) ∧ H1 (mk n' c').c = some (LamX.CodeO (mk n' c').c (mk n' c').qual) ∧ spF t (cn X t) (Fs n') ar vs H1 Q (fun cls d H => W cls d σ H) := by
    funext vs H1
    rw [List.append_nil, and_assoc]
  rw [eq] at cq
  exact cq
end
end F
end

section
set_option Elab.async false
set_option linter.all false
set_option autoImplicit false
set_option maxRecDepth 100000
set_option maxHeartbeats 2000000
/-! F layer, part V: dicts: stores, keys walked, list of the values. -/
namespace F
open PySem PySem.Spec PyProof.Rows L2
/-! ### d[k] = v, d a name's own dict -/
def putD (l : List (Ky × D)) (k : Ky) (d : D) : List (Ky × D) := if (l.any fun p => decide (p.1 = k)) = true then l.map (fun p => if p.1 = k then (p.1, d) else p) else l ++ [(k, d)]
def sPut (i : Nat) (k v : M R) : MS := fun e => sOf (v e) fun r e1 => sOf (leak r e1) fun d e2 => match slot e2 i with
  | some _ => sOf (k e2) fun q e3 => ofOS (peek q e3) fun j => ofOS (keyD j) fun kk => (match slot e3 i with
    | some (.fd l) => if l.length < lim then .nx (e3.set i (some (.fd (putD l kk d)))) else .bad
    | _ => .bad)
  | none => .bad
section
variable {c : Cn} {H : Hp}
theorem DatK.app : ∀ {l m : List (Ky × D)} {kvs ws : List (Key × V)}, DatK c H l kvs → DatK c H m ws → DatK c H (l ++ m) (kvs ++ ws)
  | [], m, kvs, ws, h, h2 => by
    have h : kvs = [] := h
    subst h
    exact h2
  | (k, d) :: l, m, kvs, ws, ⟨v, s, h1, h2, h3⟩, h4 => by
    subst h1
    exact ⟨v, s ++ ws, rfl, h2, DatK.app h3 h4⟩
theorem DatK.any {q : Ky} : ∀ {l : List (Ky × D)} {kvs : List (Key × V)}, DatK c H l kvs → (kvs.any fun kv => decide (kv.1 = kyK q)) = (l.any fun p => decide (p.1 = q))
  | [], kvs, h => by
    have h : kvs = [] := h
    subst h
    rfl
  | (k, d) :: l, kvs, ⟨v, s, h1, h2, h3⟩ => by
    subst h1
    simp only [List.any_cons, DatK.any h3]
    congr 1
    exact decide_eq_decide.mpr ⟨fun z => kyK_inj z, fun z => by rw [z]⟩
theorem DatK.mapP {q : Ky} {d : D} {v : V} (hd : Dat c H d v) : ∀ {l : List (Ky × D)} {kvs : List (Key × V)}, DatK c H l kvs → DatK c H (l.map (fun p => if p.1 = q then (p.1, d) else p)) (kvs.map (fun kv => if kv.1 = kyK q then (kv.1, v) else kv))
  | [], kvs, h => by
    have h : kvs = [] := h
    subst h
    rfl
  | (k, d') :: l, kvs, ⟨w, s, h1, h2, h3⟩ => by
    subst h1
    simp only [List.map_cons]
    by_cases z : k = q
    · rw [if_pos z, if_pos (by rw [z])]
      exact ⟨v, _, rfl, hd, DatK.mapP hd h3⟩
    · rw [if_neg z, if_neg fun y => z (kyK_inj y)]
      exact ⟨w, _, rfl, h2, DatK.mapP hd h3⟩
theorem DatK.put {q : Ky} {d : D} {v : V} (hd : Dat c H d v) {l : List (Ky × D)} {kvs : List (Key × V)} (h : DatK c H l kvs) : DatK c H (putD l q d) (putK kvs (kyK q) v) := by
  unfold putD putK
  rw [h.any]
  by_cases z : (l.any fun p => decide (p.1 = q)) = true
  · rw [if_pos z, if_pos z]
    exact DatK.mapP hd h
  · rw [if_neg z, if_neg z]
    exact h.app ⟨v, [], rfl, hd, rfl⟩
theorem DatK.len : ∀ {l : List (Ky × D)} {kvs : List (Key × V)}, DatK c H l kvs → kvs.length = l.length
  | [], kvs, h => by
    have h : kvs = [] := h
    subst h
    rfl
  | (k, d) :: l, kvs, ⟨v, s, h1, h2, h3⟩ => by
    subst h1
    simp [DatK.len h3]
theorem DatK.vals : ∀ {l : List (Ky × D)} {kvs : List (Key × V)}, DatK c H l kvs → Dats c H (l.map (·.2)) (kvs.map (·.2))
  | [], kvs, h => by
    have h : kvs = [] := h
    subst h
    rfl
  | (k, d) :: l, kvs, ⟨v, s, h1, h2, h3⟩ => by
    subst h1
    exact ⟨v, _, rfl, h2, DatK.vals h3⟩
end
section
variable {X : Cx} {t : Tb} {W : WX} {P : Nat → Bool} {a b k v : Expr} {ma mb mk mv : M R} {pos apos cpos p1 p : Pos} {i : Nat}
/-! ### for k in d: the dict stays as it is from now on -/
def keysD : Ky × D → D
  | (.i n, _) => .int n
  | (.s x, _) => .str x
def kyOk (p : Ky × D) : Bool := match p.1 with | .i _ => true | .s x => decide (x.length ≤ lim)
def mItK (i : Nat) : M (List D) := fun e => match F.slot e i with
  | some (.fd l) => if (l.all kyOk) = true then .ok (l.map keysD) (e.set i (some (.sh (.dct l)))) else .bad
  | _ => .bad
/-! ### list(d.values()) -/
end
end F
end

section
set_option Elab.async false
set_option linter.all false
set_option autoImplicit false
set_option maxRecDepth 100000
set_option maxHeartbeats 2000000
/-! F layer, part W: errors of the program's own classes over ValueError, LookupError, OverflowError, RuntimeError: made, raised. -/
namespace F
open PySem PySem.Spec PyProof.Rows L2
/-! ### classes over KeyError: LookupError's __new__, KeyError's __init__ -/
theorem keHas (C : Addr) (X : String) : (Value.ref C :: keTl).contains (.type X) = keTl.contains (.type X) := by
  rw [List.contains_cons]; rfl
section
open PySem.W PySem.Calls
variable {prog : Program} {w : World} {A : Around} {E : Value → Shared → Prop} {R : Result → Shared → Prop} {hp : Heap} {gs : Array GenState} {dr : Drawn} {tc : Nat} {os : OsState}
  {nm q : Str} {C N : Addr} {bs : List Value} {hd : Bool} {sn : List Str} {sub : List Value} {ab : Bool} {col : Option Bool} {dd : Option Addr} {k0 k1 k2 k3 k5 : Option Value} {us : List Value}
/-- KeyError.__init__(e, ..) -/
theorem ke_init {e t0 : Addr} (oc : hp.get? C = some (excClassObj nm q C N bs keTl hd sn sub ab col dd k0 k1 k2 k3 k5 "LookupError.__new__")) (oe : hp.get? e = some (PySem.HandSPX.excO C t0)) (sz : us.length ≤ sizeLine)
    (go : ∀ hq t1, (∀ c o, c ≠ e → hp.get? c = some o → hq.get? c = some o) → hq.get? e = some (PySem.HandSPX.excO C t1) → R (.ok (.ret .none)) ⟨hq, gs, dr, tc, os⟩) :
    codeAny (model prog w) A (.call (.builtin "KeyError.__init__") ⟨.ref e :: us, []⟩) R ⟨hp, gs, dr, tc, os⟩ := by
  have KE := excClass_KeyError
  have star := KE.notStar
  refine codeAny_call_builtin KE.init.plain KE.initEntry ?_
  simp only [checkBuiltinCall, KE.initKind, KE.initSplit, KE.initSig]
  repeat (first | (with_reducible refine wpAny_loadPart_at oe ?_) | (with_reducible refine wpAny_loadPart_at oc ?_) | (with_reducible refine wpAny_isSubtype_exc oc ?_; rw [keHas, show keTl.contains (.type "KeyError") = true from by decide +kernel]) | wp_step)
  apply wpAny_onRaise
  have any : ∀ (a b : String) (n : Nat) (l : List Str), l = [] → Bind.check ⟨.positional, "*", "KeyError", .self, [⟨"args", .varPos, false⟩]⟩ a b n l = pure () := fun a b n l z => by rw [z]; exact check_star_args ..
  refine wpAny_of_eq (any _ _ _ _ rfl) ?_
  wp_walk
  exact go _ hp.objs.size (fun c o ne oc => (Heap.get?_update_other _ _ (Ne.symm ne)).trans (Heap.get?_push_of_some _ oc)) ((Heap.get?_update_self _ (Heap.get?_push_of_some _ oe) rfl).trans rfl)
/-- KeyError's maker on such a class -/
theorem ke_new (oc : hp.get? C = some (excClassObj nm q C N bs keTl hd sn sub ab col dd k0 k1 k2 k3 k5 "LookupError.__new__")) (sz : us.length ≤ sizeLine)
    (go : R (.ok (.ret (.ref (hp.objs.size + 1)))) ⟨(hp.push (kdv_tup us)).push (PySem.HandSPX.excO C hp.objs.size), gs, dr, tc, os⟩) :
    codeAny (model prog w) A (.builtin "LookupError.__new__" ⟨.ref C :: us, []⟩) R ⟨hp, gs, dr, tc, os⟩ := by
  have LE := PySem.F.excBase_LookupError
  have ends := LE.ends
  have own := LE.owner
  apply codeAny_builtinAt LE.entry
  unfold Builtin.«BaseException.__new__»
  apply PySem.wpAt_bind
  show PySem.wpAt _ _ _ (stack >>= _) _ _ _
  apply PySem.wpAt_bind
  apply PySem.wpAt_stack
  intro p below
  apply PySem.wpAt_of_wpAny
  wp_walk
  apply PySem.wpAt_of_wpAny
  simp only [own]
  repeat (first | (with_reducible refine wpAny_madeHere_exc LE.canon oc ?_) | (with_reducible refine wpAny_loadPart_at oc ?_) | (with_reducible refine wpAny_isSubtype_exc oc ?_; simp only [keHas, show keTl.contains (.type "LookupError") = true from by decide +kernel, show keTl.contains (.type "AttributeError") = false from by decide +kernel, show keTl.contains (.type "NameError") = false from by decide +kernel]) | wp_step)
  change R _ _
  rewrite [Heap.size_push]
  exact go
theorem ke_chk {Q : Unit → Shared → Prop} {E : Value → Shared → Prop} (oc : hp.get? C = some (excClassObj nm q C N bs keTl hd sn sub ab col dd k0 k1 k2 k3 k5 "LookupError.__new__")) (go : Q () ⟨hp, gs, dr, tc, os⟩) :
    wpAny (model prog w) A (checkBuiltinCall "LookupError.__new__" ⟨.ref C :: us, []⟩) Q E ⟨hp, gs, dr, tc, os⟩ := by
  have LE := PySem.F.excBase_LookupError
  have star := LE.noStar
  simp only [checkBuiltinCall, LE.newKind, LE.newSplit, LE.newRow]
  repeat (first | (with_reducible refine wpAny_loadPart_at oc ?_) | (refine wpAny_isSubtype_exc oc ?_; rw [keHas, show keTl.contains (.type "LookupError") = true from by decide +kernel]) | (with_reducible refine wpAny_staticBase_exc oc ?_) | (with_reducible refine wpAny_madeBy_exc oc ?_) | simp only [bne_self_eq_false, Bool.false_eq_true, if_false] | wp_step)
  exact go
/-- the class called -/
theorem ke_call {fI : Addr} (oc : hp.get? C = some (excClassObj nm q C N bs keTl hd sn sub ab col dd k0 k1 k2 k3 k5 "LookupError.__new__")) (ini : Looks (model prog w) hp (typeLookup (.ref C) "__init__") (some (.ref fI)))
    (bnd : ∀ self, Looks (model prog w) hp (bindSpecial (.ref fI) self) (.ref fI, [self])) (sz : us.length ≤ sizeLine)
    (go : codeAny (model prog w) (A.under (.builtin "type.__call__" ⟨.ref C :: us, []⟩)) (.call (.ref fI) ⟨.ref (hp.objs.size + 1) :: us, []⟩) (InitBack (hp.objs.size + 1) R)
      ⟨(hp.push (kdv_tup us)).push (PySem.HandSPX.excO C hp.objs.size), gs, dr, tc, os⟩) :
    codeAny (model prog w) A (.call (.ref C) ⟨us, []⟩) R ⟨hp, gs, dr, tc, os⟩ := by
  have l1 := tc_lookup
  have l2 := tc_bind (.ref C)
  have isT : (⟨hp, gs, dr, tc, os⟩ : Shared).TypeIs (.ref C) "type" := ⟨_, oc, rfl⟩
  have keep : ∀ c o, hp.get? c = some o → ((hp.push (kdv_tup us)).push (PySem.HandSPX.excO C hp.objs.size)).get? c = some o := fun c o z => Heap.get?_push_of_some _ (Heap.get?_push_of_some _ z)
  have new : ((hp.push (kdv_tup us)).push (PySem.HandSPX.excO C hp.objs.size)).get? (hp.objs.size + 1) = some (PySem.HandSPX.excO C hp.objs.size) := by heap_get
  apply codeAny_of_tree
  show wpAny (model prog w) _ (callAny (.ref C) ⟨us, []⟩) _ _ _
  repeat (any_goals (first | assumption | (with_reducible refine wpAny_loadPart_at oc ?_) | wp_step))
  constructor
  · rfl
  refine codeAny_call_builtin_at (Code.quiet_builtin _ (by decide +kernel)) entry_typeCall (wpAny_check_type_call_sub oc ?tc)
  case tc =>
    show wpAny _ _ (Builtin.«type.__call__» ⟨.ref C :: us, []⟩) _ _ _
    repeat (first | (with_reducible refine wpAny_loadPart_at oc ?_) | (with_reducible refine wpAny_madeBy_exc oc ?_) | wp_step)
    refine codeAny_call_builtin_code (Code.quiet_builtin _ PySem.F.excBase_LookupError.quiet) (ke_chk oc (ke_new oc sz ?nw))
    case nw =>
      show wpAny _ _ _ _ _ _
      have self : (Value.ref C :: keTl).contains (.ref C) = true := by simp
      have oc2 := keep _ _ oc
      unfold isInstance
      repeat (first | (with_reducible refine wpAny_loadPart_at new ?_) | (with_reducible refine wpAny_isSubtype_exc oc2 ?_; rw [self]) | wp_step)
      show wpAny _ _ (typeLookup (.ref C) _) _ _ _
      refine (ini.keeps keep).at (wpAny_holding (wpAny_bind (((bnd _).keeps keep).at (wpAny_bind (wpAny_call (codeAny_mono go fun r sq z => ?_))))))
      cases r with
      | error er => exact z
      | ok fl =>
        cases fl with
        | ret u =>
          obtain ⟨e1, z⟩ := z
          subst e1
          first
            | exact wpAny_pure (wpAny_pure z)
            | (wp_walk; exact z)
        | next => exact z.elim
        | brk => exact z.elim
        | cont => exact z.elim
end
def XB.n : XB → String | .V => "ValueError" | .L => "LookupError" | .O => "OverflowError" | .R => "RuntimeError" | .K => "KeyError"
def XB.it : XB → String | .V => "ValueError.__init__" | .L => "LookupError.__init__" | .O => "OverflowError.__init__" | .R => "RuntimeError.__init__" | .K => "KeyError.__init__"
section
open PySem.W PySem.Calls
variable {prog : Program} {w : World} {A : Around} {R : Result → Shared → Prop} {hp : Heap} {gs : Array GenState} {dr : Drawn} {tc : Nat} {os : OsState}
  {nm q : Str} {C N : Addr} {bs : List Value} {hd : Bool} {sn : List Str} {sub : List Value} {ab : Bool} {col : Option Bool} {dd : Option Addr} {k0 k1 k2 k3 k5 : Option Value} {us : List Value}
/-- the base's __init__ on an error that is being made -/
theorem XB.base_ : ∀ (b : XB) {e t0 : Addr}, hp.get? C = some (excClassObj nm q C N bs b.tl hd sn sub ab col dd k0 k1 k2 k3 k5 b.nw) → hp.get? e = some (PySem.HandSPX.excO C t0) → us.length ≤ sizeLine →
    (∀ hq t1, (∀ c o, c ≠ e → hp.get? c = some o → hq.get? c = some o) → hq.get? e = some (PySem.HandSPX.excO C t1) → R (.ok (.ret .none)) ⟨hq, gs, dr, tc, os⟩) →
    codeAny (model prog w) A (.call (.builtin b.it) ⟨.ref e :: us, []⟩) R ⟨hp, gs, dr, tc, os⟩
  | .V, _, _, o, oe, sz, go => PySem.HandSPX.init_base PySem.F.excBase_ValueError (fun _ => rfl) o oe sz go
  | .L, _, _, o, oe, sz, go => PySem.HandSPX.init_base PySem.F.excBase_LookupError (fun _ => rfl) o oe sz go
  | .O, _, _, o, oe, sz, go => PySem.HandSPX.init_base PySem.F.excBase_OverflowError (fun _ => rfl) o oe sz go
  | .R, _, _, o, oe, sz, go => PySem.HandSPX.init_base PySem.F.excBase_RuntimeError (fun _ => rfl) o oe sz go
  | .K, _, _, o, oe, sz, go => ke_init o oe sz go
/-- such a class called -/
theorem XB.call_ : ∀ (b : XB) {fI : Addr}, hp.get? C = some (excClassObj nm q C N bs b.tl hd sn sub ab col dd k0 k1 k2 k3 k5 b.nw) → Looks (model prog w) hp (typeLookup (.ref C) "__init__") (some (.ref fI)) →
    (∀ self, Looks (model prog w) hp (bindSpecial (.ref fI) self) (.ref fI, [self])) → us.length ≤ sizeLine →
    codeAny (model prog w) (A.under (.builtin "type.__call__" ⟨.ref C :: us, []⟩)) (.call (.ref fI) ⟨.ref (hp.objs.size + 1) :: us, []⟩) (InitBack (hp.objs.size + 1) R)
      ⟨(hp.push (kdv_tup us)).push (PySem.HandSPX.excO C hp.objs.size), gs, dr, tc, os⟩ →
    codeAny (model prog w) A (.call (.ref C) ⟨us, []⟩) R ⟨hp, gs, dr, tc, os⟩
  | .V, _, o, i, b, sz, go => PySem.HandSPX.call_own PySem.F.excBase_ValueError (fun _ => rfl) o i b sz go
  | .L, _, o, i, b, sz, go => PySem.HandSPX.call_own PySem.F.excBase_LookupError (fun _ => rfl) o i b sz go
  | .O, _, o, i, b, sz, go => PySem.HandSPX.call_own PySem.F.excBase_OverflowError (fun _ => rfl) o i b sz go
  | .R, _, o, i, b, sz, go => PySem.HandSPX.call_own PySem.F.excBase_RuntimeError (fun _ => rfl) o i b sz go
  | .K, _, o, i, b, sz, go => ke_call o i b sz go
end
theorem XB.ps (v : Value) : ∀ b : XB, refuseLoop v "__setattr__" b.tl = pure ()
  | .V => by kernel_rfl
  | .L => by kernel_rfl
  | .O => by kernel_rfl
  | .R => by kernel_rfl
  | .K => by kernel_rfl
theorem XB.ob : ∀ b : XB, b.tl.contains (.type "object") = true
  | .V => by decide +kernel
  | .L => by decide +kernel
  | .O => by decide +kernel
  | .R => by decide +kernel
  | .K => by decide +kernel
theorem XB.boot : ∀ b : XB, bootBuiltins (Str.ofString b.n) = some (.type b.n)
  | .V => by kernel_rfl
  | .L => by kernel_rfl
  | .O => by kernel_rfl
  | .R => by kernel_rfl
  | .K => by kernel_rfl
theorem XB.ty : ∀ b : XB, typeOf (.type b.n) = pure (.type "type")
  | .V => by kernel_rfl
  | .L => by kernel_rfl
  | .O => by kernel_rfl
  | .R => by kernel_rfl
  | .K => by kernel_rfl
theorem XB.st : ∀ b : XB, Manifest.isStub b.n = false
  | .V => by decide +kernel
  | .L => by decide +kernel
  | .O => by decide +kernel
  | .R => by decide +kernel
  | .K => by decide +kernel
theorem XB.ih : ∀ b : XB, PySem.W.handedIn (.builtin b.it) = true
  | .V => by decide +kernel
  | .L => by decide +kernel
  | .O => by decide +kernel
  | .R => by decide +kernel
  | .K => by decide +kernel
theorem XB.d1 : ∀ b : XB, Str.ofString b.n ≠ ("__name__" : Str)
  | .V => by decide
  | .L => by decide
  | .O => by decide
  | .R => by decide
  | .K => by decide
theorem XB.d2 : ∀ b : XB, ((Str.ofString b.n) == ("__debug__" : Str)) = false
  | .V => by decide
  | .L => by decide
  | .O => by decide
  | .R => by decide
  | .K => by decide
theorem XB.ini (K : PySem.W.Frag) : ∀ b : XB, PySem.W.findCls K (.type b.n) (.type "type") "__init__" = some (.val (.builtin b.it))
  | .V => by kernel_rfl
  | .L => by kernel_rfl
  | .O => by kernel_rfl
  | .R => by kernel_rfl
  | .K => by kernel_rfl
/-- what the written part says of the class -/
structure Oex (K : PySem.W.Frag) (b : XB) (C : Addr) : Prop where
  cls : ∃ nm q N bs sn sub ab col dd k0 k1 k2 k3 k5, K.lookup C = some (excClassObj nm q C N bs b.tl true sn sub ab col dd k0 k1 k2 k3 k5 b.nw)
  sa : PySem.W.findIn K (.ref C) "__setattr__" = some (some (.builtin "object.__setattr__"))
  exC : PySem.W.subIn K (.ref C) (.type "BaseException") = some true
  tyC : PySem.W.typeIn K (.ref C) = some (.type "type")
  kC : PySem.W.keepIn K (.ref C) = true
section
open Builtin Builtin.ObjectAttr
/-- a first field of an error, stored by object.__setattr__ -/
theorem osa_first {pr : Program} {w : World} {A : Around} {R : Result → Shared → Prop} {hp : Heap} {gs : Array GenState} {dr : Drawn} {tc : Nat} {os : OsState} {K : PySem.W.Frag} {b : XB} {f : Str} {tk : Tok} {u : Value} {x C : Addr} {fv : Array Value} {cd : ClassData}
    (hk : K.In hp) (ox : hp.get? x = some { cls := .ref C, data := .fields fv }) (ec : PySem.W.clsIn K C = some cd) (em : cd.mro = .ref C :: b.tl) (ed : cd.hasDict = true) (en : PySem.W.findIn K (.ref C) f = some none)
    (go : ∀ hq tq dx, (∀ y o, y ≠ x → hp.get? y = some o → hq.get? y = some o) → hp.objs.size ≤ dx → dx ≠ x → hq.get? x = some { cls := .ref C, dict := some dx, data := .fields fv } →
      hq.Ns1 dx (fun y => if y = f then some u else none) → R (.ok (.ret .none)) ⟨hq, gs, dr, tq, os⟩) :
    codeAny (model pr w) A (.call (.builtin "object.__setattr__") ⟨[.ref x, .str f tk, u], []⟩) R ⟨hp, gs, dr, tc, os⟩ := by
  have at_ : PySem.W.InstAt hp x { cls := .ref C, data := .fields fv } C none := ⟨ox, rfl, rfl, trivial⟩
  have so := PySem.F.store_object
  have xs : x ≠ hp.objs.size := Nat.ne_of_lt (Heap.lt_size ox)
  have inm : PySem.W.mroIn K C (.type "object") = some true := by
    unfold PySem.W.mroIn
    rw [ec, Option.bind_some, em, if_neg (show ¬ (List.isEmpty (Value.ref C :: b.tl) = true) from Bool.false_ne_true), List.contains_cons, b.ob, Bool.or_true]
  have isO : PySem.W.Looks (model pr w) hp (isInstance (.ref x) (.type "object")) true := at_.type.andThen (PySem.W.looks_mroIn hk inm)
  refine codeAny_call_builtin so.slot.plain so.entry (@PySem.W.check_slot (model pr w) _ _ ⟨hp, gs, dr, tc, os⟩ "object.__setattr__" "object" "__setattr__" (.ref x) [.str f tk, u] [] _ so.kind so.split isO (so.args (.ref x) (.str f tk) u) ?_)
  have lm : PySem.W.Looks (model pr w) hp (mroOf (.ref C)) cd.mro := (PySem.W.looks_clsIn hk ec).andThen .now
  have lt : PySem.W.Looks (model pr w) hp (storeTaker? none) none := .now
  have lc : PySem.W.Looks (model pr w) hp (classData C) cd := PySem.W.looks_clsIn hk ec
  have pass : refuseLoop (.ref x) "__setattr__" cd.mro = pure () := by rw [em, refuseLoop_ref]; exact b.ps _
  rw [PySem.W.osa_eq, refuse_eq]
  refine wpAny_bind (wpAny_bind (at_.type.at (wpAny_bind (lm.at ?_))))
  rw [pass]
  refine wpAny_pure (wpAny_bind (at_.type.at (wpAny_bind ((PySem.W.looks_findIn hk en).at (wpAny_bind (lt.at ?_))))))
  show wpAny _ _ (storeInOwnDict (.ref x) (.ref C) (.str f tk) f u false) _ _ _
  obtain ⟨c1, c2, c3, c4, c5, c6, c7, c8, c9, c10, c11⟩ := cd
  dsimp only at ed
  subst ed
  unfold storeInOwnDict ownDictForStores
  repeat (first | with_reducible refine PySem.HandSPX.store_in_new ?_ ?_ | with_reducible refine wpAny_loadPart_at ox ?_ | with_reducible refine lc.at ?_ | wp_step)
  · exact ⟨_, #[], _, (Heap.get?_update_ne _ _ _ _ xs.symm).trans (Heap.get?_push_at rfl rfl), rfl, fun e z => absurd z (by simp), fun _ => rfl⟩
  · intro hq tq nq sm
    have ox1 : (hp.push { cls := .type "dict", data := .dict #[] }).get? x = some { cls := .ref C, data := .fields fv } := Heap.get?_push_of_some _ ox
    exact go hq tq hp.objs.size (fun y o ny oy => (sm.2 y (Nat.ne_of_lt (Heap.lt_size oy))).trans ((Heap.get?_update_ne _ _ _ _ ny).trans (Heap.get?_push_of_some _ oy))) (Nat.le_refl _) xs.symm ((sm.2 x xs).trans (Heap.get?_update_self _ ox1 rfl)) nq
end
theorem Oex.clsIn {K : PySem.W.Frag} {b : XB} {C : Addr} (T : Oex K b C) : ∃ cd, PySem.W.clsIn K C = some cd ∧ cd.mro = .ref C :: b.tl ∧ cd.hasDict = true := by
  obtain ⟨nm, q, N, bs, sn, sub, ab, col, dd, k0, k1, k2, k3, k5, e⟩ := T.cls
  refine ⟨{ name := nm, bases := bs, mro := .ref C :: b.tl, ns := N, qualname := q, hasDict := true, slotNames := sn, subclasses := sub, abstract := ab, collection := col, hasDel := false }, ?_, rfl, rfl⟩
  unfold PySem.W.clsIn
  rw [e] <;> rfl
section
variable {X : Cx} {pins : List (Addr × Obj)} {σ : St} {H : Hp} {s : Shared} {b : XB} {a C : Addr} {f : Str} {y : V} {u : Value} {E : Value → Shared → Prop} {A : Around}
/-- self.f = y, on an error without fields -/
theorem fst_new {Q : Unit → Shared → Prop} (T : Oex X.K b C) (I : Inv X pins σ H s) (e : H a = some (exo a C none)) (en : PySem.W.findIn X.K (.ref C) f = some none) (ry : RelV y u)
    (go : ∀ dx sq, H dx = none → dx ≠ a → Inv X pins σ (upd (upd H dx (exd dx [(f, y)])) a (exo a C (some dx))) sq → Q () sq) : wpAny (model X.prog X.w) A (setAttr (.ref a) f u) Q E s := by
  obtain ⟨cd, ec, em, ed⟩ := T.clsIn
  obtain ⟨t1, ho⟩ := exo_at I.hok e
  obtain ⟨hp, gs, dr, tc, os⟩ := s
  refine PySem.W.set_plain I.kIn (ox := { cls := .ref C, dict := none, data := .fields #[.ref t1, .none, .none, .none, .bool false, .none] }) (od := none) ⟨ho, rfl, rfl, trivial⟩ T.sa ?_
  refine osa_first I.kIn ho ec em ed en fun hq tq dx k dn dne hx hn => ?_
  have d0 : H dx = none := I.hok.fresh dn
  have nd : ∀ {c : Addr} {o : Obj}, hp.get? c = some o → c ≠ dx := fun {c o} q => Nat.ne_of_lt (Nat.lt_of_lt_of_le (Heap.lt_size q) dn)
  have na : ∀ {c : Addr}, H c = none → c ≠ a := fun {c} n z => by
    rw [z, e] at n
    cases n
  have U : Un X.fs [] H (upd (upd H dx (exd dx [(f, y)])) a (exo a C (some dx))) hp hq :=
    ⟨fun c o q n _ _ => k c o (na n) q, fun c o q n _ _ => ⟨o.slots, k c o (na n) q⟩, fun c o q n _ => by rw [upd_ne (na n), upd_ne (nd q)]; exact n,
      fun c o q _ => by
        by_cases z : c = a
        · exact ⟨_, z ▸ hx⟩
        · exact ⟨o, k c o z q⟩,
      fun c xs q => by rw [upd_ne (at_ne e q exo_tup), upd_ne (ne_of_none q d0)]; exact q, fun c o v q => by rw [upd_ne (at_ne e q exo_frz), upd_ne (ne_of_none q d0)]; exact q,
      fun c ps q => ⟨#[], by rw [upd_ne (at_ne e q exo_tbl), upd_ne (ne_of_none q d0), q]; simp⟩⟩
  refine go dx _ d0 dne (I.un (t' := tq) U fun c o q => ?_)
  by_cases z : c = a
  · subst z
    rw [upd_same] at q
    cases q
    exact exo_ok hx
  · rw [upd_ne z] at q
    by_cases z2 : c = dx
    · subst z2
      rw [upd_same] at q
      cases q
      exact exd_ok hn (relO_put (fs := []) ry fun g => True.intro)
    · rw [upd_ne z2] at q
      refine (I.hok c o q).stay (fun c2 v hc z3 => k c2 v ?_ z3) (fun c2 hc => by rw [upd_ne (at_ne e hc exo_own), upd_ne (ne_of_none hc d0)]; exact hc) (fun c2 xs hc => by rw [upd_ne (at_ne e hc exo_tup), upd_ne (ne_of_none hc d0)]; exact hc)
      rcases hc with hc | hc
      · rw [hc]; exact z
      · exact at_ne e hc exo_own
/-- the base's own __init__ -/
theorem fin_base {us : List Value} {Q : Value → Shared → Prop} (T : Oex X.K b C) (I : Inv X pins σ H s) (e : H a = some (exo a C none)) (hl : us.length ≤ sizeLine) (go : ∀ sq, Inv X pins σ H sq → Q .none sq) :
    wpAny (model X.prog X.w) A (call (.builtin b.it) (.ref a :: us)) Q E s := by
  obtain ⟨nm, q, N, bs, sn, sub, ab, col, dd, k0, k1, k2, k3, k5, ec⟩ := T.cls
  obtain ⟨t1, ho⟩ := exo_at I.hok e
  obtain ⟨hp, gs, dr, tc, os⟩ := s
  refine wpAny_call (b.base_ (I.kIn _ _ ec) ho hl fun hq t2 k hx => ?_)
  have J := I.write (t' := tc) (x := a) (e := a) (o := exo a C none) (by rw [e]; exact True.intro) (.inl rfl) k ⟨_, hx⟩ (exo_ok hx)
  rw [show upd H a (exo a C none) = H from funext fun c => by
    by_cases z : c = a
    · rw [z, upd_same, e]
    · rw [upd_ne z]] at J
  exact go _ J
end
def tBI (K : PySem.W.Frag) (b : XB) (ta : TA) : TE := fun σ H Q => ta σ H fun vs H1 => ∃ (a C : Addr) (ws : List V), vs = .ref a :: ws ∧ ws.length ≤ 1000 ∧ Oex K b C ∧ H1 a = some (exo a C none) ∧ Q .non H1
def tF1 (K : PySem.W.Frag) (f : Str) (to te : TE) : TS := fun D σ H => te σ H fun y H1 => to σ H1 fun x H2 => ∃ (b : XB) (a C : Addr), x = .ref a ∧ Oex K b C ∧ PySem.W.findIn K (.ref C) f = some none ∧
  H2 a = some (exo a C none) ∧ ∀ dx, H2 dx = none → dx ≠ a → D.nx σ (upd (upd H2 dx (exd dx [(f, y)])) a (exo a C (some dx)))
section
variable {X : Cx} {o e : Expr} {es : List Expr} {to te : TE} {ta : TA} {f : Str} {p p' p1 p2 pos : Pos}
theorem pe_baseinit {b : XB} {nb : Str} {pl : Sem Bool} (hnb : nb = Str.ofString b.n) (hg : Gl X nb) (hm : X.mg nb = none) (ha : PA X (e :: es) ta)
    (hc : eval (.Call (.Attribute (.Name nb p1) "__init__" p2) (e :: es) [] pos) X.env = (eval (.Name nb p1) X.env >>= fun ov => standAt p2.atName >>= fun _ => holding [ov] (getMethod ov "__init__" pl) >>= fun fx =>
      callWith pos fx.1 fx.2 (backTo pos (starEach (e :: es) X.env)) (backToKw pos (keywordEach [] X.env))) := by rfl)
    (he : starEach (e :: es) X.env = (false, eval e X.env) :: starEach es X.env := by rfl) (hpl : (backTo pos (starEach es X.env)).any (·.1) = false := by rfl) :
    PE X (.Call (.Attribute (.Name nb p1) "__init__" p2) (e :: es) [] pos) (tBI X.K b ta) := by
  subst hnb
  refine ⟨fun pins s σ H Q I h => ?_⟩
  refine PySem.W.methodCall_KW (ld_blt I hg hm b.boot ?_ b.d1 b.d2) hc
  obtain ⟨m, fr⟩ := I.fr
  refine PySem.W.method_type fr I.ok.mod.kin b.ty b.st (b.ini X.K) b.ih ?_
  show wpAny _ _ (callWith pos (Value.builtin b.it) [] (backTo pos (starEach (e :: es) X.env)) []) _ _ _
  refine PyProof.Rows.callWith_method1 (thn (ha.run pos pins _ σ H _ (I.tok _) h) fun us s1 ⟨vs, H1, I1, r1, a, C, ws, ev, hl, T, ea, q⟩ => ?_) he hpl
  subst ev
  cases r1 with
  | @cons _ u0 _ ur ra rw' =>
    obtain rfl : u0 = Value.ref a := ra
    exact fin_base T I1 ea (by rw [← Paired.length rw', sizeLine_eq]; omega) fun sq J => ⟨.non, H1, J, rfl, q⟩
theorem ps_fst (ho : PE X o to) (he : PE X e te) (hs : swapsWith e (some (.Attribute o f p')) pos.line X.env = pure false := by rfl) : PS X (.Assign [.Attribute o f p'] e pos) (tF1 X.K f to te) := by
  refine ⟨fun pins s σ H D I h => ?_⟩
  refine plainObj_wpAny_Assign_Attribute (thn (he.run pins s σ H _ I h) fun v s1 ⟨y, H1, I1, r1, q1⟩ => thn (ho.run pins s1 σ H1 _ I1 q1) fun u s2 ⟨x, H2, I2, r2, b, a, C, ex, T, en, ea, q⟩ => ?_) hs
  subst ex
  obtain rfl : u = Value.ref a := r2
  exact fst_new T I2 ea en r1 fun dx sq n ne J => ⟨σ, _, J, q dx n ne⟩
end
/-- what an __init__ that keeps one value promises -/
def spI (C : Addr) (f : Str) : Sp := fun vs H Q _ => ∃ a x, vs = [.ref a, x] ∧ H a = some (exo a C none) ∧ ∀ dx, H dx = none → dx ≠ a → Q .non (upd (upd H dx (exd dx [(f, x)])) a (exo a C (some dx)))
section
variable {P : Program} {w : World} {K : PySem.W.Frag} {mg : Str → Option Value} {base : Heap}
theorem init_fn {CX : CXT} {b : XB} {nb qual x f msg : Str} {params : Arguments} {scope : Scope} {fI C : Addr} {fd : FuncData} {body : List Stmt} {j : Nat} {p1 p2 p3 p4 p5 p6 q1 q2 q3 q4 : Pos} (hnb : nb = Str.ofString b.n) (F : FunD K "__init__" qual params body scope [] [] fI fd) (S : FnScope ["self", x] ["self", x] scope) (T : Oex K b C)
    (no : PySem.W.findIn K (.ref C) f = some none) (hm : mg nb = none)
    (hb : body = [.Expr (.Call (.Attribute (.Name nb p1) "__init__" p2) [.Name "self" p3, .Constant (.str msg) j p4] [] p5) p6, .Assign [.Attribute (.Name "self" q1) f q2] (.Name x q3) q4])
    (hg : scope.names.lookup nb = some NameKind.globalImplicit) (v0 : Vis scope "self") (v1 : Vis scope x) (hl : (p2.endLine == p5.line) = true) (hd : (x == ("__debug__" : Str)) = false) (hcd : (x == ("__classdict__" : Str)) = false) :
    FnOk P w K mg base CX 1 fI fd ["self", x] (spI C f) := by
  subst hb
  refine FunD.ok (k := 0) F S (fun vs H Q E h => by obtain ⟨a, y, e, _⟩ := h; rw [e]; rfl) fun cdv A outer s H vs Q E hr hsp => ?_
  obtain ⟨a, y, rfl, ha, hq⟩ := hsp
  let X := cxOf CX P w K mg base ["self", x] qual scope fI cdv A outer s H E
  have hc : eval (.Call (.Attribute (.Name nb p1) "__init__" p2) [.Name "self" p3, .Constant (.str msg) j p4] [] p5) X.env = (eval (.Name nb p1) X.env >>= fun ov => standAt p2.atName >>= fun _ => holding [ov] (getMethod ov "__init__" (plainOf (.Name nb p1) X.env)) >>= fun fx =>
      callWith p5 fx.1 fx.2 (backTo p5 (starEach [.Name "self" p3, .Constant (.str msg) j p4] X.env)) (backToKw p5 (keywordEach [] X.env))) := by
    have := fun ov => mcall_line (o := .Name nb p1) (m := "__init__") (apos := p2) (pos := p5) (env := X.env) (ov := ov) (n := 2) (args := backTo p5 (starEach [.Name "self" p3, .Constant (.str msg) j p4] X.env)) (kws := backToKw p5 (keywordEach [] X.env)) rfl hl
    simp only [← this]
    rfl
  refine ⟨_, pss_cons (ps_expr (pe_baseinit (X := X) (pl := plainOf (.Name nb p1) X.env) hnb hg hm (pa_cons (pe_var (i := 0) rfl v0) (pa_cons pe_str pa_nil)) hc)) (pss_one (ps_fst (X := X) (pe_var (i := 0) rfl v0) (pe_var (i := 1) rfl v1 hd hcd))), ?_⟩
  · exact ⟨.ref a, rfl, a, C, [.str msg], rfl, (show 1 ≤ 1000 by decide), T, ha, y, rfl, .ref a, rfl, b, a, C, rfl, T, no, ha, fun dx h1 h2 => hq dx h1 h2⟩
end
/-- a class of errors whose __init__ keeps one value -/
structure XcOk (P : Program) (w : World) (K : PySem.W.Frag) (mg : Str → Option Value) (base : Heap) (t : Tb) (k : Nat) (x : Str) : Prop where
  T : ∃ b, Oex K b (t.cls k)
  ini : ∃ fI fd y, PySem.W.findIn K (.ref (t.cls k)) "__init__" = some (some (.ref fI)) ∧ PySem.W.typeIn K (.ref fI) = some (.type "function") ∧ FnOk P w K mg base (L2.CX P w) 1 fI fd ["self", y] (spI (t.cls k) (t.xf k)) ∧ Binds K fd ["self", y] []
  gC : mg x = some (.ref (t.cls k))
section
variable {X : Cx} {t : Tb} {W : WX} {P : Nat → Bool} {a : Expr} {ma : M R} {pos pos' p : Pos}
end
end F
end

section
set_option Elab.async false
set_option linter.all false
set_option autoImplicit false
set_option maxRecDepth 100000
set_option maxHeartbeats 2000000
/-! F layer, part X: try: body / except C as e: suite. -/
namespace F
open PySem PySem.Spec PyProof.Rows L2
/-! ### data without some kinds of described things -/
mutual
def D.exs (g : Nat → Bool) : D → Bool
  | .non | .bl _ | .int _ | .str _ => true
  | .tup l | .lst l | .obj _ l => exsL g l
  | .dct l => exsK g l
  | .ex k _ => g k
def exsL (g : Nat → Bool) : List D → Bool
  | [] => true
  | d :: ds => d.exs g && exsL g ds
def exsK (g : Nat → Bool) : List (Ky × D) → Bool
  | [] => true
  | (_, d) :: ds => d.exs g && exsK g ds
end
mutual
def O.exs (g : Nat → Bool) : O → Bool
  | .sh d => d.exs g
  | .fl l => exsL g l
  | .fd l => exsK g l
  | .fo _ l => exsO g l
def exsO (g : Nat → Bool) : List O → Bool
  | [] => true
  | o :: os => o.exs g && exsO g os
end
mutual
theorem D.exs_all : ∀ d : D, d.exs (fun _ => true) = true
  | .non => rfl
  | .bl _ => rfl
  | .int _ => rfl
  | .str _ => rfl
  | .tup l => exsL_all l
  | .lst l => exsL_all l
  | .obj _ l => exsL_all l
  | .dct l => exsK_all l
  | .ex k _ => rfl
theorem exsL_all : ∀ l : List D, exsL (fun _ => true) l = true
  | [] => rfl
  | d :: ds => by
    show (d.exs _ && exsL _ ds) = true
    rw [D.exs_all d, exsL_all ds]
    rfl
theorem exsK_all : ∀ l : List (Ky × D), exsK (fun _ => true) l = true
  | [] => rfl
  | (_, d) :: ds => by
    show (d.exs _ && exsK _ ds) = true
    rw [D.exs_all d, exsK_all ds]
    rfl
end
mutual
theorem O.exs_all : ∀ o : O, o.exs (fun _ => true) = true
  | .sh d => D.exs_all d
  | .fl l => exsL_all l
  | .fd l => exsK_all l
  | .fo _ l => exsO_all l
theorem exsO_all : ∀ l : List O, exsO (fun _ => true) l = true
  | [] => rfl
  | o :: os => by
    show (o.exs _ && exsO _ os) = true
    rw [O.exs_all o, exsO_all os]
    rfl
end
section
variable {K : PySem.W.Frag} {cl : Nat → Addr} {fl : Nat → List Str} {tb : List (Addr × Option Str)} {ex ex' : Nat → D → V → Hp → Prop} {m m' r r'} {g : Nat → Bool}
theorem bAnd {a b : Bool} (h : (a && b) = true) : a = true ∧ b = true := Bool.and_eq_true_iff.mp h
mutual
theorem Dat.cv (h : ∀ k d v H, g k = true → ex k d v H → ex' k d v H) {H : Hp} : ∀ (d : D) (v : V), d.exs g = true → Dat ⟨K, cl, fl, tb, ex, m, r⟩ H d v → Dat ⟨K, cl, fl, tb, ex', m', r'⟩ H d v
  | .non, _, _, x => x
  | .bl _, _, _, x => x
  | .int _, _, _, x => x
  | .str _, _, _, x => x
  | .tup l, _, e, ⟨hl, a, vs, h1, h2, h3⟩ => ⟨hl, a, vs, h1, h2, Dats.cv h l vs e h3⟩
  | .lst l, _, e, ⟨hl, a, vs, h1, h2, h3⟩ => ⟨hl, a, vs, h1, h2, Dats.cv h l vs e h3⟩
  | .dct l, _, e, ⟨hl, a, vs, h1, h2, h3⟩ => ⟨hl, a, vs, h1, h2, DatK.cv h l vs e h3⟩
  | .obj k l, _, e, ⟨a, dx, fs, h1, h2, h3, h4⟩ => ⟨a, dx, fs, h1, h2, h3, Dats.cv h l _ e h4⟩
  | .ex k d, _, e, x => h k d _ _ e x
theorem Dats.cv (h : ∀ k d v H, g k = true → ex k d v H → ex' k d v H) {H : Hp} : ∀ (l : List D) (vs : List V), exsL g l = true → Dats ⟨K, cl, fl, tb, ex, m, r⟩ H l vs → Dats ⟨K, cl, fl, tb, ex', m', r'⟩ H l vs
  | [], _, _, x => x
  | d :: ds, _, e, ⟨v, q, h1, h2, h3⟩ => ⟨v, q, h1, Dat.cv h d v (bAnd e).1 h2, Dats.cv h ds q (bAnd e).2 h3⟩
theorem DatK.cv (h : ∀ k d v H, g k = true → ex k d v H → ex' k d v H) {H : Hp} : ∀ (l : List (Ky × D)) (vs : List (Key × V)), exsK g l = true → DatK ⟨K, cl, fl, tb, ex, m, r⟩ H l vs → DatK ⟨K, cl, fl, tb, ex', m', r'⟩ H l vs
  | [], _, _, x => x
  | (k, d) :: ds, _, e, ⟨v, q, h1, h2, h3⟩ => ⟨v, q, h1, Dat.cv h d v (bAnd e).1 h2, DatK.cv h ds q (bAnd e).2 h3⟩
end
mutual
theorem OwnR.cv (h : ∀ k d v H, g k = true → ex k d v H → ex' k d v H) {H0 H : Hp} : ∀ (o : O) (v : V) (as : List Addr), o.exs g = true → OwnR ⟨K, cl, fl, tb, ex, m, r⟩ H0 H o v as → OwnR ⟨K, cl, fl, tb, ex', m', r'⟩ H0 H o v as
  | .sh d, _, _, e, ⟨h1, h2⟩ => ⟨h1, Dat.cv h d _ e h2⟩
  | .fl l, _, _, e, ⟨hl, a, vs, h1, h2, h3, h4⟩ => ⟨hl, a, vs, h1, h2, h3, Dats.cv h l vs e h4⟩
  | .fd l, _, _, e, ⟨hl, a, vs, h1, h2, h3, h4⟩ => ⟨hl, a, vs, h1, h2, h3, DatK.cv h l vs e h4⟩
  | .fo k l, _, _, e, ⟨a, dx, fs, bs, h1, h2, h3, h4, h5, h6⟩ => ⟨a, dx, fs, bs, h1, h2, h3, h4, h5, OwnRs.cv h l _ bs e h6⟩
theorem OwnRs.cv (h : ∀ k d v H, g k = true → ex k d v H → ex' k d v H) {H0 H : Hp} : ∀ (os : List O) (vs : List V) (as : List Addr), exsO g os = true → OwnRs ⟨K, cl, fl, tb, ex, m, r⟩ H0 H os vs as → OwnRs ⟨K, cl, fl, tb, ex', m', r'⟩ H0 H os vs as
  | [], _, _, _, x => x
  | o :: os, _, _, e, ⟨v, q, bs, cs, h1, h2, h3, h4⟩ => ⟨v, q, bs, cs, h1, h2, OwnR.cv h o v bs (bAnd e).1 h3, OwnRs.cv h os q cs (bAnd e).2 h4⟩
end
theorem Rp.cv (h : ∀ k d v H, g k = true → ex k d v H → ex' k d v H) {H0 Fr H : Hp} {σ : St} {e : Env} {as : Nat → List Addr} (rp : Rp ⟨K, cl, fl, tb, ex, m, r⟩ H0 Fr H σ e as) (he : ∀ i o, slot e i = some o → o.exs g = true) : Rp ⟨K, cl, fl, tb, ex', m', r'⟩ H0 Fr H σ e as :=
  ⟨rp.len, rp.sub, rp.fr, fun i o q => let ⟨v, h1, h2⟩ := rp.own i o q; ⟨v, h1, OwnR.cv h o v _ (he i o q) h2⟩, rp.off, rp.sep, rp.nd, rp.emp, ⟨rp.tab.at_, rp.tab.n0, rp.tab.nF, rp.tab.na⟩⟩
end
/-! ### try -/
def g9 (k : Nat) : Bool := k != 9
def cleanE (e : Env) : Env := e.map fun s => match s with
  | some o => if o.exs g9 = true then some o else none
  | none => none
theorem cleanE_len (e : Env) : (cleanE e).length = e.length := List.length_map _
theorem cleanE_slot {e : Env} {i : Nat} {o : O} (h : slot (cleanE e) i = some o) : slot e i = some o ∧ o.exs g9 = true := by
  unfold slot cleanE at h
  rw [List.getElem?_map] at h
  unfold slot
  cases q : e[i]? with
  | none => rw [q] at h; cases h
  | some s =>
    rw [q] at h
    cases s with
    | none => cases h
    | some o1 =>
      simp only [Option.map_some] at h
      by_cases z : o1.exs g9 = true
      · rw [if_pos z] at h
        cases h
        exact ⟨rfl, z⟩
      · rw [if_neg z] at h
        cases h
/-- behind the suite -/
def sufEnd (i : Nat) : SR → SR
  | .nx e => .nx (cleanE (e.set i none))
  | .bk e => .bk (cleanE (e.set i none))
  | .ct e => .ct (cleanE (e.set i none))
  | .rt o e => if o.exs g9 = true then .rt o (cleanE (e.set i none)) else .bad
  | .ex _ _ _ => .bad
  | .bad => .bad
/-- the caught error, as a thing described -/
def sufEx (t : Tb) (K : PySem.W.Frag) (a : Addr) (cls : Value) (dx : Option Addr) (k : Nat) (d : D) (v : V) (H : Hp) : Prop :=
  t.ex k d v H ∨ (k = 9 ∧ ∃ (j : Nat) (p : D), d = .tup [.int (j : Nat), p] ∧ v = .ref a ∧ cls = .ref (t.cls j) ∧ ((∃ dd vp, dx = some dd ∧ H dd = some (.xd [(t.xf j, vp)]) ∧ Dat ⟨K, t.cls, t.fld, t.tabs, t.ex, t.exM, t.exR⟩ H p vp) ∨ (dx = none ∧ p = .non ∧ t.xf j = Str.empty)))
def sufT (t : Tb) (K : PySem.W.Frag) (a : Addr) (cls : Value) (dx : Option Addr) : Tb := ⟨t.cls, t.fld, t.xf, t.tabs, sufEx t K a cls dx, fun k d v H H' s h => by
    rcases h with h | ⟨h1, j, p, h2, h3, h4, h5⟩
    · exact .inl (t.exM k d v H H' s h)
    · refine .inr ⟨h1, j, p, h2, h3, h4, ?_⟩
      rcases h5 with ⟨dd, vp, h5, h6, h7⟩ | h5
      · exact .inl ⟨dd, vp, h5, s _ _ h6, Dat.mono s _ _ h7⟩
      · exact .inr h5, fun k d v H h => by
    rcases h with h | ⟨h1, j, p, h2, h3, h4, h5⟩
    · exact t.exR k d v H h
    · exact ⟨a, h3⟩⟩
section
variable {X : Cx} {t : Tb} {W : WX} {P : Nat → Bool} {pos pos' np : Pos}
theorem Rp.up {t : Tb} {K : PySem.W.Frag} {a : Addr} {cls : Value} {dx : Option Addr} {H0 Fr H : Hp} {σ : St} {e : Env} {as : Nat → List Addr} (rp : Rp ⟨K, t.cls, t.fld, t.tabs, t.ex, t.exM, t.exR⟩ H0 Fr H σ e as) :
    Rp ⟨K, (sufT t K a cls dx).cls, (sufT t K a cls dx).fld, (sufT t K a cls dx).tabs, (sufT t K a cls dx).ex, (sufT t K a cls dx).exM, (sufT t K a cls dx).exR⟩ H0 Fr H σ e as :=
  Rp.cv (g := fun _ => true) (fun k d v H _ h => .inl h) rp fun _ _ _ => O.exs_all _
theorem sufDown {t : Tb} {K : PySem.W.Frag} {a : Addr} {cls : Value} {dx : Option Addr} : ∀ k d v H, g9 k = true → (sufT t K a cls dx).ex k d v H → t.ex k d v H := fun k d v H hg h => by
  rcases h with h | ⟨h, _⟩
  · exact h
  · subst h
    cases hg
theorem Rp.clean {t : Tb} {K : PySem.W.Frag} {a : Addr} {cls : Value} {dx : Option Addr} {H0 Fr H : Hp} {σ : St} {e : Env} {as : Nat → List Addr} {i : Nat}
    (rp : Rp ⟨K, (sufT t K a cls dx).cls, (sufT t K a cls dx).fld, (sufT t K a cls dx).tabs, (sufT t K a cls dx).ex, (sufT t K a cls dx).exM, (sufT t K a cls dx).exR⟩ H0 Fr H σ e as) :
    ∃ as', Rp ⟨K, t.cls, t.fld, t.tabs, t.ex, t.exM, t.exR⟩ H0 Fr H (σ.set i none) (cleanE (e.set i none)) as' := by
  obtain ⟨as1, r1⟩ := rp.re (σ' := σ.set i none) (e' := cleanE (e.set i none)) (by rw [cleanE_len]; simpa using rp.len) id (fun j o q => by
    obtain ⟨h1, _⟩ := cleanE_slot q
    obtain ⟨hj, h2⟩ := slot_none h1
    exact ⟨h2, List.getElem?_set_ne (Ne.symm hj)⟩) (fun i j _ _ _ _ h => h)
  exact ⟨as1, Rp.cv sufDown r1 fun j o q => (cleanE_slot q).2⟩
theorem Rp.clean0 {t : Tb} {K : PySem.W.Frag} {a : Addr} {cls : Value} {dx : Option Addr} {H0 Fr H : Hp} {σ : St} {e : Env} {as : Nat → List Addr} {i : Nat}
    (rp : Rp ⟨K, (sufT t K a cls dx).cls, (sufT t K a cls dx).fld, (sufT t K a cls dx).tabs, (sufT t K a cls dx).ex, (sufT t K a cls dx).exM, (sufT t K a cls dx).exR⟩ H0 Fr H σ e as) :
    ∃ as', Rp ⟨K, t.cls, t.fld, t.tabs, t.ex, t.exM, t.exR⟩ H0 Fr H σ (cleanE (e.set i none)) as' := by
  obtain ⟨as1, r1⟩ := rp.re (σ' := σ) (e' := cleanE (e.set i none)) (by rw [cleanE_len]; simpa using rp.len) id (fun j o q => by
    obtain ⟨h1, _⟩ := cleanE_slot q
    obtain ⟨hj, h2⟩ := slot_none h1
    exact ⟨h2, rfl⟩) (fun i j _ _ _ _ h => h)
  exact ⟨as1, Rp.cv sufDown r1 fun j o q => (cleanE_slot q).2⟩
/-! ### e.f -/
end
end F
end

section
set_option Elab.async false
set_option linter.all false
set_option autoImplicit false
set_option maxRecDepth 100000
set_option maxHeartbeats 4000000
/-! F layer, part Y: isinstance of a caught error that has fields. -/
namespace F
open PySem PySem.Spec PyProof.Rows L2
section
open PySem.W PySem.Calls
variable {prog : Program} {w : World} {K : Frag} {x D0 : Addr} {ox : Obj}
theorem find_cls {od : Option Obj} (C : ExcC K D0) : findObj K D0 od "__class__" = some (.bind (.builtin "getset_descriptor.__get__") (.builtin "object.__class__")) := by
  obtain ⟨cd, hc, _⟩ := any_some C.hd
  simp only [findObj, hc, C.ha, C.hn, C.ht, Option.bind_some]
theorem cls_attr {A : Around} {E : Value → Shared → Prop} {s : Shared} {Q : Option Value → Shared → Prop} {od : Option Obj} (C : ExcC K D0) (X : K.In s.heap) (J : InstAt s.heap x ox D0 od) (h : Q (some (.ref D0)) { s with toks := s.toks + 1 }) : wpAny (model prog w) A (getAttr? (.ref x) "__class__") Q E s := by
  obtain ⟨hp, g, d, t, os⟩ := s
  have LT := J.type (M := model prog w)
  have LG := looks_findIn (M := model prog w) X C.hg
  have LK := looks_findIn (M := model prog w) X C.hk
  have LF := looks_find (M := model prog w) X J (find_cls C)
  have LS : Looks (model prog w) hp (isInstance (.ref x) (.type "BaseException")) true := LT.andThen (looks_subIn X C.hs)
  have nb : (Value.builtin "BaseException.__getattribute__" == Value.builtin "object.__getattribute__") = false := by decide +kernel
  unfold getAttr? getAttrBy? getAttrBy
  refine wpAny_bind (wpAny_mkText (wpAny_bind (wpAny_attempt (wpAny_holding (wpAny_bind (LT.at (wpAny_bind (LG.at ?gab))))))))
  case gab =>
    have off : (onTheHeap (Value.ref D0) && Value.builtin "BaseException.__getattribute__" == Value.builtin "object.__getattribute__") = false := by rw [nb, Bool.and_false]
    simp only []
    show wpAny _ _ (if (onTheHeap (Value.ref D0) && Value.builtin "BaseException.__getattribute__" == Value.builtin "object.__getattribute__") = true then _ else _) _ _ _
    rw [if_neg (by rw [off]; exact Bool.false_ne_true)]
    unfold getAttrByItsOwn hookBefore
    refine wpAny_bind ?hook
    case hook =>
      have on : onTheHeap (Value.ref D0) = true := rfl
      simp only [on, if_true]
      refine LK.at (wpAny_bind (wpAny_attempt (wpAny_holding ?_)))
      unfold callGetattribute
      simp only [Bool.false_and, Bool.false_eq_true, if_false]
      unfold boundAndCalled
      rw [PySem.F.excAttr_ValueError.ga.bind (Value.ref x)]
      refine wpAny_bind (wpAny_pure ?_)
      show wpAny (model prog w) A (call (Value.builtin "BaseException.__getattribute__") [Value.ref x, Value.str "__class__" t]) _ _ _
      refine wpAny_call (codeAny_call_builtin (PySem.F.excAttr_ValueError.ga.plain) PySem.F.entry_bexc_ga ?_)
      refine @check_slot (model prog w) _ _ { heap := hp, gens := g, drawn := d, toks := t + 1, os := os } "BaseException.__getattribute__" "BaseException" "__getattribute__" (Value.ref x) [Value.str "__class__" t] [] _ (by decide +kernel) (by decide +kernel) LS (PySem.F.args_bexc_ga (Value.ref x) (Value.str "__class__" t)) ?bod
      case bod =>
        unfold Builtin.«object.__getattribute__»
        refine wpAny_bind (wpAny_of_eq (a := ((Value.ref x : Value), [Value.str "__class__" t])) (by first | rfl | (simp only [slotArgs]; rfl)) (wpAny_bind (wpAny_pure (wpAny_bind (LT.at (wpAny_bind (LF.at ?gs)))))))
        case gs =>
          show wpAny _ _ (holding [Value.builtin "object.__class__"] (call (.builtin "getset_descriptor.__get__") [.builtin "object.__class__", .ref x, .ref D0]) >>= ret) _ _ _
          refine wpAny_bind (wpAny_holding (wpAny_call (class_get (s := ⟨hp, g, d, t + 1, os⟩) (ox := ox) (od := od) X J C.hm (wpAny_pure ?ho))))
          case ho =>
            show wpAny _ _ (handedOut (.ref D0)) _ _ _
            rw [handedOut_of (v := .ref D0) rfl]
            first
              | exact wpAny_pure (wpAny_pure h)
              | exact wpAny_pure h
              | exact wpAny_pure (wpAny_bind (wpAny_pure (wpAny_pure h)))
theorem kit_exc {od : Option Obj} (C : ExcC K D0) : KitX K (.ref x) (.ref D0) (fun h => InstAt h x ox D0 od) := by
  have Z := handS_kitx_exc (x := x) (ox := ox) C.hg C.hk C.hs C.hd C.ha C.hn C.ht C.hm
  have there : ∃ o : Obj, K.lookup D0 = some o ∧ ∀ v n, o.data ≠ .seq v n := by
    obtain ⟨cd, hc, _⟩ := any_some C.hd
    unfold clsIn at hc
    split at hc
    · rename_i lk
      exact ⟨_, lk, fun _ _ z => by cases z⟩
    · cases hc
  refine ⟨fun M h _ J => J.type, fun M h X _ => ?_, fun h tp dd its n sl X e => ?_, fun X J q => cls_attr C X J q⟩
  · obtain ⟨cd, hc, _⟩ := any_some C.hd
    unfold clsIn at hc
    split at hc
    · rename_i lk
      intro A Q E s k q
      unfold isType loadHead
      exact wpAny_bind (wpAny_loadPart (k _ _ (X _ _ lk)) (wpAny_pure q))
    · cases hc
  · obtain ⟨o, lk, hn⟩ := there
    refine Bool.eq_false_iff.mpr fun z => ?_
    have ez := Value.ref.inj (eq_of_beq z)
    subst ez
    have e2 := (X _ _ lk).symm.trans e
    cases e2
    exact hn _ _ rfl
end
section
variable {X : Cx} {t : Tb} {a : Addr} {oe : Obj} {cls : Value} {d : Option Addr} {pn : List (Addr × Obj)}
end
end F
end

section
set_option Elab.async false
set_option linter.all false
set_option autoImplicit false
set_option maxRecDepth 100000
set_option maxHeartbeats 2000000
/-! F layer, part Z: a lambda's promise by its body. -/
namespace F
open PySem PySem.Spec PyProof.Rows L2
section
variable {P : Program} {w : World} {K : PySem.W.Frag} {mg : Str → Option Value} {base : Heap} {t : Tb}
theorem lam_F {F : LF} {N ps : List Str} {k n j : Nat} {m : M R} (S : NdefX.NScope N ps [] F.scope) (pr : Nat → Bool) (hn : ps.length = n) (hN : N.length = n + j) (Z : Fn) (hZ : ∀ os, Z os ≠ .bad → Z os = runF pr n j (sRet m) os)
    (hb : ∀ (pm ctv : Value) (us : List Value), us.length = n → bindArgs (PySem.W.kla_fn "<lambda>" F.qual F.params F.body F.scope [] pm (.ref F.c) ctv) ⟨us, []⟩ = pure (ps.zip us))
    (hbody : ∀ (A : Around) (outer : List PySem.Env) (s : Shared) (H : Hp) (f : Addr) (E : XK), Room k (A.deeper (NdefX.envF F.nf f s.heap.objs.size)) → (A.deeper (NdefX.envF F.nf f s.heap.objs.size)).guards = some [] → SE (NdefX.ncx (L2.CX P w) P w K mg base N F.nf f A outer s H E) t (fun cls d _ H => E cls d H) F.body m) :
    LOk P w K mg base (L2.CX P w) (k + 1) F n (spF t ⟨K, t.cls, t.fld, t.tabs, t.ex, t.exM, t.exR⟩ Z n) := by
  refine lok_of S hn hb (fun vs H Q E h => h.1) fun A outer s H f vs Q E hr hu hsp => ⟨_, hbody A outer s H f E hr hu, ?_⟩
  have hst : NdefX.startF N vs [] = vs.map some ++ List.replicate j none := by
    unfold NdefX.startF
    rw [hN, hsp.1, Nat.add_sub_cancel_left]
    rfl
  rw [hst]
  exact ret_read (X := NdefX.ncx (L2.CX P w) P w K mg base N F.nf f A outer s H E) (fn_read hZ hsp)
end
end F
end

section
set_option Elab.async false
set_option linter.all false
set_option autoImplicit false
set_option maxRecDepth 100000
set_option maxHeartbeats 4000000
/-! F layer, the end: the law's def is called where no repr is under way. -/
namespace F
open PySem PySem.Spec PyProof.Rows L2 LamX
section
variable {P : Program} {w : World} {K : PySem.W.Frag} {mg mb : Str → Option Value} {CX : CXT} {k : Nat} {fa a : Addr} {cs : List (Addr × Addr)} {fd : FuncData} {x : Str} {sp : Sp} {st : Shared} {vs : List Value} {ns : List Int}
/-- what the run starts from -/
structure Start (K : PySem.W.Frag) (mg mb : Str → Option Value) (cs : List (Addr × Addr)) (st : Shared) (a : Addr) (vs : List Value) (ns : List Int) : Prop where
  kin : K.In st.heap
  gns : st.heap.Ns mainGlobals mg
  bns : st.heap.Ns builtinsNs mb
  blt : ∀ y : Str, y ≠ "__name__" → mb y = bootBuiltins y
  nol : st.heap.NoLimit
  gen : st.gens = #[]
  tab : ∀ p ∈ cs, st.heap.get? p.2 = some { cls := .none, data := .fields #[] }
  tabK : ∀ p ∈ cs, K.lookup p.2 = none
  code : ∀ p ∈ cs, PySem.W.CodeHd st.heap p.1 p.2
  bm : ∃ (bm : Addr) (ob : Obj), mg "__builtins__" = some (.ref bm) ∧ bm ≠ builtinsNs ∧ st.heap.get? bm = some ob ∧ ob.cls = .type "module" ∧ ob.dict = some builtinsNs ∧ ob.data = .plain
  lst : st.heap.get? a = some { cls := .type "list", data := .seq vs.toArray }
  nums : IntsAre vs ns
  len : ns.length ≤ sizeLine
variable (T : Start K mg mb cs st a vs ns)
theorem Start.isTab {b : Addr} (T : Start K mg mb cs st a vs ns) (h : b ∈ cs.map (·.2)) : st.heap.get? b = some { cls := .none, data := .fields #[] } := by
  obtain ⟨p, hp, rfl⟩ := List.mem_map.mp h
  exact T.tab p hp
theorem Start.noTab (T : Start K mg mb cs st a vs ns) : a ∉ cs.map (·.2) := fun h => by
  have e := T.isTab h
  rw [T.lst] at e
  cases e
/-- the tracked heap: the tables, and the script's list or not -/
structure Track (K : PySem.W.Frag) (cs : List (Addr × Addr)) (st : Shared) (a : Addr) (ns : List Int) (P : Program) (w : World) (H : Hp) : Prop where
  tb : ∀ p ∈ cs, H p.2 = some (.tbl #[])
  sq : SqL K H a (ns.map V.int)
  ok : HOk P w H st.heap
  sup : ∀ b, H b ≠ none → b = a ∨ b ∈ cs.map (·.2)
  frz : ∀ b, H b = none ∨ b ∈ cs.map (·.2) ∨ ∃ o xs, H b = some (.frz o (.lst xs))
  own : H a ≠ none → K.lookup a = none
theorem track (T : Start K mg mb cs st a vs ns) (P : Program) (w : World) : ∃ H, Track K cs st a ns P w H := by
  have rv := vals_ints T.nums
  have nT := T.noTab
  have tne : ∀ p ∈ cs, p.2 ≠ a := fun p hp z => nT (z ▸ List.mem_map.mpr ⟨p, hp, rfl⟩)
  have tin : ∀ p ∈ cs, p.2 ∈ cs.map (·.2) := fun p hp => List.mem_map.mpr ⟨p, hp, rfl⟩
  cases q : K.lookup a with
  | some o =>
    have e := T.kin a o q
    rw [T.lst] at e
    cases e
    let H : Hp := fun b => if b ∈ cs.map (·.2) then some (.tbl #[]) else none
    have inn : ∀ {b}, b ∈ cs.map (·.2) → H b = some (.tbl #[]) := fun h => if_pos h
    have out : ∀ {b}, b ∉ cs.map (·.2) → H b = none := fun h => if_neg h
    refine ⟨H, fun p hp => inn (tin p hp), .inr ⟨_, vs.toArray, _, q, rfl, rfl, rfl, by rw [List.size_toArray, T.nums.length]; exact T.len, by simpa using rv⟩, fun b u z => ?_, fun b z => ?_, fun b => ?_, fun z => absurd (out nT) z⟩
    · by_cases hb : b ∈ cs.map (·.2)
      · rw [inn hb] at z
        cases z
        exact T.isTab hb
      · rw [out hb] at z
        cases z
    · by_cases hb : b ∈ cs.map (·.2)
      · exact .inr hb
      · exact absurd (out hb) z
    · by_cases hb : b ∈ cs.map (·.2)
      · exact .inr (.inl hb)
      · exact .inl (out hb)
  | none =>
    let L : HO := .frz { cls := .type "list", data := .seq vs.toArray } (.lst (ns.map V.int))
    let H : Hp := fun b => if b = a then some L else if b ∈ cs.map (·.2) then some (.tbl #[]) else none
    have at_ : H a = some L := if_pos rfl
    have inn : ∀ {b}, b ≠ a → b ∈ cs.map (·.2) → H b = some (.tbl #[]) := fun h1 h2 => (if_neg h1).trans (if_pos h2)
    have out : ∀ {b}, b ≠ a → b ∉ cs.map (·.2) → H b = none := fun h1 h2 => (if_neg h1).trans (if_neg h2)
    refine ⟨H, fun p hp => inn (tne p hp) (tin p hp), .inl (.inr ⟨_, at_⟩), fun b u z => ?_, fun b z => ?_, fun b => ?_, fun _ => q⟩
    · by_cases h1 : b = a
      · subst h1
        rw [at_] at z
        cases z
        exact ⟨T.lst, by rw [List.length_map]; exact T.len, vs, _, rv, T.lst⟩
      · by_cases h2 : b ∈ cs.map (·.2)
        · rw [inn h1 h2] at z
          cases z
          exact T.isTab h2
        · rw [out h1 h2] at z
          cases z
    · by_cases h1 : b = a
      · exact .inl h1
      · by_cases h2 : b ∈ cs.map (·.2)
        · exact .inr h2
        · exact absurd (out h1 h2) z
    · by_cases h1 : b = a
      · exact .inr (.inr ⟨_, _, by rw [h1]; exact at_⟩)
      · by_cases h2 : b ∈ cs.map (·.2)
        · exact .inr (.inl h2)
        · exact .inl (out h1 h2)
theorem law_q (T : Start K mg mb cs st a vs ns) (hr : Room k callerA) (G : ∀ base : Heap, K.In base → base.Ns mainGlobals mg → (∀ p ∈ cs, TabB base mg p.1 p.2) → FnQ P w K mg base CX k fa fd [x] sp) (hbind : ∀ (s : Shared) (u : Value), BindsTo s fd ⟨[u], []⟩ [(x, u)])
    (hsp : ∀ H : Hp, (∀ p ∈ cs, H p.2 = some (.tbl #[])) → SqL K H a (ns.map V.int) → sp [.ref a] H (fun v _ => v = .bl true) fun _ _ _ => False) (hCX : ∀ H e s', CX [] H st (fun _ _ _ => False) e s' → False) :
    codeAny (model P w) callerA (.call (.ref fa) ⟨[.ref a], []⟩) (fun r s' => r = .ok (.ret (.bool true)) ∧ OldK st.heap s'.heap ∧ s'.os = st.os ∧ AllBare s'.gens) st := by
  obtain ⟨H, R⟩ := track T P w
  -- what is neither the script's list nor a table is not tracked
  have free : ∀ {b : Addr} {o : Obj}, st.heap.get? b = some o → (∀ us n, o.data ≠ .seq us n) → o.data ≠ .fields #[] → H b = none := fun {b o} e h1 h2 => Classical.byContradiction fun z => by
    rcases R.sup b z with rfl | hb
    · rw [T.lst] at e
      cases e
      exact h1 _ _ rfl
    · rw [T.isTab hb] at e
      cases e
      exact h2 rfl
  have low : ∀ {b : Addr} {o : Obj}, st.heap.get? b = some o → H b = none → (hidT st.heap H).get? b = some o := fun e n => hidT_get e n
  have nsL : ∀ {b : Addr} {m : Str → Option Value}, st.heap.Ns b m → (hidT st.heap H).Ns b m := fun {b m} ⟨o, es, ep, e, d, r⟩ =>
    ⟨o, es, ep, low e (free e (fun _ _ z => by rw [d] at z; cases z) (fun z => by rw [d] at z; cases z)), d, r⟩
  have kinL : K.In (hidT st.heap H) := fun b o e => low (T.kin b o e) (Classical.byContradiction fun z => by
    rcases R.sup b z with rfl | hb
    · rw [R.own z] at e
      cases e
    · obtain ⟨p, hp, rfl⟩ := List.mem_map.mp hb
      rw [T.tabK p hp] at e
      cases e)
  have modL : L2.Mod K mg (hidT st.heap H) := ⟨kinL, nsL T.gns, ⟨mb, nsL T.bns, T.blt⟩, let ⟨mc, h1, h2⟩ := T.nol; ⟨mc, nsL h1, h2⟩⟩
  have tabL : ∀ p ∈ cs, TabB (hidT st.heap H) mg p.1 p.2 := fun p hp => by
    have here := T.tab p hp
    refine ⟨?c, ?b, fun z => ?g⟩
    case c =>
      obtain ⟨o, us, file, tf, flags, tg, inF, text, tt, e1, r1, r2, r3, r4⟩ := T.code p hp
      refine ⟨o, us, file, tf, flags, tg, inF, text, tt, low e1 (free e1 (fun _ _ z => ?_) fun z => ?_), r1, r2, r3, r4⟩
      · rw [r2] at z; cases z
      · rw [r2] at z
        cases z
        simp at r3
    case b =>
      obtain ⟨bm, ob, b1, b2, b3, b4, b5, b6⟩ := T.bm
      refine ⟨bm, ob, b1, b2, fun q => ?_, fun q => ?_, low b3 (free b3 (fun _ _ z => by rw [b6] at z; cases z) fun z => by rw [b6] at z; cases z), b4, b5, b6⟩
      · obtain ⟨o, es, ep, e, d, _⟩ := T.gns
        rw [q, e] at b3
        cases b3
        rw [d] at b6
        cases b6
      · rw [q, here] at b3
        cases b3
        cases b6
    case g =>
      obtain ⟨o, es, ep, e, d, _⟩ := T.gns
      rw [z, here] at e
      cases e
      cases d
  have env : Env0 P w K mg (hidT st.heap H) callerA [] st H := ⟨rfl, modL, fun b o e => of_hidT e, Nat.le_of_eq (hidT_size _ _), trivial, fun b hb => absurd (show b ∈ ([] : List Addr) from hb) (by simp), R.ok, .of_eq T.gen⟩
  have run := (G _ kinL (nsL T.gns) tabL).run callerA [] st H ⟨[.ref a], []⟩ [.ref a] [.ref a] _ _ hr rfl env (hbind st (.ref a)) (.cons rfl .nil) (hsp H R.tb R.sq)
  refine codeAny_mono run fun ans s2 got => ?_
  match ans, got with
  | .error e, got => exact (hCX H e s2 got).elim
  | .ok .next, got => exact got.elim
  | .ok .brk, got => exact got.elim
  | .ok .cont, got => exact got.elim
  | .ok (.ret u), ⟨v, H2, os, bare, un, ok2, rv, q⟩ =>
    have q : v = .bl true := q
    subst q
    have eu : u = Value.bool true := rv
    subst eu
    have same : ∀ b o, b ∉ cs.map (·.2) → st.heap.get? b = some o → s2.heap.get? b = some o := fun b o nb e => by
      cases z : H b with
      | none => exact un.keep b o e z (fun y => absurd (show b ∈ ([] : List Addr) from y) (by simp)) (by simp)
      | some u =>
        rcases R.frz b with y | y | ⟨ob, xs, y⟩
        · rw [z] at y; cases y
        · exact absurd y nb
        · obtain ⟨e1, _⟩ := R.ok b _ y
          obtain ⟨e2, _⟩ := ok2 b _ (un.frzs b ob _ y)
          rw [e] at e1
          cases e1
          exact e2
    have more : ∀ b, b ∈ cs.map (·.2) → ∃ p ∈ cs, p.2 = b ∧ ∃ ms : Array Value, s2.heap.get? b = some { cls := .none, data := .fields ms } := fun b hb => by
      obtain ⟨p, hp, rfl⟩ := List.mem_map.mp hb
      obtain ⟨ms, z⟩ := un.tbls p.2 #[] (R.tb p hp)
      exact ⟨p, hp, rfl, _, ok2 p.2 _ z⟩
    refine ⟨rfl, ⟨fun b o e => ?_, fun b o e => ?_⟩, os, bare⟩
    · by_cases hb : b ∈ cs.map (·.2)
      · obtain ⟨p, hp, rfl, ms, hm⟩ := more b hb
        rw [T.tab p hp] at e
        cases e
        exact .inr (.inl ⟨((T.code p hp).tab (T.tab p hp)).isCodeTable, rfl, #[], ms, rfl, by rw [Array.empty_append]; exact hm⟩)
      · exact .inl (same b o hb e)
    · by_cases hb : b ∈ cs.map (·.2)
      · obtain ⟨p, hp, rfl, ms, hm⟩ := more b hb
        exact ⟨_, hm⟩
      · exact ⟨o, same b o hb e⟩
end
/-- what is asked of the law's def -/
def LawQ (l : PySem.W.OpenLaw) (w : World) (K : PySem.W.Frag) (CX : CXT) (k n : Nat) (x : Str) (mg : Str → Option Value) (fa : Addr) (h : Heap) : Prop :=
  ∃ (fd : FuncData) (cs : List (Addr × Addr)) (sp : Sp), ((∀ p ∈ cs, h.get? p.2 = some { cls := .none, data := .fields #[] }) ∧ (∀ p ∈ cs, K.lookup p.2 = none) ∧ ∀ p ∈ cs, PySem.W.CodeHd h p.1 p.2) ∧ (∀ (s : Shared) (u : Value), BindsTo s fd ⟨[u], []⟩ [(x, u)]) ∧
    (∀ (H : Hp) (a : Addr) (ns : List Int), ns.length ≤ n → (∀ z ∈ ns, Builtin.Int.intBits z ≤ 1048576) → (∀ p ∈ cs, H p.2 = some (.tbl #[])) → SqL K H a (ns.map V.int) → sp [.ref a] H (fun v _ => v = .bl true) fun _ _ _ => False) ∧
    ∀ base : Heap, K.In base → base.Ns mainGlobals mg → (∀ p ∈ cs, TabB base mg p.1 p.2) → FnQ l.prog w K mg base CX k fa fd [x] sp
theorem walk_q {l : PySem.W.OpenLaw} {n k : Nat} {q : Program} {loose : List Str} {XP : (Str → Option Value) → Heap → Prop} {YP : World → Heap → Prop} {d : DefRec} {CX : World → CXT} {x : Str} (hn : l.most = some n) (hn2 : n ≤ sizeLine) (hdf : d.params.defaults = []) (hr : Room k callerA)
    (G : ∀ (w : World) (mg : Str → Option Value) (fa : Addr) (h : Heap), YP w h → h.Ns mainGlobals mg → mg d.name = some (.ref fa) → ∃ K : PySem.W.Frag, K.In h ∧ LawQ l w K (CX w) k n x mg fa h) (hCX : ∀ (w : World) (H : Hp) (s : Shared) (e : Value) (s' : Shared), CX w [] H s (fun _ _ _ => False) e s' → False) :
    PySem.W.WalkO q loose XP YP l.row.toRowW d [] (fun f vs => PySem.call f vs) := by
  refine Att.attach_callB hn hdf fun w s0 s1 mg mb fa o pm cd doc a vs ns E Y ho hd hcd hmg hl hi hlen hbits hg => ?_
  obtain ⟨K, kin, fd, cs, sp, ⟨hT, nT, C⟩, hb, hsp, hF⟩ := G w mg fa _ Y E.T.g hmg
  exact law_q ⟨kin, E.T.g, E.T.b, E.T.builtins, E.T.nolimit, hg, hT, nT, C, E.T.bmain, hl, hi, Nat.le_trans hlen hn2⟩ hr hF hb (fun H h1 h2 => hsp H a ns hlen hbits h1 h2) fun H e s' => hCX w H s1 e s'
end F
end

section
set_option Elab.async false
set_option linter.all false
set_option autoImplicit false
set_option maxRecDepth 100000
set_option maxHeartbeats 2000000
/-! F layer: repr of data. -/
namespace F
open PySem PySem.Spec PyProof.Rows L2
mutual
def D.py : D → Option PyData
  | .non => some .none
  | .bl b => some (.bool b)
  | .int i => some (.int i)
  | .str x => some (.str (sS x))
  | .tup l => (pys l).map .tuple
  | .lst l => (pys l).map .list
  | _ => none
def pys : List D → Option (List PyData)
  | [] => some []
  | d :: ds => match d.py, pys ds with
    | some p, some ps => some (p :: ps)
    | _, _ => none
end
mutual
theorem py_noDict : ∀ (d : D) (p : PyData), d.py = some p → p.hasDict = false
  | .non, _, h => by cases h; simp only [PyData.hasDict]
  | .bl _, _, h => by cases h; simp only [PyData.hasDict]
  | .int _, _, h => by cases h; simp only [PyData.hasDict]
  | .str _, _, h => by cases h; simp only [PyData.hasDict]
  | .tup l, p, h => by
    obtain ⟨ps, h1, rfl⟩ := Option.map_eq_some_iff.mp (show (pys l).map PyData.tuple = some p from h)
    simp only [PyData.hasDict]
    exact pys_noDict l ps h1
  | .lst l, p, h => by
    obtain ⟨ps, h1, rfl⟩ := Option.map_eq_some_iff.mp (show (pys l).map PyData.list = some p from h)
    simp only [PyData.hasDict]
    exact pys_noDict l ps h1
  | .dct _, _, h => by cases h
  | .obj _ _, _, h => by cases h
  | .ex _ _, _, h => by cases h
theorem pys_noDict : ∀ (l : List D) (ps : List PyData), pys l = some ps → PyData.hasDictAll ps = false
  | [], ps, h => by cases h; simp only [PyData.hasDictAll]
  | d :: ds, ps, h => by
    have h : (match d.py, pys ds with
      | some p, some ps => some (p :: ps)
      | _, _ => none) = some ps := h
    cases q1 : d.py with
    | none => rw [q1] at h; cases h
    | some p =>
      cases q2 : pys ds with
      | none => rw [q1, q2] at h; cases h
      | some qs =>
        rw [q1, q2] at h
        cases h
        simp only [PyData.hasDictAll, py_noDict d p q1, pys_noDict ds qs q2, Bool.or_false]
end
section
variable {X : Cx} {t : Tb} {pins : List (Addr × Obj)} {σ : L2.St} {H : Hp} {s : Shared}
mutual
theorem reads_dat (I : Inv X pins σ H s) : ∀ (d : D) (p : PyData) (v : V) (u : Value), d.py = some p → Dat (cn X t) H d v → RelV v u → ∃ as, Reads s.heap u p as
  | .non, _, _, _, h, e, r => by
    cases h
    cases e
    cases r
    exact ⟨_, .none⟩
  | .bl b, _, _, _, h, e, r => by
    cases h
    cases e
    cases r
    exact ⟨_, .bool b⟩
  | .int i, _, _, _, h, e, r => by
    cases h
    cases e
    obtain ⟨tk, rfl⟩ := r
    exact ⟨_, .int i tk⟩
  | .str x, _, _, _, h, ⟨e, _⟩, r => by
    cases h
    cases e
    obtain ⟨tk, rfl⟩ := r
    exact ⟨_, .str _ tk⟩
  | .tup l, p, _, _, h, ⟨_, a, vs, e, h2, h3⟩, r => by
    obtain ⟨ps, h1, rfl⟩ := Option.map_eq_some_iff.mp (show (pys l).map PyData.tuple = some p from h)
    subst e
    cases r
    obtain ⟨its, rv, ⟨o, ho, hc, n, hd⟩, _⟩ := I.tuple h2
    obtain ⟨as, ra⟩ := reads_dats I l ps vs its h1 h3 rv
    exact ⟨_, .tuple ho hc hd (by simpa using ra)⟩
  | .lst l, p, _, _, h, ⟨_, a, vs, e, h2, h3⟩, r => by
    obtain ⟨ps, h1, rfl⟩ := Option.map_eq_some_iff.mp (show (pys l).map PyData.list = some p from h)
    subst e
    cases r
    obtain ⟨its, rv, ⟨o, n, ho, hc, _, hd⟩, _⟩ := I.list h2
    obtain ⟨as, ra⟩ := reads_dats I l ps vs its h1 h3 rv
    exact ⟨_, .list ho hc hd (by simpa using ra)⟩
  | .dct _, _, _, _, h, _, _ => by cases h
  | .obj _ _, _, _, _, h, _, _ => by cases h
  | .ex _ _, _, _, _, h, _, _ => by cases h
theorem reads_dats (I : Inv X pins σ H s) : ∀ (l : List D) (ps : List PyData) (vs : List V) (us : List Value), pys l = some ps → Dats (cn X t) H l vs → Vals vs us → ∃ as, ReadsAll s.heap us ps as
  | [], ps, vs, us, h, e, r => by
    cases h
    have e : vs = [] := e
    subst e
    cases r
    exact ⟨_, .nil⟩
  | d :: ds, ps, vs, us, h, ⟨v, q, e, h2, h3⟩, r => by
    have h : (match d.py, pys ds with
      | some p, some ps => some (p :: ps)
      | _, _ => none) = some ps := h
    subst e
    cases q1 : d.py with
    | none => rw [q1] at h; cases h
    | some p =>
      cases q2 : pys ds with
      | none => rw [q1, q2] at h; cases h
      | some qs =>
        rw [q1, q2] at h
        cases h
        cases r with
        | cons r1 r2 =>
          obtain ⟨as, ra⟩ := reads_dat I d p v _ q1 h2 r1
          obtain ⟨bs, rb⟩ := reads_dats I ds qs q _ q2 h3 r2
          exact ⟨_, .cons ra rb⟩
end
end
end F
end

section
set_option Elab.async false
set_option linter.all false
set_option autoImplicit false
set_option maxRecDepth 100000
set_option maxHeartbeats 2000000
/-! F layer: what the written part must say of a class of errors, as tests. -/
namespace F
open PySem PySem.Spec PyProof.Rows L2
theorem oex_of {K : PySem.W.Frag} {b : XB} {C : Addr} (h : oexB K b C = true) : Oex K b C := by
  obtain ⟨h1, h⟩ := bAnd h
  obtain ⟨h2, h⟩ := bAnd h
  obtain ⟨h3, h⟩ := bAnd h
  obtain ⟨h4, h5⟩ := bAnd h
  refine ⟨?_, of_decide_eq_true h2, of_decide_eq_true h3, of_decide_eq_true h4, h5⟩
  unfold shpB at h1
  split at h1
  · rename_i dd cd sl lk
    split at h1
    · rename_i C' bm k0 k1 k2 k3 n k5 hm hs
      obtain ⟨e1, h1⟩ := bAnd h1
      obtain ⟨e2, h1⟩ := bAnd h1
      obtain ⟨e3, h1⟩ := bAnd h1
      obtain ⟨e4, e5⟩ := bAnd h1
      have e1 := of_decide_eq_true e1
      have e2 := of_decide_eq_true e2
      have e5 := beq_iff_eq.mp e5
      subst e1 e2 e5
      obtain ⟨nm, bs, mro, ns, qn, hd, sn, sub, ab, col, del⟩ := cd
      simp only [Bool.not_eq_true'] at hm e3 e4
      subst hm e3 e4
      obtain ⟨l⟩ := sl
      simp only at hs
      subst hs
      exact ⟨nm, qn, ns, bs, sn, sub, ab, col, dd, k0, k1, k2, k3, k5, lk⟩
    · cases h1
  · cases h1
theorem exc_of {K : PySem.W.Frag} {C : Addr} (h : excB K C = true) : XfC K C ∧ ExcC K C := by
  obtain ⟨h1, h⟩ := bAnd h
  obtain ⟨h2, h⟩ := bAnd h
  obtain ⟨h3, h⟩ := bAnd h
  obtain ⟨h4, h5⟩ := bAnd h
  have T := xfB_ok h1
  exact ⟨T, T.ga, T.gg, T.exC, T.hdC, of_decide_eq_true h2, of_decide_eq_true h3, of_decide_eq_true h4, of_decide_eq_true h5⟩
section
variable {P : Program} {w : World} {K : PySem.W.Frag} {mg : Str → Option Value} {base : Heap} {t : Tb}
/-- a class of errors whose __init__(self, y) keeps y as the field of the class -/
theorem xc_mk (b : XB) {nb : Str} {k : Nat} {x qual y msg : Str} {params : Arguments} {scope : Scope} {fI : Addr} {fd : FuncData} {body : List Stmt} {j : Nat} {p1 p2 p3 p4 p5 p6 q1 q2 q3 q4 : Pos} (hnb : nb = Str.ofString b.n) (F : FunD K "__init__" qual params body scope [] [] fI fd) (S : FnScope ["self", y] ["self", y] scope) (ho : oexB K b (t.cls k) = true)
    (no : PySem.W.findIn K (.ref (t.cls k)) (t.xf k) = some none) (hm : mg nb = none) (me : Meth K (t.cls k) "__init__" fI) (gC : mg x = some (.ref (t.cls k))) (hbd : Binds K fd ["self", y] [])
    (hb : body = [.Expr (.Call (.Attribute (.Name nb p1) "__init__" p2) [.Name "self" p3, .Constant (.str msg) j p4] [] p5) p6, .Assign [.Attribute (.Name "self" q1) (t.xf k) q2] (.Name y q3) q4])
    (hg : scope.names.lookup nb = some NameKind.globalImplicit) (v0 : Vis scope "self") (v1 : Vis scope y) (hl : (p2.endLine == p5.line) = true) (hd : (y == ("__debug__" : Str)) = false) (hcd : (y == ("__classdict__" : Str)) = false) : XcOk P w K mg base t k x :=
  ⟨⟨b, oex_of ho⟩, ⟨fI, fd, y, me.at_, eq_of_beq me.fn, init_fn hnb F S (oex_of ho) no hm hb hg v0 v1 hl hd hcd, hbd⟩, gC⟩
end
end F
end

section
set_option Elab.async false
set_option linter.all false
set_option autoImplicit false
set_option maxRecDepth 100000
set_option maxHeartbeats 2000000
/-! F layer: a lambda that captures names, handed to a def at once. -/
namespace F
open PySem PySem.Spec PyProof.Rows L2
section
variable {X : Cx} {pins : List (Addr × Obj)} {σ : L2.St} {H : Hp} {s : Shared}
end
end F
end

section
set_option Elab.async false
set_option linter.all false
set_option autoImplicit false
set_option maxRecDepth 100000
set_option maxHeartbeats 2000000
/-! F layer: g(lambda: e), the names of e captured: e as a thunk. -/
namespace F
open PySem PySem.Spec PyProof.Rows L2
def g2 (k : Nat) : Bool := k != 2
section
variable {K : PySem.W.Frag} {t : Tb} {f c' : Addr} {Lf : LF} {cl : List (Str × Addr)} {Hc : Hp}
/-! ### the thunk -/
/-! ### the def that gets it -/
/-! ### the call -/
end
end F
end

section
set_option Elab.async false
set_option linter.all false
set_option autoImplicit false
set_option maxRecDepth 100000
set_option maxHeartbeats 2000000
/-! F layer: products of lists and texts, list(text), tuple(list), min of a list, gets. -/
namespace F
open PySem PySem.Spec PyProof.Rows L2
/-! ### list * int -/
/-- the two sides of k * l: the int has no answer, the list gives a new one -/
theorem rmulW (a : Int) (t : Tok) (l : Addr) (items : Array Value) (n : Nat) (sl : Array (Option Value)) :
    Meets (Builtin.«int.__rmul__» ⟨[.int a t, .ref l], []⟩) (fun _ R s => s.heap.get? l = some { cls := .type "list", dict := none, data := .seq items n, slots := sl } ∧ R (.ok (.ret Value.notImplemented)) s) := by
  apply Meets.of_wp
  rintro prog w A R ⟨hp, g, d, tk, os⟩ ⟨at_l, k⟩
  wp_walk
  exact ⟨_, rfl, k⟩
/-- what a repeated list holds -/
abbrev repA (items : Array Value) (m : Nat) : Array Value := List.foldl (fun x1 x2 => x1 ++ x2) #[] (List.replicate (if items.isEmpty = true then 0 else m) items)
theorem repA_eq (its : List Value) (m : Nat) : repA its.toArray m = (List.replicate m its).flatten.toArray := by
  have z := foldl_rep its
  cases its with
  | nil => simp [repA]
  | cons v vs => exact (congrArg (fun j => List.foldl (fun x1 x2 => x1 ++ x2) #[] (List.replicate j (v :: vs).toArray)) (if_neg (by simp))).trans ((z m []).trans (by rw [List.nil_append]))
theorem mulW (l : Addr) (items : Array Value) (n : Nat) (x : Int) (u : Tok) (sl : Array (Option Value)) (hc0 : ¬(!Builtin.List.listFitsIndex x) = true) (hc1 : ¬items.size * x.toNat > (2 ^ 63 - 1) / 8) (hc2 : ¬Builtin.List.listTooLong (items.size * x.toNat) = true) :
    Meets (Builtin.«list.__mul__» ⟨[.ref l, .int x u], []⟩) (fun _ R s => s.heap.get? l = some { cls := .type "list", dict := none, data := .seq items n, slots := sl } ∧ R (.ok (.ret (Value.ref s.heap.objs.size))) { s with heap := s.heap.push { cls := Value.type "list", data := Data.seq (repA items x.toNat) }, toks := s.toks }) := by
  apply Meets.of_wp
  rintro prog w A R ⟨hp, g, d, tk, os⟩ ⟨at_l, k⟩
  have fits := Nat.not_lt.mpr (AutoListH.joined_fits hc2)
  wp_walk
  apply wpAny_ite_false (decide_eq_false fits)
  wp_walk
  exact ⟨_, rfl, k⟩
def rRepR (K : PySem.W.Frag) : R2 := fun x y H Q => ∃ l k xs, x = .ref l ∧ y = .int k ∧ SqL K H l xs ∧ -(2 ^ 63) ≤ k ∧ k < 2 ^ 63 ∧ xs.length * k.toNat ≤ sizeLine ∧
  ∀ p, H p = none → Q (.ref p) (upd H p (.lst (List.replicate k.toNat xs).flatten))
theorem op_repR {X : Cx} : OpR X (binaryOp .Mult) (rRepR X.K) := by
  rintro pins s σ H x y v u Q I rx ry ⟨l, k, xs, e1, e2, hH, lo, hi, few, q⟩
  subst e1 e2
  cases rx
  obtain ⟨t, e3⟩ := ry
  subst e3
  have ⟨its, n, sl, _, r, len, at_l⟩ := sq_lst I hH
  have is_l : s.TypeIs (.ref l) "list" := ⟨_, at_l, rfl⟩
  have size : its.toArray.size * k.toNat ≤ sizeLine := by
    rw [List.size_toArray, ← len]
    exact few
  have c0 : ¬(!Builtin.List.listFitsIndex k) = true := fun z => by
    rw [fitsIndex_both lo hi] at z
    cases z
  have c1 : ¬its.toArray.size * k.toNat > (2 ^ 63 - 1) / 8 := fun z => by
    have le : (sizeLine : Nat) ≤ (2 ^ 63 - 1) / 8 := by decide
    exact absurd (Nat.lt_of_lt_of_le z (Nat.le_trans size le)) (Nat.lt_irrefl _)
  have c2 : ¬Builtin.List.listTooLong (its.toArray.size * k.toNat) = true := fun z => by
    rw [notLongL size] at z
    cases z
  have mul := call_meets (prog := X.prog) (w := X.w) (s := s) (A := X.A) (E := X.xe) (Q := EP X pins σ Q) F.slot_list_mul is_l F.entry_list_mul (F.args_list_mul_2 _ _) (mulW l its.toArray n k t sl c0 c1 c2) ⟨at_l, by
    rw [repA_eq]
    refine ⟨.ref _, _, I.lnew (r.rep k.toNat) ?_, rfl, q _ I.fresh⟩
    rw [PyProof.Rows.lm_len_rep_flat, Nat.mul_comm]
    exact few⟩
  have rmul := F.slot_int_rmul
  exact wpAny_binaryOp_repeat_ref (T := "list") (U := "int") (by decide) is_l (fun s' => typeIs_int s' k t) noFill_list_mul F.fills_int_mul rmul repeat_list F.slot_int_index.lookup
    (call_meets rmul (typeIs_int s k t) F.entry_int_rmul (F.args_int_rmul_2 _ _) (rmulW k t l its.toArray n sl) ⟨at_l, rfl, is_l, mul⟩)
/-- l repeated -/
def repN {α : Type} (l : List α) : Nat → List α
  | 0 => []
  | n + 1 => l ++ repN l n
theorem repN_rep {α : Type} (l : List α) : ∀ n, (List.replicate n l).flatten = repN l n
  | 0 => rfl
  | n + 1 => by rw [List.replicate_succ, List.flatten_cons, repN_rep l n]; rfl
theorem repN_len {α : Type} (l : List α) : ∀ n, (repN l n).length = l.length * n
  | 0 => rfl
  | n + 1 => by rw [repN, List.length_append, repN_len l n, Nat.mul_succ, Nat.add_comm]
theorem Dats.rep {c : Cn} {H : Hp} {l : List D} {vs : List V} (h : Dats c H l vs) : ∀ n, Dats c H (repN l n) (repN vs n)
  | 0 => rfl
  | n + 1 => Dats.app h (Dats.rep h n)
def repL : D → D → Option (List D)
  | .lst l, .int k => if -9223372036854775808 ≤ k ∧ k < 9223372036854775808 ∧ l.length * k.toNat ≤ lim then some (repN l k.toNat) else none
  | _, _ => none
theorem v_rep {c : Cn} : LOp2 c (rRepR c.K) repL := by
  intro H0 H x y dx dy l Q s e hx hy nl
  match dx, dy, e with
  | .lst a, .int k, e =>
    obtain ⟨h1, p1, vs, rfl, h2, h3⟩ := hx
    have hy : y = .int k := hy
    subst hy
    have e : (if -9223372036854775808 ≤ k ∧ k < 9223372036854775808 ∧ a.length * k.toNat ≤ lim then some (repN a k.toNat) else none) = some l := e
    by_cases hl : -9223372036854775808 ≤ k ∧ k < 9223372036854775808 ∧ a.length * k.toNat ≤ lim
    case neg =>
      rw [if_neg hl] at e
      cases e
    rw [if_pos hl] at e
    cases e
    refine ⟨p1, k, vs, rfl, rfl, h2, by omega, by omega, by rw [h3.len, sizeLine_lim]; exact hl.2.2, fun p hp => ?_⟩
    rw [repN_rep]
    exact nl p _ hp (by rw [repN_len]; exact hl.2.2) (h3.rep _)
/-! ### text * int -/
def rRepS : R2 := fun x y H Q => ∃ (z : Str) (k : Int), x = .str z ∧ y = .int k ∧ -(2 ^ 63) ≤ k ∧ k < 2 ^ 63 ∧ z.cps.size * k.toNat ≤ sizeLine ∧ Q (.str ⟨(List.replicate k.toNat z.cps.toList).flatten.toArray⟩) H
theorem foldl_repA (a : Array Nat) : ∀ (m : Nat) (b : Array Nat), List.foldl (fun x1 x2 => x1 ++ x2) b (List.replicate m a) = b ++ (List.replicate m a.toList).flatten.toArray
  | 0, b => by simp
  | m + 1, b => by
    rw [List.replicate_succ, List.foldl_cons, foldl_repA a m, List.replicate_succ, List.flatten_cons, Array.append_assoc]
    congr 1
    apply Array.ext'
    simp
theorem op_repS {X : Cx} : OpR X (binaryOp .Mult) rRepS := by
  intro pins s σ H x y v u Q I rx ry h
  obtain ⟨z, k, rfl, rfl, h1, h2, hz, q⟩ := h
  obtain ⟨t, rfl⟩ := rx
  obtain ⟨t2, rfl⟩ := ry
  have hr : (decide (k < -(2 ^ 63 : Int)) || decide (k ≥ 2 ^ 63)) = false := by
    rw [decide_eq_false (by omega), decide_eq_false (by omega)]
    rfl
  have hcap : ¬ k < 1 → ¬ ((z.length : Int) > (2 ^ 63 - 1) / k) := fun hk hgt => by
    have hk1 : 0 < k := by omega
    have e1 : (z.length : Int) * k ≤ sizeLine := by
      have : ((z.cps.size * k.toNat : Nat) : Int) ≤ (sizeLine : Nat) := Int.ofNat_le.mpr hz
      rw [Int.natCast_mul, Int.toNat_of_nonneg (by omega)] at this
      exact this
    have e2 : (z.length : Int) ≤ (2 ^ 63 - 1) / k := (Int.le_ediv_iff_mul_le hk1).mpr (Int.le_trans e1 (by decide))
    omega
  have hlong : Builtin.Str.tooLong (z.length * k.toNat) = false := by
    unfold Builtin.Str.tooLong
    exact decide_eq_false (Nat.not_lt.mpr hz)
  refine PySem.P.mul_str hr (fun hk _ => hcap hk) (fun _ _ => hlong) ?_
  have fin : ∀ (w : Str) (tk : Tok) (t' : Nat), w = ⟨(List.replicate k.toNat z.cps.toList).flatten.toArray⟩ → EP X pins σ Q (.str w tk) { s with toks := t' } := fun w tk t' e => by
    subst e
    exact ⟨.str _, H, I.tok _, ⟨_, rfl⟩, q⟩
  by_cases hk : k < 1
  · rw [if_pos hk]
    have : k.toNat = 0 := by omega
    exact ⟨by decide, fin _ _ _ (by rw [this]; rfl)⟩
  rw [if_neg hk]
  by_cases hq : (k == 1 || z.length == 0) = true
  · rw [if_pos hq]
    refine fin z t s.toks ?_
    obtain ⟨⟨l⟩⟩ := z
    rcases Bool.or_eq_true_iff.mp hq with h | h
    · have : k = 1 := eq_of_beq h
      subst this
      simp
    · have : l = [] := by
        have h : l.length = 0 := eq_of_beq h
        exact List.eq_nil_of_length_eq_zero h
      subst this
      simp
  · rw [if_neg hq]
    have e : List.foldl (fun x1 x2 => x1 ++ x2) #[] (List.replicate k.toNat z.cps) = (List.replicate k.toNat z.cps.toList).flatten.toArray := by rw [foldl_repA]; simp
    rw [e]
    refine ⟨?_, fin _ _ _ rfl⟩
    show ((List.replicate k.toNat z.cps.toList).flatten.toArray).size ≤ sizeLine
    rw [List.size_toArray, repN_rep, repN_len, Array.length_toList]
    exact hz
def repS : D → D → Option D
  | .str x, .int k => if -9223372036854775808 ≤ k ∧ k < 9223372036854775808 ∧ x.length * k.toNat ≤ lim then some (.str (repN x k.toNat)) else none
  | _, _ => none
theorem v_repS {c : Cn} : VOp2 c rRepS repS := by
  intro H0 H x y dx dy dz Q s e hx hy o
  match dx, dy, e with
  | .str a, .int k, e =>
    obtain ⟨rfl, h1⟩ := hx
    have hy : y = .int k := hy
    subst hy
    have e : (if -9223372036854775808 ≤ k ∧ k < 9223372036854775808 ∧ a.length * k.toNat ≤ lim then some (D.str (repN a k.toNat)) else none) = some dz := e
    by_cases hl : -9223372036854775808 ≤ k ∧ k < 9223372036854775808 ∧ a.length * k.toNat ≤ lim
    case neg =>
      rw [if_neg hl] at e
      cases e
    rw [if_pos hl] at e
    cases e
    refine ⟨sS a, k, rfl, rfl, by omega, by omega, by rw [sizeLine_lim]; simpa [sS] using hl.2.2, ?_⟩
    have := o.str (by rw [repN_len]; exact hl.2.2)
    have e2 : (⟨(List.replicate k.toNat (sS a).cps.toList).flatten.toArray⟩ : Str) = sS (repN a k.toNat) := by
      rw [repN_rep]
      simp [sS]
    rw [e2]
    exact this
/-! ### list(text), tuple(list) -/
/-! ### min -/
/-! ### d.get(k, x), d.get(k) -/
def smpD : D → Bool
  | .non | .bl _ | .int _ | .str _ => true
  | _ => false
def getD (l : List (Ky × D)) (k z : D) : Option D := match keyD k with
  | some q => (match lookK l q with
    | some d => some d
    | none => if smpD z = true then some z else none)
  | none => none
/-- the object must be a dict when it is reached -/
def mGet2 (a b f : M R) : M R := fun e => andThen (a e) fun r e1 => match peek r e1 with
  | some (.dct _) => andThen (b e1) fun q e2 => andThen (f e2) fun p e3 => ofO (peek (nrm r) e3) fun x => ofO (peek (nrm q) e3) fun y => ofO (peek p e3) fun z => (match x with
    | .dct l => ofO (getD l y z) fun w => .ok (.d w) e3
    | _ => .bad)
  | _ => .bad
section
variable {X : Cx} {t : Tb} {W : WX} {a b f : Expr} {ma mb mf : M R} {apos cpos : Pos}
/-! ### a written table's get -/
/-- the table with keys that it has not -/
structure KTabM (X : Cx) (t : Tb) (a : Addr) (l : List (List Nat × D)) (ms : List (List Nat)) : Prop where
  kd : ∃ es n, KDict X.K X.w a es n
  has : ∀ (x : List Nat) (d : D), l.lookup x = some d → ∃ u0 v0, PySem.W.nsIn X.K a (sS x) = some (some u0) ∧ RelV v0 u0 ∧ ∀ H, Dat (cn X t) H d v0
  mis : ∀ x, ms.contains x = true → PySem.W.nsIn X.K a (sS x) = some none
end
end F
end

section
set_option Elab.async false
set_option linter.all false
set_option autoImplicit false
set_option maxRecDepth 100000
set_option maxHeartbeats 2000000
/-! F layer: list(text), tuple(list), repr of data with dicts. -/
namespace F
open PySem PySem.Spec PyProof.Rows L2
/-! ### repr -/
def kyP : Ky → PyData
  | .i n => .int n
  | .s x => .str (sS x)
mutual
def D.pz : D → Option PyData
  | .non => some .none
  | .bl b => some (.bool b)
  | .int i => some (.int i)
  | .str x => some (.str (sS x))
  | .tup l => (pzs l).map .tuple
  | .lst l => (pzs l).map .list
  | .dct l => (pzk l).map .dict
  | _ => none
def pzs : List D → Option (List PyData)
  | [] => some []
  | d :: ds => match d.pz, pzs ds with
    | some p, some ps => some (p :: ps)
    | _, _ => none
def pzk : List (Ky × D) → Option (List (PyData × PyData))
  | [] => some []
  | (k, d) :: ds => match d.pz, pzk ds with
    | some p, some ps => some ((kyP k, p) :: ps)
    | _, _ => none
end
mutual
/-- no list in it -/
def D.nol : D → Bool
  | .lst _ => false
  | .tup l => nols l
  | .dct l => nolk l
  | _ => true
def nols : List D → Bool
  | [] => true
  | d :: ds => d.nol && nols ds
def nolk : List (Ky × D) → Bool
  | [] => true
  | (_, d) :: ds => d.nol && nolk ds
end
mutual
/-- no dict in it -/
def D.nod : D → Bool
  | .dct _ => false
  | .tup l => nods l
  | .lst l => nods l
  | _ => true
def nods : List D → Bool
  | [] => true
  | d :: ds => d.nod && nods ds
end
mutual
theorem pz_noDict : ∀ (d : D) (p : PyData), d.pz = some p → d.nod = true → p.hasDict = false
  | .non, _, h, _ => by cases h; simp only [PyData.hasDict]
  | .bl _, _, h, _ => by cases h; simp only [PyData.hasDict]
  | .int _, _, h, _ => by cases h; simp only [PyData.hasDict]
  | .str _, _, h, _ => by cases h; simp only [PyData.hasDict]
  | .tup l, p, h, n => by
    obtain ⟨ps, h1, rfl⟩ := Option.map_eq_some_iff.mp (show (pzs l).map PyData.tuple = some p from h)
    simp only [PyData.hasDict]
    exact pzs_noDict l ps h1 n
  | .lst l, p, h, n => by
    obtain ⟨ps, h1, rfl⟩ := Option.map_eq_some_iff.mp (show (pzs l).map PyData.list = some p from h)
    simp only [PyData.hasDict]
    exact pzs_noDict l ps h1 n
  | .dct _, _, _, n => by cases n
  | .obj _ _, _, h, _ => by cases h
  | .ex _ _, _, h, _ => by cases h
theorem pzs_noDict : ∀ (l : List D) (ps : List PyData), pzs l = some ps → nods l = true → PyData.hasDictAll ps = false
  | [], ps, h, _ => by cases h; simp only [PyData.hasDictAll]
  | d :: ds, ps, h, n => by
    have h : (match d.pz, pzs ds with
      | some p, some ps => some (p :: ps)
      | _, _ => none) = some ps := h
    obtain ⟨n1, n2⟩ := bAnd (show (d.nod && nods ds) = true from n)
    cases q1 : d.pz with
    | none => rw [q1] at h; cases h
    | some p =>
      cases q2 : pzs ds with
      | none => rw [q1, q2] at h; cases h
      | some qs =>
        rw [q1, q2] at h
        cases h
        simp only [PyData.hasDictAll, pz_noDict d p q1 n1, pzs_noDict ds qs q2 n2, Bool.or_false]
end
section
variable {X : Cx} {t : Tb} {pins : List (Addr × Obj)} {σ : L2.St} {H : Hp} {s : Shared}
theorem keyIs_reads {h : Heap} {k : Ky} {v : Value} (e : keyIs (kyK k) v = true) : Reads h v (kyP k) [] := by
  rcases keyIs_shape e with ⟨i, t, h1, rfl⟩ | ⟨x, t, h1, rfl⟩
  · cases k with
    | i n => cases h1; exact .int _ t
    | s y => cases h1
  · cases k with
    | i n => cases h1
    | s y => cases h1; exact .str _ t
mutual
theorem readz (I : Inv X pins σ H s) : ∀ (d : D) (p : PyData) (v : V) (u : Value), d.pz = some p → Dat (cn X t) H d v → RelV v u → ∃ as, Reads s.heap u p as ∧ (d.nol = true → sysModules ∉ as)
  | .non, _, _, _, h, e, r => by
    cases h
    cases e
    cases r
    exact ⟨_, .none, fun _ => by simp⟩
  | .bl b, _, _, _, h, e, r => by
    cases h
    cases e
    cases r
    exact ⟨_, .bool b, fun _ => by simp⟩
  | .int i, _, _, _, h, e, r => by
    cases h
    cases e
    obtain ⟨tk, rfl⟩ := r
    exact ⟨_, .int i tk, fun _ => by simp⟩
  | .str x, _, _, _, h, ⟨e, _⟩, r => by
    cases h
    cases e
    obtain ⟨tk, rfl⟩ := r
    exact ⟨_, .str _ tk, fun _ => by simp⟩
  | .tup l, p, _, _, h, ⟨_, a, vs, e, h2, h3⟩, r => by
    obtain ⟨ps, h1, rfl⟩ := Option.map_eq_some_iff.mp (show (pzs l).map PyData.tuple = some p from h)
    subst e
    cases r
    obtain ⟨its, rv, ⟨o, ho, hc, n, hd⟩, _⟩ := I.tuple h2
    obtain ⟨as, ra, na⟩ := readzs I l ps vs its h1 h3 rv
    exact ⟨_, .tuple ho hc hd (by simpa using ra), na⟩
  | .lst l, p, _, _, h, ⟨_, a, vs, e, h2, h3⟩, r => by
    obtain ⟨ps, h1, rfl⟩ := Option.map_eq_some_iff.mp (show (pzs l).map PyData.list = some p from h)
    subst e
    cases r
    obtain ⟨its, rv, ⟨o, n, ho, hc, _, hd⟩, _⟩ := I.list h2
    obtain ⟨as, ra, _⟩ := readzs I l ps vs its h1 h3 rv
    exact ⟨_, .list ho hc hd (by simpa using ra), fun z => by cases z⟩
  | .dct l, p, _, _, h, ⟨_, a, kvs, e, h2, h3⟩, r => by
    obtain ⟨ps, h1, rfl⟩ := Option.map_eq_some_iff.mp (show (pzk l).map PyData.dict = some p from h)
    subst e
    cases r
    obtain ⟨z, lo, vs, rk, o, es, ep, ho, hx, hd, hk, hp, _⟩ := dk_rd I.hok h2
    obtain ⟨bs, r1, r2, nb⟩ := readzk I l ps kvs vs es.toList h1 h3 rk hp
    refine ⟨_, .dict ho hx.1 hd (as := []) r1 r2, fun z => ?_⟩
    simp only [List.cons_append, List.nil_append, List.mem_cons, not_or]
    exact ⟨fun e => by rw [← e] at lo; simp at lo, nb z⟩
  | .obj _ _, _, _, _, h, _, _ => by cases h
  | .ex _ _, _, _, _, h, _, _ => by cases h
theorem readzs (I : Inv X pins σ H s) : ∀ (l : List D) (ps : List PyData) (vs : List V) (us : List Value), pzs l = some ps → Dats (cn X t) H l vs → Vals vs us → ∃ as, ReadsAll s.heap us ps as ∧ (nols l = true → sysModules ∉ as)
  | [], ps, vs, us, h, e, r => by
    cases h
    have e : vs = [] := e
    subst e
    cases r
    exact ⟨_, .nil, fun _ => by simp⟩
  | d :: ds, ps, vs, us, h, ⟨v, q, e, h2, h3⟩, r => by
    have h : (match d.pz, pzs ds with
      | some p, some ps => some (p :: ps)
      | _, _ => none) = some ps := h
    subst e
    cases q1 : d.pz with
    | none => rw [q1] at h; cases h
    | some p =>
      cases q2 : pzs ds with
      | none => rw [q1, q2] at h; cases h
      | some qs =>
        rw [q1, q2] at h
        cases h
        cases r with
        | cons r1 r2 =>
          obtain ⟨as, ra, na⟩ := readz I d p v _ q1 h2 r1
          obtain ⟨bs, rb, nb⟩ := readzs I ds qs q _ q2 h3 r2
          refine ⟨_, .cons ra rb, fun z => ?_⟩
          obtain ⟨z1, z2⟩ := bAnd (show (d.nol && nols ds) = true from z)
          simp only [List.mem_append, not_or]
          exact ⟨na z1, nb z2⟩
theorem readzk (I : Inv X pins σ H s) : ∀ (l : List (Ky × D)) (ps : List (PyData × PyData)) (kvs : List (Key × V)) (vs : List (Key × Value)) (es : List DictEntry), pzk l = some ps → DatK (cn X t) H l kvs → KV kvs vs → Pairs (mixKind X.prog X.w) es vs →
    ∃ bs, ReadsAll s.heap (es.map (·.key)) (ps.map (·.1)) [] ∧ ReadsAll s.heap (es.map (·.val)) (ps.map (·.2)) bs ∧ (nolk l = true → sysModules ∉ bs)
  | [], ps, kvs, vs, es, h, e, r, pr => by
    cases h
    have e : kvs = [] := e
    subst e
    cases r
    cases pr
    exact ⟨[], .nil, .nil, fun _ => by simp⟩
  | (k, d) :: ds, ps, kvs, vs, es, h, ⟨v, q, e, h2, h3⟩, r, pr => by
    have h : (match d.pz, pzk ds with
      | some p, some ps => some ((kyP k, p) :: ps)
      | _, _ => none) = some ps := h
    subst e
    cases q1 : d.pz with
    | none => rw [q1] at h; cases h
    | some p =>
      cases q2 : pzk ds with
      | none => rw [q1, q2] at h; cases h
      | some qs =>
        rw [q1, q2] at h
        cases h
        cases r with
        | cons r1 r2 =>
          cases pr with
          | cons p1 p2 p3 =>
            obtain ⟨ek, rv⟩ := r1
            obtain ⟨as, ra, na⟩ := readz I d p v _ q1 h2 rv
            obtain ⟨bs, rb1, rb2, nb⟩ := readzk I ds qs q _ _ q2 h3 r2 p3
            refine ⟨as ++ bs, ?_, ?_, fun z => ?_⟩
            · exact ReadsAll.cons (as := []) (bs := []) (keyIs_reads (by have ek : kyK k = _ := ek; rw [ek]; exact p1)) rb1
            · rw [← p2] at ra
              exact .cons ra rb2
            · obtain ⟨z1, z2⟩ := bAnd (show (d.nol && nolk ds) = true from z)
              simp only [List.mem_append, not_or]
              exact ⟨na z1, nb z2⟩
end
/-- repr(x), x data -/
def rReprZ (c : Cn) : List V → Hp → VK → Prop := fun xs H Q => ∃ (v : V) (d : D) (p : PyData), xs = [v] ∧ Dat c H d v ∧ d.pz = some p ∧ (d.nod = true ∨ d.nol = true) ∧ p.showable = true ∧ p.depth ≤ 50 ∧ p.shown.length ≤ lim ∧ Q (.str p.shown) H
theorem call_reprZ (hu : X.A.guards = some []) (hun : X.A.units + 52 < cLine) : CallR X (.builtin "repr") (rReprZ (cn X t)) := by
  intro pins s σ H xs us Q I r h
  obtain ⟨v, d, p, rfl, hd, hp, hno, hs, hdp, hl, q⟩ := h
  obtain ⟨u, rfl, rv⟩ := r.one
  have hz : p.shown.length ≤ sizeLine := by rw [sizeLine_lim]; exact hl
  obtain ⟨as, rd, nol⟩ := readz I d p v u hp hd rv
  have hsm : p.hasDict = true → sysModules ∉ as := fun z => by
    rcases hno with n | n
    · rw [pz_noDict d p hp n] at z
      cases z
    · exact nol n
  have big : ∀ a : Addr, u = .ref a → wpAny (model X.prog X.w) X.A (call (.builtin "repr") [u]) (EP X pins σ Q) X.xe s := fun a e => by
    subst e
    exact repr_of_reads' rd hs hsm hu (by omega) (fun _ _ e => e) (fun h' u tk hk => ⟨.str p.shown, H, I.kept (t' := tk) hk, ⟨u, rfl⟩, q⟩) hz
  cases rd with
  | none =>
    simp only [PyData.shown] at q
    exact PySem.P.repr_of_none ⟨.str "None", H, I.tok _, ⟨_, rfl⟩, q⟩
  | bool b =>
    simp only [PyData.shown] at q
    exact PySem.P.repr_of_bool ⟨.str (if b then "True" else "False"), H, I.tok _, ⟨_, rfl⟩, q⟩
  | int i tk =>
    simp only [PyData.shown] at q
    simp only [PyData.showable] at hs
    exact PySem.P.repr_of_int (of_decide_eq_true hs) ⟨.str (toString i), H, I.tok _, ⟨_, rfl⟩, q⟩
  | str x tk =>
    simp only [PyData.shown] at q hz
    exact PySem.P.repr_of_str ⟨.str (reprText x), H, I.tok _, ⟨_, rfl⟩, q⟩ hz
  | list _ _ _ _ => exact big _ rfl
  | tuple _ _ _ _ => exact big _ rfl
  | dict _ _ _ _ _ => exact big _ rfl
def reprZ : List D → Option D
  | [d] => match d.pz with
    | some p => if (d.nod || d.nol) = true ∧ p.showable = true ∧ p.depth ≤ 50 ∧ p.shown.cps.toList.length ≤ lim then some (.str p.shown.cps.toList) else none
    | none => none
  | _ => none
theorem b_reprZ {c : Cn} : CB c (rReprZ c) reprZ := by
  intro H0 H xs ds dz Q s e h o
  match ds, e with
  | [d], e =>
    have e : (match d.pz with
      | some p => if (d.nod || d.nol) = true ∧ p.showable = true ∧ p.depth ≤ 50 ∧ p.shown.cps.toList.length ≤ lim then some (.str p.shown.cps.toList) else none
      | none => none) = some dz := e
    cases q0 : d.pz with
    | none => rw [q0] at e; cases e
    | some p =>
      rw [q0] at e
      have e : (if (d.nod || d.nol) = true ∧ p.showable = true ∧ p.depth ≤ 50 ∧ p.shown.cps.toList.length ≤ lim then some (D.str p.shown.cps.toList) else none) = some dz := e
      by_cases z : (d.nod || d.nol) = true ∧ p.showable = true ∧ p.depth ≤ 50 ∧ p.shown.cps.toList.length ≤ lim
      case neg => rw [if_neg z] at e; cases e
      rw [if_pos z] at e
      cases e
      obtain ⟨v, rfl, h1⟩ := h.one
      have es : sS p.shown.cps.toList = p.shown := by unfold sS; rw [Array.toArray_toList]
      refine ⟨v, d, p, rfl, Dat1.dat s h1, q0, Bool.or_eq_true_iff.mp z.1, z.2.1, z.2.2.1, by have := z.2.2.2; simpa [Str.length] using this, ?_⟩
      rw [← es]
      exact o.str z.2.2.2
end
end F
end

section
set_option Elab.async false
set_option linter.all false
set_option autoImplicit false
set_option maxRecDepth 100000
set_option maxHeartbeats 2000000
/-! F layer: several except clauses, each with or without a name. -/
namespace F
open PySem PySem.Spec PyProof.Rows L2
/-- what the clauses wish of an exception of the body, one after the other; some i: the slot of the clause's name -/
def wClauses (K : PySem.W.Frag) (Wout : WX) (D : Ends) : List (Value × Option Nat × (Addr → Value → Option Addr → TS)) → WX
  | [] => Wout
  | (c, none, ts) :: r => fun cls d σ H => ∃ b, PySem.W.exmOne K cls c = some b ∧ (b = true → ∀ a, H a = none → ts a cls d D σ H) ∧ (b = false → wClauses K Wout D r cls d σ H)
  | (c, some i, ts) :: r => fun cls d σ H => ∃ b, PySem.W.exmOne K cls c = some b ∧ (b = true → ∀ a, H a = none → ts a cls d { nx := fun σ' H' => D.nx (σ'.set i none) H', rt := D.rt, bk := fun σ' H' => D.bk (σ'.set i none) H', ct := fun σ' H' => D.ct (σ'.set i none) H' } (σ.set i (some (.ref a))) H) ∧
    (b = false → wClauses K Wout D r cls d σ H)
inductive ClausesOk (X : Cx) : List ExceptHandler → List (Value × Option Nat × (Addr → Value → Option Addr → TS)) → Prop
  | nil : ClausesOk X [] []
  | bare {x : Str} {c : Value} {ts : Addr → Value → Option Addr → TS} {b₀ : Stmt} {suite : List Stmt} {np pos' : Pos} {hds : List ExceptHandler} {l : List (Value × Option Nat × (Addr → Value → Option Addr → TS))} (hc : Names X x c)
      (hsu : ∀ (a : Addr) (oe : Obj) (cls : Value) (d : Option Addr) (pn : List (Addr × Obj)), Zc cls d oe → (∃ vs, oe.data = .fields vs) → PSs (X.suite a ((a, oe) :: pn)) (b₀ :: suite) (ts a cls d)) (r : ClausesOk X hds l) :
      ClausesOk X (.ExceptHandler (some (.Name x np)) none (b₀ :: suite) pos' :: hds) ((c, none, ts) :: l)
  | named {x n : Str} {i : Nat} {c : Value} {ts : Addr → Value → Option Addr → TS} {b₀ : Stmt} {suite : List Stmt} {np pos' : Pos} {hds : List ExceptHandler} {l : List (Value × Option Nat × (Addr → Value → Option Addr → TS))} (hc : Names X x c) (hi : X.N[i]? = some n) (hln : X.env.kindOf n = some .local)
      (hsu : ∀ (a : Addr) (oe : Obj) (cls : Value) (d : Option Addr) (pn : List (Addr × Obj)), Zc cls d oe → (∃ vs, oe.data = .fields vs) → PSs (X.suite a ((a, oe) :: pn)) (b₀ :: suite) (ts a cls d)) (r : ClausesOk X hds l) :
      ClausesOk X (.ExceptHandler (some (.Name x np)) (some n) (b₀ :: suite) pos' :: hds) ((c, some i, ts) :: l)
section
variable {X : Cx} {body : List Stmt} {h₀ : ExceptHandler} {hds : List ExceptHandler} {l : List (Value × Option Nat × (Addr → Value → Option Addr → TS))} {pos : Pos} {tb : WX → TS} {Wout : WX}
end
end F
end

section
set_option Elab.async false
set_option linter.all false
set_option autoImplicit false
set_option maxRecDepth 100000
set_option maxHeartbeats 2000000
/-! F layer: try with several clauses, as plain functions; what a def that gets a thunk promises. -/
namespace F
open PySem PySem.Spec PyProof.Rows L2
abbrev Cl := (Nat → Option Bool) × Option Nat × MS
def setO (i : Option Nat) (x : Option O) (e : Env) : Env := match i with
  | some i => e.set i x
  | none => e
def sufEndO (i : Option Nat) : SR → SR
  | .nx e => .nx (cleanE (setO i none e))
  | .bk e => .bk (cleanE (setO i none e))
  | .ct e => .ct (cleanE (setO i none e))
  | .rt o e => if o.exs g9 = true then .rt o (cleanE (setO i none e)) else .bad
  | .ex _ _ _ => .bad
  | .bad => .bad
def tryL : List Cl → Nat → D → Env → SR
  | [], k, p, e => .ex k p e
  | (cat, i, ms) :: r, k, p, e => match cat k with
    | some true => sufEndO i (ms (setO i (some (.sh (.ex 9 (.tup [.int (k : Nat), p])))) e))
    | some false => tryL r k p e
    | none => .bad
section
variable {X : Cx} {t : Tb} {W : WX} {P : Nat → Bool} {pos pos' np : Pos}
theorem Rp.cleanO {t : Tb} {K : PySem.W.Frag} {a : Addr} {cls : Value} {dx : Option Addr} {H0 Fr H : Hp} {σ : St} {e : Env} {as : Nat → List Addr}
    (rp : Rp ⟨K, (sufT t K a cls dx).cls, (sufT t K a cls dx).fld, (sufT t K a cls dx).tabs, (sufT t K a cls dx).ex, (sufT t K a cls dx).exM, (sufT t K a cls dx).exR⟩ H0 Fr H σ e as) :
    ∃ as', Rp ⟨K, t.cls, t.fld, t.tabs, t.ex, t.exM, t.exR⟩ H0 Fr H σ (cleanE e) as' := by
  obtain ⟨as1, r1⟩ := rp.re (σ' := σ) (e' := cleanE e) (by rw [cleanE_len]; exact rp.len) id (fun j o q => ⟨(cleanE_slot q).1, rfl⟩) (fun i j _ _ _ _ h => h)
  exact ⟨as1, Rp.cv sufDown r1 fun j o q => (cleanE_slot q).2⟩
inductive HdF (X : Cx) (t : Tb) (P : Nat → Bool) : List ExceptHandler → List Cl → Prop
  | nil : HdF X t P [] []
  | bare {x : Str} {c : Value} {cat : Nat → Option Bool} {ms : MS} {b₀ : Stmt} {suite : List Stmt} {np pos' : Pos} {hds : List ExceptHandler} {l : List Cl} (hc : Names X x c) (hcat : ∀ k b, cat k = some b → PySem.W.exmOne X.K (.ref (t.cls k)) c = some b)
      (hsu : ∀ (a : Addr) (oe : Obj) (cls : Value) (d : Option Addr) (pn : List (Addr × Obj)), Zc cls d oe → (∃ vs, oe.data = .fields vs) → SSs (X.suite a ((a, oe) :: pn)) (sufT t X.K a cls d) W0 P (b₀ :: suite) ms) (r : HdF X t P hds l) :
      HdF X t P (.ExceptHandler (some (.Name x np)) none (b₀ :: suite) pos' :: hds) ((cat, none, ms) :: l)
  | named {x n : Str} {i : Nat} {c : Value} {cat : Nat → Option Bool} {ms : MS} {b₀ : Stmt} {suite : List Stmt} {np pos' : Pos} {hds : List ExceptHandler} {l : List Cl} (hP : P i = false) (hi : X.N[i]? = some n) (hln : X.env.kindOf n = some .local) (hc : Names X x c)
      (hcat : ∀ k b, cat k = some b → PySem.W.exmOne X.K (.ref (t.cls k)) c = some b)
      (hsu : ∀ (a : Addr) (oe : Obj) (cls : Value) (d : Option Addr) (pn : List (Addr × Obj)), Zc cls d oe → (∃ vs, oe.data = .fields vs) → SSs (X.suite a ((a, oe) :: pn)) (sufT t X.K a cls d) W0 P (b₀ :: suite) ms) (r : HdF X t P hds l) :
      HdF X t P (.ExceptHandler (some (.Name x np)) (some n) (b₀ :: suite) pos' :: hds) ((cat, some i, ms) :: l)
/-- the clauses, read -/
theorem HdF.read {hds : List ExceptHandler} {cs : List Cl} (h : HdF X t P hds cs) : ∃ l, ClausesOk X hds l ∧
    ∀ {σ σ' : St} {Fr H0 H1 H' : Hp} {En : Ends} {e1 : Env} {as1 : Nat → List Addr} {k : Nat} {p : D} {cls : Value} {dx : Option Addr}, Same H0 H1 → Prot P σ σ' → Rp (cn X t) H1 Fr H' σ' e1 as1 → ExA t (cn X t) H1 H' k p cls dx →
      PoS t (cn X t) W P Fr σ H0 En (tryL cs k p e1) → wClauses X.K W En l cls dx σ' H' := by
  induction h with
  | nil => exact ⟨[], .nil, fun {σ σ' Fr H0 H1 H' En e1 as1 k p cls dx} s pr rp1 xa po => po σ' H1 H' as1 cls dx s pr rp1 xa⟩
  | @bare x c cat ms b₀ suite np pos' hds l0 hc hcat hsu r ih =>
    obtain ⟨l, hl, hr⟩ := ih
    refine ⟨_, .bare hc (ts := fun a cls d => tS (sufT t X.K a cls d) (cn X (sufT t X.K a cls d)) W0 P ms) hsu hl, ?_⟩
    intro σ σ' Fr H0 H1 H' En e1 as1 k p cls dx s pr rp1 xa po
    have xa0 := xa
    obtain ⟨ec, xa⟩ := xa
    unfold tryL at po
    cases q2 : cat k with
    | none => rw [q2] at po; exact po.elim
    | some b =>
      rw [q2] at po
      refine ⟨b, by rw [ec]; exact hcat k b q2, fun hb1 a na => ?_, fun hb1 => ?_⟩
      · subst hb1
        have r0 : Rp (cn X (sufT t X.K a cls dx)) H1 Fr H' σ' e1 as1 := rp1.up
        refine ⟨_, H1, Fr, _, r0, ?_⟩
        have po : PoS t (cn X t) W P Fr σ H0 En (sufEndO none (ms e1)) := po
        cases q3 : ms e1 with
        | nx e3 =>
          rw [q3] at po
          intro σ2 H2 H2' as2 s2 p2 rp2
          obtain ⟨as3, rp3⟩ := rp2.cleanO
          exact po _ H2 H2' as3 (s.trans s2) (pr.trans p2) rp3
        | bk e3 =>
          rw [q3] at po
          intro σ2 H2 H2' as2 s2 p2 rp2
          obtain ⟨as3, rp3⟩ := rp2.cleanO
          exact po _ H2 H2' as3 (s.trans s2) (pr.trans p2) rp3
        | ct e3 =>
          rw [q3] at po
          intro σ2 H2 H2' as2 s2 p2 rp2
          obtain ⟨as3, rp3⟩ := rp2.cleanO
          exact po _ H2 H2' as3 (s.trans s2) (pr.trans p2) rp3
        | rt o e3 =>
          rw [q3] at po
          have po : PoS t (cn X t) W P Fr σ H0 En (if o.exs g9 = true then .rt o (cleanE e3) else .bad) := po
          by_cases z : o.exs g9 = true
          case neg =>
            rw [if_neg z] at po
            exact po.elim
          rw [if_pos z] at po
          intro v σ2 H2 H2' s2 p2 ⟨bs, as2, ow, nd, off, rp2⟩
          obtain ⟨as3, rp3⟩ := rp2.cleanO
          exact po v σ2 H2 H2' (s.trans s2) (pr.trans p2) ⟨bs, as3, OwnR.cv sufDown o v bs z ow, nd, off, rp3⟩
        | ex k3 p3 e3 => rw [q3] at po; exact po.elim
        | bad => rw [q3] at po; exact po.elim
      · subst hb1
        exact hr s pr rp1 xa0 po
  | @named x n i c cat ms b₀ suite np pos' hds l0 hP hi hln hc hcat hsu r ih =>
    obtain ⟨l, hl, hr⟩ := ih
    refine ⟨_, .named hc hi hln (ts := fun a cls d => tS (sufT t X.K a cls d) (cn X (sufT t X.K a cls d)) W0 P ms) hsu hl, ?_⟩
    intro σ σ' Fr H0 H1 H' En e1 as1 k p cls dx s pr rp1 xa po
    have xa0 := xa
    obtain ⟨ec, xa⟩ := xa
    unfold tryL at po
    cases q2 : cat k with
    | none => rw [q2] at po; exact po.elim
    | some b =>
      rw [q2] at po
      refine ⟨b, by rw [ec]; exact hcat k b q2, fun hb1 a na => ?_, fun hb1 => ?_⟩
      · subst hb1
        have r0 : Rp (cn X (sufT t X.K a cls dx)) H1 Fr H' σ' e1 as1 := rp1.up
        have hd : Dat (cn X (sufT t X.K a cls dx)) H1 (.ex 9 (.tup [.int (k : Nat), p])) (.ref a) := .inr ⟨rfl, k, p, rfl, rfl, ec, by
          rcases xa with ⟨dd, v, h1, h2, h3⟩ | h1
          · exact .inl ⟨dd, v, h1, h2, h3⟩
          · exact .inr h1⟩
        have r1 := r0.setSh (i := i) hd
        refine ⟨_, H1, Fr, _, r1, ?_⟩
        have pr2 : Prot P σ (σ'.set i (some (.ref a))) := pr.trans (Prot.set hP)
        have po : PoS t (cn X t) W P Fr σ H0 En (sufEnd i (ms (e1.set i (some (.sh (.ex 9 (.tup [.int (k : Nat), p]))))))) := by
          have po : PoS t (cn X t) W P Fr σ H0 En (sufEndO (some i) (ms (e1.set i (some (.sh (.ex 9 (.tup [.int (k : Nat), p]))))))) := po
          cases q3 : ms (e1.set i (some (.sh (.ex 9 (.tup [.int (k : Nat), p]))))) <;> rw [q3] at po <;> exact po
        cases q3 : ms (e1.set i (some (.sh (.ex 9 (.tup [.int (k : Nat), p]))))) with
        | nx e3 =>
          rw [q3] at po
          intro σ2 H2 H2' as2 s2 p2 rp2
          obtain ⟨as3, rp3⟩ := rp2.clean (i := i)
          exact po _ H2 H2' as3 (s.trans s2) ((pr2.trans p2).trans (Prot.set hP)) rp3
        | bk e3 =>
          rw [q3] at po
          intro σ2 H2 H2' as2 s2 p2 rp2
          obtain ⟨as3, rp3⟩ := rp2.clean (i := i)
          exact po _ H2 H2' as3 (s.trans s2) ((pr2.trans p2).trans (Prot.set hP)) rp3
        | ct e3 =>
          rw [q3] at po
          intro σ2 H2 H2' as2 s2 p2 rp2
          obtain ⟨as3, rp3⟩ := rp2.clean (i := i)
          exact po _ H2 H2' as3 (s.trans s2) ((pr2.trans p2).trans (Prot.set hP)) rp3
        | rt o e3 =>
          rw [q3] at po
          have po : PoS t (cn X t) W P Fr σ H0 En (if o.exs g9 = true then .rt o (cleanE (e3.set i none)) else .bad) := po
          by_cases z : o.exs g9 = true
          case neg =>
            rw [if_neg z] at po
            exact po.elim
          rw [if_pos z] at po
          intro v σ2 H2 H2' s2 p2 ⟨bs, as2, ow, nd, off, rp2⟩
          obtain ⟨as3, rp3⟩ := rp2.clean0 (i := i)
          exact po v σ2 H2 H2' (s.trans s2) (pr2.trans p2) ⟨bs, as3, OwnR.cv sufDown o v bs z ow, nd, off, rp3⟩
        | ex k3 p3 e3 => rw [q3] at po; exact po.elim
        | bad => rw [q3] at po; exact po.elim
      · subst hb1
        exact hr s pr rp1 xa0 po
end
/-! ### a def that gets a thunk -/
section
variable {t : Tb}
end
theorem un52 {A : Around} {k : Nat} (hr : Room k A) : A.units + 52 < cLine := by have := hr.units; omega
end F
end

section
set_option Elab.async false
set_option linter.all false
set_option autoImplicit false
set_option maxRecDepth 100000
set_option maxHeartbeats 2000000
/-! F layer: small facts for the printed texts. -/
namespace F
open PySem PySem.Spec PyProof.Rows L2
theorem tabs_un {l : List (Addr × Option Str)} (h : tabsB1 l = true) : ∀ z ∈ l, ∀ q ∈ l, z.1 = q.1 → z.2 = q.2 := fun z hz q hq e => by
  have := List.all_eq_true.mp (List.all_eq_true.mp h z hz) q hq
  rw [decide_eq_true e] at this
  exact of_decide_eq_true (by simpa using this)
theorem boot_repr : bootBuiltins "repr" = some (.builtin "repr") := by decide +kernel
theorem boot_VE : bootBuiltins "ValueError" = some (.type "ValueError") := by decide +kernel
theorem boot_LE : bootBuiltins "LookupError" = some (.type "LookupError") := by decide +kernel
theorem boot_KE : bootBuiltins "KeyError" = some (.type "KeyError") := by decide +kernel
theorem boot_OE : bootBuiltins "OverflowError" = some (.type "OverflowError") := by decide +kernel
theorem boot_RE : bootBuiltins "RuntimeError" = some (.type "RuntimeError") := by decide +kernel
theorem boot_IE : bootBuiltins "IndexError" = some (.type "IndexError") := by decide +kernel
end F
end

section
set_option Elab.async false
set_option linter.all false
set_option autoImplicit false
set_option maxRecDepth 100000
set_option maxHeartbeats 2000000
/-! zip(a, b, strict=True) of two lists of one length, walked. -/
namespace F
open PySem PySem.Spec PyProof.Rows L2
section
variable {prog : Program} {w : World} {A : Around} {E : Value → Shared → Prop} {s : Shared}
variable {z ti to i1 i2 l1 l2 : Addr} {k1 k2 : Nat} {xs ys : Array Value}
end
end F
end

section
set_option Elab.async false
set_option linter.all false
set_option autoImplicit false
set_option maxRecDepth 100000
set_option maxHeartbeats 2000000
namespace F
open PySem PySem.Spec PyProof.Rows L2
section
variable {prog : Program} {w : World} {A : Around} {E : Value → Shared → Prop} {s : Shared}
variable {z ti to i1 i2 l1 l2 : Addr} {k1 k2 : Nat} {xs ys : Array Value}
end
/-! ### the call -/
section
variable {prog : Program} {w : World} {A : Around} {E : Value → Shared → Prop} {s : Shared}
end
/-! ### walked -/
/-! ### as plain data -/
def zipS : D → D → Env → Rs (List D)
  | .lst xs, .lst ys, e => if xs.length = ys.length then .ok (zipF xs ys) e else .bad
  | _, _, _ => .bad
def mItS (a b : M R) : M (List D) := fun e => andThen (a e) fun r e1 => andThen (leak r e1) fun x e2 => andThen (b e2) fun q e3 => andThen (leak q e3) fun y e4 => zipS x y e4
end F
end

section
set_option Elab.async false
set_option linter.all false
set_option autoImplicit false
set_option maxRecDepth 100000
set_option maxHeartbeats 2000000
/-! F layer: zip(strict=True), range(a, b), chains of comparisons, [*xs, e], xs[a:b] = [..]. -/
namespace F
open PySem PySem.Spec PyProof.Rows L2
section
variable {X : Cx} {t : Tb} {W : WX} {P : Nat → Bool} {a b k v lo hi : Expr} {ma mb mc : M R} {pos p tpos kp cp apos p1 p2 : Pos} {elts : List Expr} {kk j i : Nat} {tg : Expr}
/-! ### range(a, b) -/
def mItR (a b : M R) : M (List D) := fun e => andThen (mRs [a, b] e) fun rs e1 => match peeks rs e1 with
  | some [.int i, .int j] => if (-4611686018427387904 ≤ i ∧ i < 4611686018427387904) ∧ -4611686018427387904 ≤ j ∧ j < 4611686018427387904 then .ok (rngF i (j - i).toNat) e1 else .bad
  | _ => .bad
/-! ### a == b == c -/
def mChain (f g : D → D → Option D) (a b c : M R) : M R := fun e => andThen (a e) fun r e1 => andThen (b e1) fun q e2 => ofO (peek (nrm r) e2) fun x => ofO (peek (nrm q) e2) fun y => ofO (f x y) fun z => match z with
  | .bl true => andThen (c e2) fun s e3 => ofO (peek (nrm q) e3) fun y => ofO (peek s e3) fun w => ofO (g y w) fun z => .ok (.d z) e3
  | .bl false => .ok (.d (.bl false)) e2
  | _ => .bad
/-! ### [*xs, ..] -/
def mStar (a : M R) (m : M (List D)) : M (List D) := fun e => andThen (a e) fun r e1 => andThen (leak r e1) fun d e2 => match d with
  | .lst l => andThen (m e2) fun ds e3 => .ok (l ++ ds) e3
  | .tup l => andThen (m e2) fun ds e3 => .ok (l ++ ds) e3
  | _ => .bad
def mLstD (m : M (List D)) : M R := fun e => andThen (m e) fun ds e1 => if ds.length ≤ lim then .ok (.ow (.fl ds)) e1 else .bad
/-! ### xs[a:b] = [..] -/
def sSlSto (i : Nat) (lo hi : Option (M R)) (v : M R) : MS := fun e => sOf (v e) fun r e1 => match r with
  | .ow (.fl ys) => (match F.slot e1 i with
    | some _ => sOf (mPt lo e1) fun p e2 => sOf (mPt hi e2) fun q e3 => (match F.slot e3 i, p, q with
      | some (.fl l), some p, some q => if 0 ≤ p ∧ p ≤ q ∧ q ≤ l.length ∧ l.length + ys.length ≤ lim then .nx (e3.set i (some (.fl (l.take p.toNat ++ ys ++ l.drop q.toNat)))) else .bad
      | _, _, _ => .bad)
    | none => .bad)
  | _ => .bad
/-- a run in a richer frame -/
theorem PoS.more {α β : Type} {c : Cn} {RR : Hp → Hp → Hp → Env → β → α → Prop} {Fr Fr' H0 : Hp} {σ : St} {En : Ends} {x : Rs α} {f : α → Env → SR} {k' : β → Hp → Prop} (po : PoS t c W P Fr σ H0 En (sOf x f)) (less : ∀ b o, Fr b = some o → Fr' b = some o)
    (hk : ∀ (a : α) (e : Env) (b : β) (H1 H' : Hp), Same H0 H1 → RR Fr' H1 H' e b a → PoS t c W P Fr σ H1 En (f a e) → k' b H') : Po t c W Fr' σ H0 (RR Fr') k' x := by
  cases x with
  | ok a e1 => exact fun b H1 H' s rr => hk a e1 b H1 H' s rr (PoS.mono s Prot.refl po)
  | ex k p e1 => exact fun H1 H' as cls dx s rp xa => po σ H1 H' as cls dx s Prot.refl (rp.less less) xa
  | bad => exact po
end
end F
end

section
set_option Elab.async false
set_option linter.all false
set_option autoImplicit false
set_option maxRecDepth 100000
set_option maxHeartbeats 2000000
/-! F layer: parts of the text by their places; lambdas that are never made. -/
namespace F
open PySem PySem.Spec PyProof.Rows L2
/-- the parts of a statement, of an expression (nothing there: None) -/
abbrev noE : Expr := .Constant .none 0 ⟨0, 0, 0, 0⟩
abbrev noS : Stmt := .Pass ⟨0, 0, 0, 0⟩
def aS (l : List Stmt) (i : Nat) : Stmt := l.getD i noS
def aValue : Stmt → Expr
  | .Assign _ v _ => v
  | .Return (some v) _ => v
  | .Expr v _ => v
  | _ => noE
def aArg (e : Expr) (i : Nat) : Expr := match e with
  | .Call _ xs _ _ => xs.getD i noE
  | _ => noE
def aElt (e : Expr) (i : Nat) : Expr := match e with
  | .Tuple xs _ _ => xs.getD i noE
  | .List xs _ => xs.getD i noE
  | _ => noE
def lPar : Expr → Arguments
  | .Lambda p _ _ _ => p
  | _ => ⟨[], [], none, [], [], none, []⟩
def lBody : Expr → Expr
  | .Lambda _ b _ _ => b
  | _ => noE
def lScope : Expr → Scope
  | .Lambda _ _ s _ => s
  | _ => default
def lamAt (q : Str) (e : Expr) (c : Addr) : LF := ⟨q, lPar e, lBody e, lScope e, c⟩
def nFn : Fn := fun _ => .bad
theorem lok_none {P : Program} {w : World} {K : PySem.W.Frag} {mg : Str → Option Value} {base : Heap} {CX : CXT} {k n : Nat} {F : LF} {t : Tb} {c : Cn} : LOk P w K mg base CX k F n (spF t c nFn n) :=
  ⟨fun _ _ _ _ h => h.1, fun A outer s H f us vs Q E _ _ _ _ _ _ h => by
    obtain ⟨_, os, H0, Fr, as, _, hm⟩ := h
    exact hm.elim⟩
theorem LOk.up {P : Program} {w : World} {K : PySem.W.Frag} {mg : Str → Option Value} {base : Heap} {CX : CXT} {j k n : Nat} {F : LF} {sp : Sp} (o : LOk P w K mg base CX j F n sp) (h : j ≤ k) : LOk P w K mg base CX k F n sp := o.mono h
end F
end

section
set_option Elab.async false
set_option linter.all false
set_option autoImplicit false
set_option maxRecDepth 100000
set_option maxHeartbeats 2000000
/-! F layer: x, y = a, b where a name is captured: a tuple is made and taken apart. -/
namespace F
open PySem PySem.Spec PyProof.Rows L2
theorem RpO.alloc {c : Cn} {H0 Fr H : Hp} {σ : St} {e : Env} {vs : List V} {os : List O} (r : RpO c H0 Fr H σ e vs os) {p : Addr} {x : HO} (hp : H p = none) : Same H0 (upd H0 p x) ∧ RpO c (upd H0 p x) Fr (upd H p x) σ e vs os := by
  obtain ⟨bs, as, h, nd, off, rp⟩ := r
  obtain ⟨s1, rp1⟩ := rp.alloc (x := x) hp
  have ne : ∀ a ∈ bs, a ≠ p := fun a ha z => by
    obtain ⟨y, hy⟩ := OwnRs.here os vs bs h a ha
    rw [z, hp] at hy
    cases hy
  have ef : addF Fr (upd H p x) bs = addF Fr H bs := by
    funext a
    by_cases z : a ∈ bs
    · rw [addF_in z, addF_in z, upd_ne (ne a z)]
    · rw [addF_out z, addF_out z]
  exact ⟨s1, bs, as, OwnRs.mono s1 os vs bs (fun a ha => upd_ne (ne a ha)) h, nd, fun a ha => ⟨by rw [upd_ne (ne a ha)]; exact (off a ha).1, (off a ha).2⟩, by rw [ef]; exact rp1⟩
section
variable {X : Cx} {t : Tb} {W : WX} {P : Nat → Bool} {a b : Expr} {ma mb : M R} {pos : Pos}
end
end F
end

section
set_option Elab.async false
set_option linter.all false
set_option autoImplicit false
set_option maxRecDepth 100000
set_option maxHeartbeats 2000000
/-! F layer: the contents of a text as things of two kinds (5: a content, 6: a part), at rest in the heap. -/
namespace F
open PySem PySem.Spec PyProof.Rows L2 SlX
/-! ### plain -/
structure PR where
  first : Nat
  last : Nat
  inner : Option Nat
structure CR where
  word : List Nat
  start : Nat
  stop : Nat
  around : Option Nat
  row : List PR
  ended : Bool
structure TS where
  cs : List CR
  op : List Nat
def topS (t : TS) : Nat := t.op.headD 0
/-! ### in the heap -/
structure LayT where
  ca : Nat → Addr
  da : Nat → Addr
  ra : Nat → Addr
  pa : Nat → Nat → Addr
  pd : Nat → Nat → Addr
def refO (L : LayT) : Option Nat → V
  | none => .non
  | some j => .ref (L.ca j)
def fldsC (L : LayT) (k : Nat) (c : CR) : List (Str × V) := [("number", .int (k : Nat)), ("word", .str (sS c.word)), ("start", .int (c.start : Nat)), ("stop", .int (c.stop : Nat)), ("around", refO L c.around), ("row", .ref (L.ra k)), ("is_ended", .bl c.ended)]
def partVs (L : LayT) (p : PR) : List (Option V) := [some (.int (p.first : Nat)), some (refO L p.inner), some (.int (p.last : Nat))]
def rowV (L : LayT) (k : Nat) (c : CR) : List V := (List.range c.row.length).map fun j => V.ref (L.pa k j)
structure TreeH (CC PC : Addr) (H : Hp) (cs : List CR) (L : LayT) : Prop where
  c : ∀ k c, cs[k]? = some c → H (L.ca k) = some (.ins CC (L.da k) (fldsC L k c))
  r : ∀ k c, cs[k]? = some c → H (L.ra k) = some (.lst (rowV L k c))
  p : ∀ k c j q, cs[k]? = some c → c.row[j]? = some q → Slt H (L.pa k j) PC (L.pd k j) (partVs L q)
theorem Slt.same {H H' : Hp} {a C dx : Addr} {vs : List (Option V)} (s : Same H H') (h : Slt H a C dx vs) : Slt H' a C dx vs := by
  rcases h with ⟨h1, h2⟩ | ⟨h1, h2⟩
  · exact .inl ⟨s _ _ h1, h2⟩
  · exact .inr ⟨s _ _ h1, s _ _ h2⟩
theorem TreeH.mono {CC PC : Addr} {H H' : Hp} {cs : List CR} {L : LayT} (t : TreeH CC PC H cs L) (s : Same H H') : TreeH CC PC H' cs L :=
  ⟨fun k c e => s _ _ (t.c k c e), fun k c e => s _ _ (t.r k c e), fun k c j q e e2 => Slt.same s (t.p k c j q e e2)⟩
/-! ### attributes -/
section
variable {c : Cn} {CC PC : Addr} {f : Str}
end
section
variable {X : Cx} {t : Tb} {W : WX} {e : Expr} {me : M R} {f : Str} {pos : Pos} {CC PC : Addr}
end
end F
end

section
set_option Elab.async false
set_option linter.all false
set_option autoImplicit false
set_option maxRecDepth 100000
/-! the plain tree of a text: bounds -/
namespace F
def BdC (n m : Nat) (cs : List CR) : Prop := ∀ c ∈ cs, c.row.length ≤ m ∧ c.word.length ≤ lim ∧ (∀ j, c.around = some j → j < n) ∧ ∀ q ∈ c.row, ∀ j, q.inner = some j → j < n
theorem BdC.mono {n n' m m' : Nat} {cs : List CR} (h : BdC n m cs) (h1 : n ≤ n') (h2 : m ≤ m') : BdC n' m' cs := fun c hc => by
  obtain ⟨a1, a2, a3, a4⟩ := h c hc
  exact ⟨by omega, a2, fun j hj => Nat.lt_of_lt_of_le (a3 j hj) h1, fun q hq j hj => Nat.lt_of_lt_of_le (a4 q hq j hj) h1⟩
structure OkS (m : Nat) (t : TS) : Prop where
  b : BdC t.cs.length m t.cs
  o : ∀ k ∈ t.op, k < t.cs.length
  n : t.op ≠ []
theorem OkS.top {m : Nat} {t : TS} (h : OkS m t) : topS t < t.cs.length ∧ topS t ∈ t.op := by
  unfold topS
  cases q : t.op with
  | nil => exact absurd q h.n
  | cons k l => exact ⟨h.o k (by rw [q]; exact List.mem_cons_self ..), List.mem_cons_self ..⟩
end F
end

section
set_option Elab.async false
set_option linter.all false
set_option autoImplicit false
set_option maxRecDepth 100000
set_option maxHeartbeats 2000000
/-! F layer: a heap that only got new things: all of them may be told of from then on. -/
namespace F
open PySem PySem.Spec PyProof.Rows L2
end F
end

section
set_option Elab.async false
set_option linter.all false
set_option autoImplicit false
set_option maxRecDepth 100000
set_option maxHeartbeats 2000000
/-! F layer: what `tree` promises. -/
namespace F
open PySem PySem.Spec PyProof.Rows L2 SlX
/-- the things of the tree are new -/
def NewT (H : Hp) (cs : List CR) (L : LayT) : Prop := ∀ (k : Nat) (c : CR), cs[k]? = some c → H (L.ca k) = none ∧ H (L.ra k) = none ∧ ∀ j, j < c.row.length → H (L.pa k j) = none ∧ H (L.pd k j) = none
end F
end

section
set_option Elab.async false
set_option linter.all false
set_option autoImplicit false
set_option maxRecDepth 100000
set_option maxHeartbeats 2000000
/-! the plain tree: how many contents -/
namespace F
end F
end

section
set_option Elab.async false
set_option linter.all false
set_option autoImplicit false
set_option maxRecDepth 100000
set_option maxHeartbeats 2000000
/-! F layer: the walk of `tree`: what stands in the heap on the way. -/
namespace F
open PySem PySem.Spec PyProof.Rows L2 SlX
/-- behind Hs: the list found at fa, the stack at oa (its top last), the contents of t by L; all of it new, the contents and their rows apart -/
structure StT (CC PC : Addr) (Hs H : Hp) (t : TS) (L : LayT) (fa oa : Addr) : Prop where
  same : Same Hs H
  new : NewT Hs t.cs L
  nf : Hs fa = none
  no : Hs oa = none
  fo : fa ≠ oa
  found : H fa = some (.lst ((List.range t.cs.length).map fun k => V.ref (L.ca k)))
  opened : H oa = some (.lst (t.op.reverse.map fun k => V.ref (L.ca k)))
  tree : TreeH CC PC H t.cs L
  ci : ∀ i j, i < t.cs.length → j < t.cs.length → L.ca i = L.ca j → i = j
  ri : ∀ i j, i < t.cs.length → j < t.cs.length → L.ra i = L.ra j → i = j
  rf : ∀ i, i < t.cs.length → L.ra i ≠ fa ∧ L.ra i ≠ oa
/-- with the part at y as the last of content k -/
def LayT.more (L : LayT) (k n : Nat) (y dy : Addr) : LayT := { L with pa := fun i j => if i = k ∧ j = n then y else L.pa i j, pd := fun i j => if i = k ∧ j = n then dy else L.pd i j }
end F
end

section
set_option Elab.async false
set_option linter.all false
set_option autoImplicit false
set_option maxRecDepth 100000
set_option maxHeartbeats 2000000
/-! F layer: the walk of `tree`: the heap's steps. -/
namespace F
open PySem PySem.Spec PyProof.Rows L2 SlX
/-- what stood stands, but for those of S -/
def KpE (H H' : Hp) (S : Addr → Prop) : Prop := ∀ b o, H b = some o → ¬ S b → H' b = some o
theorem slO_lst {a C dx : Addr} {vs : List (Option V)} {xs : List V} : SlO a C dx vs ≠ .lst xs := fun z => by
  unfold SlO at z
  cases z
theorem slO_ins {a C dx C2 d2 : Addr} {vs : List (Option V)} {fs : List (Str × V)} : SlO a C dx vs ≠ .ins C2 d2 fs := fun z => by
  unfold SlO at z
  cases z
section
variable {CC PC : Addr} {Hs H H' : Hp} {t : TS} {L : LayT} {fa oa : Addr}
theorem StT.up (h : StT CC PC Hs H t L fa oa) (s : Same H H') : StT CC PC Hs H' t L fa oa :=
  ⟨h.same.trans s, h.new, h.nf, h.no, h.fo, s _ _ h.found, s _ _ h.opened, h.tree.mono s, h.ci, h.ri, h.rf⟩
/-- a part's place -/
theorem StT.part (h : StT CC PC Hs H t L fa oa) {k j : Nat} {c : CR} {q : PR} (e : t.cs[k]? = some c) (e2 : c.row[j]? = some q) : H (L.pa k j) = some (SlO (L.pa k j) PC (L.pd k j) (partVs L q)) ∧ H (L.pd k j) = some (.xd []) := by
  rcases h.tree.p k c j q e e2 with ⟨_, z⟩ | z
  · cases z
  · exact z
theorem getk {k : Nat} {cs : List CR} (h : k < cs.length) : ∃ c, cs[k]? = some c := ⟨_, List.getElem?_eq_getElem h⟩
theorem StT.ca_fa (h : StT CC PC Hs H t L fa oa) {k : Nat} (hk : k < t.cs.length) : L.ca k ≠ fa ∧ L.ca k ≠ oa := by
  obtain ⟨c, e⟩ := getk hk
  exact ⟨ne_of (h.tree.c k c e) h.found (by intro q; cases q), ne_of (h.tree.c k c e) h.opened (by intro q; cases q)⟩
/-- the tree over a heap that keeps what stood, but for S, S no part and no field of the tree -/
theorem TreeH.keepE {cs : List CR} {S : Addr → Prop} (h : TreeH CC PC H cs L) (k : KpE H H' S) (hc : ∀ i c, cs[i]? = some c → ¬ S (L.ca i)) (hr : ∀ i c, cs[i]? = some c → ¬ S (L.ra i))
    (hp : ∀ i c j q, cs[i]? = some c → c.row[j]? = some q → ¬ S (L.pa i j) ∧ ¬ S (L.pd i j)) : TreeH CC PC H' cs L :=
  ⟨fun i c e => k _ _ (h.c i c e) (hc i c e), fun i c e => k _ _ (h.r i c e) (hr i c e), fun i c j q e e2 => by
    obtain ⟨h1, h2⟩ := hp i c j q e e2
    rcases h.p i c j q e e2 with ⟨a, b⟩ | ⟨a, b⟩
    · exact .inl ⟨k _ _ a h1, b⟩
    · exact .inr ⟨k _ _ a h1, k _ _ b h2⟩⟩
/-- what is not of the tree's kind -/
theorem StT.notLst (h : StT CC PC Hs H t L fa oa) {a : Addr} {xs : List V} (ha : H a = some (.lst xs)) : (∀ i c, t.cs[i]? = some c → ¬ L.ca i = a) ∧ ∀ i c j q, t.cs[i]? = some c → c.row[j]? = some q → ¬ L.pa i j = a ∧ ¬ L.pd i j = a :=
  ⟨fun i c e => ne_of (h.tree.c i c e) ha (by intro q; cases q), fun i c j q e e2 => ⟨ne_of (h.part e e2).1 ha slO_lst, ne_of (h.part e e2).2 ha (by intro q; cases q)⟩⟩
theorem StT.notIns (h : StT CC PC Hs H t L fa oa) {a C dx : Addr} {fs : List (Str × V)} (ha : H a = some (.ins C dx fs)) : (∀ i c, t.cs[i]? = some c → ¬ L.ra i = a) ∧ ∀ i c j q, t.cs[i]? = some c → c.row[j]? = some q → ¬ L.pa i j = a ∧ ¬ L.pd i j = a :=
  ⟨fun i c e => ne_of (h.tree.r i c e) ha (by intro q; cases q), fun i c j q e e2 => ⟨ne_of (h.part e e2).1 ha slO_ins, ne_of (h.part e e2).2 ha (by intro q; cases q)⟩⟩
theorem KpE.same {S : Addr → Prop} (k : KpE H H' S) (s : Same Hs H) (hn : ∀ b, S b → Hs b = none) : Same Hs H' := fun b o e => k b o (s b o e) fun z => by
  rw [hn b z] at e
  cases e
/-- the stack changed alone -/
theorem StT.stack (h : StT CC PC Hs H t L fa oa) {op : List Nat} (k : KpE H H' (· = oa)) (e : H' oa = some (.lst (op.reverse.map fun k => V.ref (L.ca k)))) : StT CC PC Hs H' ⟨t.cs, op⟩ L fa oa := by
  obtain ⟨n1, n2⟩ := h.notLst h.opened
  exact ⟨k.same h.same fun b z => by rw [z]; exact h.no, h.new, h.nf, h.no, h.fo, k _ _ h.found h.fo, e, h.tree.keepE k n1 (fun i c e => (h.rf i (List.getElem?_eq_some_iff.mp e).1).2) n2, h.ci, h.ri, h.rf⟩
/-- a content's end is noted -/
theorem StT.set (h : StT CC PC Hs H t L fa oa) {i stop : Nat} {b : Bool} {c : CR} (e : t.cs[i]? = some c) (k : KpE H H' (· = L.ca i)) (e1 : H' (L.ca i) = some (.ins CC (L.da i) (fldsC L i { c with stop := stop, ended := b }))) :
    StT CC PC Hs H' ⟨t.cs.modify i fun c => { c with stop := stop, ended := b }, t.op⟩ L fa oa := by
  have hi := (List.getElem?_eq_some_iff.mp e).1
  obtain ⟨n1, n2⟩ := h.notIns (h.tree.c i c e)
  have gm : ∀ j d, (t.cs.modify i fun c => { c with stop := stop, ended := b })[j]? = some d → ∃ d0, t.cs[j]? = some d0 ∧ d.row = d0.row ∧ (j ≠ i → d = d0) ∧ (j = i → d = { c with stop := stop, ended := b }) := fun j d hd => by
    rw [List.getElem?_modify] at hd
    cases q : t.cs[j]? with
    | none =>
      rw [q] at hd
      cases hd
    | some d0 =>
      rw [q] at hd
      refine ⟨d0, rfl, ?_⟩
      have hd : some (if i = j then { d0 with stop := stop, ended := b } else d0) = some d := hd
      by_cases z : i = j
      · rw [if_pos z] at hd
        cases hd
        refine ⟨rfl, fun w => absurd z.symm w, fun _ => ?_⟩
        rw [z] at e
        rw [e] at q
        cases q
        rfl
      · rw [if_neg z] at hd
        cases hd
        exact ⟨rfl, fun _ => rfl, fun w => absurd w.symm z⟩
  have hl : (t.cs.modify i fun c => { c with stop := stop, ended := b }).length = t.cs.length := List.length_modify ..
  refine ⟨k.same h.same fun b z => by rw [z]; exact (h.new i c e).1, fun j d hd => ?_, h.nf, h.no, h.fo, ?_, k _ _ h.opened (h.ca_fa hi).2.symm, ⟨fun j d hd => ?_, fun j d hd => ?_, fun j d m q hd hq => ?_⟩, ?_, ?_, ?_⟩
  · obtain ⟨d0, a1, a2, _, _⟩ := gm j d hd
    rw [a2]
    exact h.new j d0 a1
  · rw [hl]
    exact k _ _ h.found (h.ca_fa hi).1.symm
  · obtain ⟨d0, a1, a2, a3, a4⟩ := gm j d hd
    by_cases z : j = i
    · rw [a4 z, z]
      exact e1
    · rw [a3 z]
      exact k _ _ (h.tree.c j d0 a1) fun w => z (h.ci j i (List.getElem?_eq_some_iff.mp a1).1 hi w)
  · obtain ⟨d0, a1, a2, _, _⟩ := gm j d hd
    have z : rowV L j d = rowV L j d0 := by
      unfold rowV
      rw [a2]
    rw [z]
    exact k _ _ (h.tree.r j d0 a1) (n1 j d0 a1)
  · obtain ⟨d0, a1, a2, _, _⟩ := gm j d hd
    rw [a2] at hq
    obtain ⟨p1, p2⟩ := h.part a1 hq
    obtain ⟨m1, m2⟩ := n2 j d0 m q a1 hq
    exact .inr ⟨k _ _ p1 m1, k _ _ p2 m2⟩
  · intro a b
    show _ < (t.cs.modify i _).length → _ < (t.cs.modify i _).length → _
    rw [hl]
    exact h.ci a b
  · intro a b
    show _ < (t.cs.modify i _).length → _ < (t.cs.modify i _).length → _
    rw [hl]
    exact h.ri a b
  · intro a
    show _ < (t.cs.modify i _).length → _
    rw [hl]
    exact h.rf a
end
end F
end

section
set_option Elab.async false
set_option linter.all false
set_option maxRecDepth 100000
set_option maxHeartbeats 2000000
/-! F layer: next of a generator expression over a list of signs, with a text as default; calls with one keyword; defs as values. -/
namespace F
open PySem PySem.Spec PyProof.Rows L2
section
variable {X : Cx} {pins : List (Addr × Obj)} {σ : L2.St} {H : Hp} {s : Shared}
end
section
variable {X : Cx}
end
section
variable {X : Cx} {t : Tb} {W : WX} {P : Nat → Bool}
end
/-! ### calls with one keyword -/
section
variable {X : Cx} {t : Tb} {W : WX} {c : Cn}
variable {CX : CXT} {k n : Nat} {f : Addr} {fd : FuncData} {ps ks : List Str} {sp : Sp} {E : L2.St → XK} {g : List Value → List Value → List Value} {gV : List V → List V → List V}
variable {x kw : Str} {a v : Expr} {es : List Expr} {p pos kpos : Pos} {ta : TA} {tv : TE} {ms : List (M R)} {mv : M R} {Z : Fn} {kk : Nat}
end
end F
end

section
set_option Elab.async false
set_option linter.all false
set_option autoImplicit false
set_option maxRecDepth 100000
set_option maxHeartbeats 2000000
/-! F layer: described things of several kinds at once; what the written part must say of the classes of contents and parts; defs as values. -/
namespace F
open PySem PySem.Spec PyProof.Rows L2 SlX
section
variable {mk : Nat → Addr → LF} {CC PC : Addr} {N : Nat} {da : Nat → Addr} {k : Nat} {d : D} {v : V} {H H' : Hp}
end
/-! ### the classes -/
structure TreeF (K : PySem.W.Frag) (CC PC : Addr) : Prop where
  cl : Cls K CC
  mc : Mk K CC (He.ma K CC "__init__")
  en : Meth K CC "end" (He.ma K CC "end")
  n1 : NoAttr K CC "number"
  n2 : NoAttr K CC "word"
  n3 : NoAttr K CC "start"
  n4 : NoAttr K CC "stop"
  n5 : NoAttr K CC "around"
  n6 : NoAttr K CC "row"
  n7 : NoAttr K CC "is_ended"
  sc : SCls K PC
  mp : Mk K PC (He.ma K PC "__init__")
  s0 : Slot1 K PC "first" (slAd K PC "first") 0
  s1 : Slot1 K PC "last" (slAd K PC "last") 2
  s2 : Slot1 K PC "inner" (slAd K PC "inner") 1
/-! ### defs -/
theorem FnOk.up {P : Program} {w : World} {K : PySem.W.Frag} {mg : Str → Option Value} {base : Heap} {CX : CXT} {k : Nat} {f : Addr} {fd : FuncData} {ps : List Str} {sp : Sp} (F : FnOk P w K mg base CX0 k f fd ps sp) : FnOk P w K mg base CX k f fd ps sp :=
  ⟨F.len, fun A outer s H args us vs Q E hr he hb hv hs => codeAny_mono (F.run A outer s H args us vs Q E hr he hb hv hs) fun r s' h => by
    cases r with
    | ok fl => cases fl <;> exact h
    | error e => exact h.elim⟩
/-! ### calls of names that hold defs -/
section
variable {X : Cx} {t : Tb} {W : WX} {CX : CXT} {k kk n i N : Nat} {da : Nat → Addr} {x kw : Str} {a v : Expr} {es : List Expr} {p pos kpos : Pos} {ta : TA} {tv : TE} {ms : List (M R)} {mv : M R} {Zs : Nat → Fn}
end
end F
end

section
set_option Elab.async false
set_option linter.all false
set_option autoImplicit false
set_option maxRecDepth 100000
set_option maxHeartbeats 2000000
/-! zip(a, b, strict=True) of a list and a tuple of one length, walked. -/
namespace F
open PySem PySem.Spec PyProof.Rows L2
section
variable {prog : Program} {w : World} {A : Around} {E : Value → Shared → Prop} {s : Shared}
variable {z ti to i1 i2 l1 l2 : Addr} {k1 k2 : Nat} {xs ys : Array Value}
end
section
variable {prog : Program} {w : World} {A : Around} {E : Value → Shared → Prop} {s : Shared}
end
section
variable {X : Cx} {t : Tb} {W : WX} {P : Nat → Bool} {a b k v lo hi : Expr} {ma mb mc : M R} {pos p tpos kp cp apos p1 p2 : Pos} {elts : List Expr} {kk j i : Nat} {tg : Expr}
end
end F
namespace F
open PySem PySem.Spec PyProof.Rows L2
theorem FnQ.mono {P : Program} {w : World} {K : PySem.W.Frag} {mg : Str → Option Value} {base : Heap} {CX : CXT} {j k : Nat} {f : Addr} {fd : FuncData} {ps : List Str} {sp : Sp} (G : FnQ P w K mg base CX j f fd ps sp) (h : j ≤ k) : FnQ P w K mg base CX k f fd ps sp :=
  ⟨G.len, fun B out st H ar us vs Q E hr => G.run B out st H ar us vs Q E (hr.mono h)⟩
end F
end

section
set_option Elab.async false
set_option linter.all false
set_option autoImplicit false
set_option maxRecDepth 100000
set_option maxHeartbeats 2000000
/-! F layer: instances of own classes: fields, methods, properties, len. -/
namespace F
open PySem PySem.Spec PyProof.Rows L2
/-! ### fields -/
section
variable {X : Cx} {t : Tb} {W : WX} {o : Expr} {mo : M R} {f : Str} {pos : Pos} {k : Nat}
/-! ### an instance, kept from now on -/
/-! ### methods -/
variable {CX : CXT} {kk n : Nat} {m : Str} {C g : Addr} {fd : FuncData} {ps : List Str} {sp : Sp} {ds : List Value} {dvs : List V} {E : L2.St → XK} {ta : TE} {tt : TA} {e : Expr} {es : List Expr} {apos : Pos}
variable {Z : Fn} {dfl : List D} {ms : List (M R)} {k2 : Nat}
/-! ### properties -/
/-! ### len -/
end
end F
end

section
set_option Elab.async false
set_option linter.all false
set_option autoImplicit false
set_option maxRecDepth 100000
set_option maxHeartbeats 2000000
/-! F layer: len of an instance; fields stored; instances made. -/
namespace F
open PySem PySem.Spec PyProof.Rows L2
section
variable {X : Cx} {t : Tb} {W : WX} {o : Expr} {mo : M R} {k kk n : Nat} {Z : Fn} {p pos : Pos} {g : Addr}
end
/-! ### fields stored -/
section
variable {X : Cx} {t : Tb} {W : WX} {P : Nat → Bool} {a : Expr} {ma : M R} {pos px pos' : Pos} {k i j : Nat} {f x : Str}
end
end F
end

section
set_option Elab.async false
set_option linter.all false
set_option autoImplicit false
set_option maxRecDepth 100000
set_option maxHeartbeats 2000000
/-! F layer: instances made. -/
namespace F
open PySem PySem.Spec PyProof.Rows L2
section
variable {X : Cx} {t : Tb} {W : WX} {k n : Nat} {Z : Fn} {ms : List (M R)} {dfl : List D} {dvs : List V} {σ : L2.St} {H : Hp} {Q : VK}
end
section
variable {X : Cx} {t : Tb} {W : WX} {CX : CXT} {k n m : Nat} {C f : Addr} {fd : FuncData} {ps ks : List Str} {sp : Sp} {ds : List Value} {dvs : List V} {E : L2.St → XK} {g : List Value → List Value → List Value} {gV : List V → List V → List V}
variable {x kw : Str} {a v : Expr} {es : List Expr} {p pos kpos : Pos} {ms : List (M R)} {mv : M R} {Z : Fn} {kk : Nat} {dfl : List D}
end
end F
end

section
set_option Elab.async false
set_option linter.all false
set_option autoImplicit false
set_option maxRecDepth 100000
set_option maxHeartbeats 2000000
/-! F layer: properties whose getter hands out a field. -/
namespace F
open PySem PySem.Spec PyProof.Rows L2
section
variable {X : Cx} {t : Tb} {W : WX} {o : Expr} {mo : M R} {f h : Str} {pos : Pos} {k kk i : Nat}
end
end F
end

section
set_option Elab.async false
set_option linter.all false
set_option autoImplicit false
set_option maxRecDepth 100000
set_option maxHeartbeats 2000000
/-! F layer: range(a, b, -1), list(range(..)), xs[::-1], sorted of ints, max with a default, a & b, chains of three. -/
namespace F
open PySem PySem.Spec PyProof.Rows L2
/-! ### range(a, b, -1) -/
section
variable {X : Cx} {t : Tb} {W : WX} {P : Nat → Bool} {a b d v lo hi e : Expr} {ma mb mc md : M R} {pos p tpos kp cp apos p1 p2 p3 : Pos} {elts : List Expr} {kk j i : Nat} {tg : Expr}
/-! ### list(range(..)) -/
/-! ### xs[::-1] -/
/-! ### sorted, ints -/
end
end F
end

section
set_option Elab.async false
set_option linter.all false
set_option autoImplicit false
set_option maxRecDepth 100000
set_option maxHeartbeats 2000000
/-! F layer: max with a default, a & b, chains of three comparisons. -/
namespace F
open PySem PySem.Spec PyProof.Rows L2
section
variable {X : Cx} {t : Tb} {W : WX} {a b c d : Expr} {ma mb mc md : M R} {pos p kp cp : Pos} {j : Nat}
/-! ### a op b op c op d, as a test -/
end
end F
end

section
set_option Elab.async false
set_option linter.all false
set_option autoImplicit false
set_option maxRecDepth 100000
set_option maxHeartbeats 2000000
/-! F layer: dict comprehensions. -/
namespace F
open PySem PySem.Spec PyProof.Rows L2
section
variable {J : It} {n : Nat} {G : Hp → Prop} {Y : Nat → Hp → V → Hp → Prop}
end
section
variable {X : Cx} {t : Tb} {W : WX}
variable {kx vx target iter : Expr} {ifs : List Expr} {scope : Scope} {own : List (Str × Nat)} {pos spos py : Pos} {tg : Tg} {mi : M (List D)} {mc : M Bool} {mk mv : M R} {P : Nat → Bool}
end
end F
end

section
set_option Elab.async false
set_option linter.all false
set_option autoImplicit false
set_option maxRecDepth 100000
set_option maxHeartbeats 2000000
/-! F layer: k in d, sorted(d), list(d), sum, max of a list. -/
namespace F
open PySem PySem.Spec PyProof.Rows L2
section
variable {X : Cx} {t : Tb} {W : WX} {a b o e : Expr} {ma mb : M R} {pos p px : Pos} {i : Nat} {e1 : Str}
/-! ### sorted(d), the keys ints -/
/-! ### sum, max -/
/-! ### list(d), d a name's own dict -/
end
end F
end

section
set_option Elab.async false
set_option linter.all false
set_option autoImplicit false
set_option maxRecDepth 100000
set_option maxHeartbeats 2000000
/-! F layer: self.a, self.b = e; for k in a dict that was just made. -/
namespace F
open PySem PySem.Spec PyProof.Rows L2
section
variable {X : Cx} {t : Tb} {W : WX} {P : Nat → Bool} {a : Expr} {ma : M R} {pos px pos' px2 pos2 pt : Pos} {k i j : Nat} {f g x : Str}
end
section
variable {X : Cx} {t : Tb} {W : WX} {a : Expr} {ma : M R}
end
/-! ### a field of an instance that a name alone holds -/
theorem OwnRs.get {c : Cn} {H0 H : Hp} : ∀ {os : List O} {vs : List V} {as : List Addr} {i : Nat} {d : F.D}, OwnRs c H0 H os vs as → os[i]? = some (.sh d) → ∃ w, vs[i]? = some w ∧ Dat c H0 d w
  | [], _, _, _, _, _, e => by cases e
  | o :: os, vs, as, i, d, ⟨v, r, bs, cs, e1, e2, h3, h4⟩, e => by
    subst e1 e2
    cases i with
    | zero =>
      have e : some o = some (.sh d) := e
      cases e
      exact ⟨v, rfl, h3.2⟩
    | succ i =>
      obtain ⟨w, g1, g2⟩ := OwnRs.get h4 (by simpa using e : os[i]? = some (.sh d))
      exact ⟨w, by simpa using g1, g2⟩
section
variable {X : Cx} {t : Tb} {W : WX} {o : Expr} {mo : M R} {f : Str} {pos : Pos} {k : Nat}
end
end F
end

section
set_option Elab.async false
set_option linter.all false
set_option autoImplicit false
set_option maxRecDepth 100000
set_option maxHeartbeats 2000000
/-! F layer: names that hold defs called with values alone; the length of a dict. -/
namespace F
open PySem PySem.Spec PyProof.Rows L2
section
variable {X : Cx} {t : Tb} {W : WX} {CX : CXT} {k kk n i N : Nat} {da : Nat → Addr} {x : Str} {a : Expr} {es : List Expr} {p pos : Pos} {ta : TA} {ms : List (M R)} {Zs : Nat → Fn} {df : Nat → List D}
end
section
variable {X : Cx} {t : Tb} {W : WX} {P : Nat → Bool} {a b c' d' : Expr} {ma mb mc md : M R} {pos : Pos}
end
/-! ### len of a dict -/
end F
end

section
set_option Elab.async false
set_option linter.all false
set_option autoImplicit false
set_option maxRecDepth 100000
set_option maxHeartbeats 2000000
/-! F layer: dicts of ints that were locked when they were walked: things of the kind 7. -/
namespace F
open PySem PySem.Spec PyProof.Rows L2
section
variable {mk : Nat → Addr → LF} {CC PC : Addr} {N : Nat} {da : Nat → Addr}
end
/-! ### read -/
section
variable {c : Cn} {H0 H : Hp}
end
section
variable {X : Cx} {t : Tb} {W : WX} {a b : Expr} {ma mb : M R} {pos p p1 : Pos} {i : Nat}
/-! ### walked -/
end
end F
end

section
set_option Elab.async false
set_option linter.all false
set_option autoImplicit false
set_option maxRecDepth 100000
set_option maxHeartbeats 2000000
/-! F layer: defs whose promise holds wherever they are called; generator defs, drained by list. -/
namespace F
open PySem PySem.Spec PyProof.Rows L2
section
variable {X : Cx} {CX : CXT} {k : Nat} {f : Addr} {fd : FuncData} {ps : List Str} {sp : Sp} {ds : List Value} {dvs : List V} {E : St → XK}
end
section
variable {X : Cx} {t : Tb} {W : WX} {a o : Expr} {es : List Expr} {ms : List (M R)} {mo : M R} {pos p apos : Pos} {x m : Str} {k kk k2 n : Nat} {Z : Fn} {dfl : List D}
end
/-! ### a def's promise by its body -/
section
variable {P : Program} {w : World} {K : PySem.W.Frag} {mg : Str → Option Value} {base : Heap} {t : Tb}
end
/-! ### generators: statements that hand things out -/
inductive GRs where
  | nx (e : Env) (ys : List D) | rt (e : Env) (ys : List D) | bk (e : Env) (ys : List D) | ct (e : Env) (ys : List D) | ex (c : Nat) (p : D) (e : Env) | bad
abbrev MG := Env → List D → GRs
def PoG (t : Tb) (c : Cn) (W : WX) (Fr H0 : Hp) (D : GEnds) : GRs → Prop
  | .nx e ys => ∀ σ' H1 H' as ws, Same H0 H1 → Rp c H1 Fr H' σ' e as → Dats c H1 ys ws → D.nx ws σ' H'
  | .bk e ys => ∀ σ' H1 H' as ws, Same H0 H1 → Rp c H1 Fr H' σ' e as → Dats c H1 ys ws → D.bk ws σ' H'
  | .ct e ys => ∀ σ' H1 H' as ws, Same H0 H1 → Rp c H1 Fr H' σ' e as → Dats c H1 ys ws → D.ct ws σ' H'
  | .rt e ys => ∀ σ' H1 H' as ws, Same H0 H1 → Rp c H1 Fr H' σ' e as → Dats c H1 ys ws → D.rt ws .non H'
  | .ex k p e => ∀ σ' H1 H' as cls dx, Same H0 H1 → Rp c H1 Fr H' σ' e as → ExA t c H1 H' k p cls dx → W cls dx σ' H'
  | .bad => False
theorem GS.imp {X : Cx} {s : Stmt} {u u' : TGn} (h : GS X s u) (k : ∀ D ys σ H, u' D ys σ H → u D ys σ H) : GS X s u' := ⟨fun A S ip R n ys s0 c fs K J gd lv s σ H D g hn gk hI q => h.run A S ip R n ys s0 c fs K J gd lv s σ H D g hn gk hI (k _ _ _ _ q)⟩
theorem GSs.imp {X : Cx} {s : List Stmt} {u u' : TGn} (h : GSs X s u) (k : ∀ D ys σ H, u' D ys σ H → u D ys σ H) : GSs X s u' := ⟨fun A S ip R n ys s0 c fs K J gd lv s σ H D g hn gk hI q => h.run A S ip R n ys s0 c fs K J gd lv s σ H D g hn gk hI (k _ _ _ _ q)⟩
section
variable {X : Cx} {t : Tb} {W : WX} {pr : Nat → Bool} {st : Stmt} {rest : List Stmt} {Fr H0 H1 : Hp} {D : GEnds} {c : Cn}
theorem PoG.mono {x : GRs} (s : Same H0 H1) (h : PoG t c W Fr H0 D x) : PoG t c W Fr H1 D x := by
  cases x with
  | nx e ys => exact fun σ' H2 H' as ws s2 => h σ' H2 H' as ws (s.trans s2)
  | bk e ys => exact fun σ' H2 H' as ws s2 => h σ' H2 H' as ws (s.trans s2)
  | ct e ys => exact fun σ' H2 H' as ws s2 => h σ' H2 H' as ws (s.trans s2)
  | rt e ys => exact fun σ' H2 H' as ws s2 => h σ' H2 H' as ws (s.trans s2)
  | ex k q e => exact fun σ' H2 H' as cls dx s2 => h σ' H2 H' as cls dx (s.trans s2)
  | bad => exact h
end
/-! ### a generator def -/
theorem Po.imp {α β : Type} {t : Tb} {c : Cn} {W : WX} {RR : Hp → Hp → Env → β → α → Prop} {Q Q' : β → Hp → Prop} {Fr H0 : Hp} {σ : St} {x : Rs α} (k : ∀ b H, Q b H → Q' b H) (h : Po t c W Fr σ H0 RR Q x) : Po t c W Fr σ H0 RR Q' x := by
  cases x with
  | ok a e => exact fun b H1 H' s rr => k _ _ (h b H1 H' s rr)
  | ex k' p e => exact h
  | bad => exact h
section
variable {X : Cx} {t : Tb} {W : WX} {a o : Expr} {es : List Expr} {ms : List (M R)} {mo : M R} {pos pos' p apos : Pos} {m nm : Str} {k kk k2 n j : Nat} {g : MG}
end
end F
end

section
set_option Elab.async false
set_option linter.all false
set_option autoImplicit false
set_option maxRecDepth 100000
/-! F layer: sorted of a list of texts of one sign each. -/
namespace F
open PySem PySem.Spec PyProof.Rows L2
end F
end

section
set_option Elab.async false
set_option linter.all false
set_option autoImplicit false
set_option maxRecDepth 100000
set_option maxHeartbeats 2000000
/-! F layer: a lambda that has parameters and captures names, handed to a def: what it promises, how it is called there. -/
namespace F
open PySem PySem.Spec PyProof.Rows L2
structure LOkC (P : Program) (w : World) (K : PySem.W.Frag) (mg : Str → Option Value) (base : Heap) (CX : CXT) (k : Nat) (F : LF) (cl : List (Str × Addr)) (fr : List Str) (n : Nat) (sp : List (Option V) → Sp) : Prop where
  len : ∀ ws vs H Q E, sp ws vs H Q E → vs.length = n
  run : ∀ (A : Around) (outer : List PySem.Env) (s : Shared) (H : Hp) (f : Addr) (us : List Value) (vs : List V) (ws : List (Option V)) (Q : VK) (E : XK), Room k A → A.guards = some [] → Env0 P w K mg base A outer s H → H f = some (FnLc f F cl) → H F.c = some (LamX.CodeO F.c F.qual) →
    NdefX.CellsAt cl fr ws s.heap H → Vals vs us → sp ws vs H Q E → codeAny (model P w) A (.call (.ref f) ⟨us, []⟩) (L2.CR CX outer P w H s Q E) s
section
variable {CX : CXT} {P : Program} {w : World} {K : PySem.W.Frag} {mg : Str → Option Value} {base : Heap} {N ps fr : List Str} {F : LF} {cl : List (Str × Addr)} {k j n n2 : Nat} {sp : List (Option V) → Sp}
end
section
variable {X : Cx} {CX : CXT} {i j k n : Nat} {x : Str} {f : Addr} {LM : LF} {cl : List (Str × Addr)} {fr : List Str} {ws : List (Option V)} {sp : List (Option V) → Sp} {E : St → XK} {t : TA} {e : Expr} {es : List Expr} {p pos : Pos}
end
/-! ### as data: kind 12, with what it captured -/
end F
end

section
set_option Elab.async false
set_option linter.all false
set_option autoImplicit false
set_option maxRecDepth 100000
set_option maxHeartbeats 2000000
/-! F layer: g(things, lambda x: e), the names of e captured. -/
namespace F
open PySem PySem.Spec PyProof.Rows L2
section
variable {t : Tb} {f : Addr} {Lf : LF} {cl : List (Str × Addr)} {ds : List D} {Hc : Hp}
end
section
variable {X : Cx} {pins : List (Addr × Obj)} {σ : L2.St} {H : Hp} {s : Shared}
end
/-! ### the def that gets it; the call -/
end F
end

section
set_option Elab.async false
set_option linter.all false
set_option autoImplicit false
set_option maxRecDepth 100000
set_option maxHeartbeats 2000000
/-! F layer: a dict of ints that a call returns, locked at once. -/
namespace F
open PySem PySem.Spec PyProof.Rows L2
section
variable {X : Cx} {t : Tb} {W : WX} {a e : Expr} {ma : M R}
end
end F
end

section
set_option Elab.async false
set_option linter.all false
set_option autoImplicit false
set_option maxRecDepth 100000
set_option maxHeartbeats 4000000
/-! F layer: set(xs) of a list, whatever its members: told by what one member more does to the set (Fills). -/
namespace L2
open PySem PySem.Spec PyProof.Rows
/-- a set without members -/
abbrev set0 (w : World) : Obj := { cls := .type "set", dict := none, data := .set #[] 0 (.fresh 0 0 (!w.params.followText "set-order")) }
/-- Pr i: what holds of the set at S when i members were put in -/
structure Fills (P : Program) (w : World) (S : Addr) (n : Nat) (item : Nat → Value → Prop) (Pr : Nat → Heap → Prop) : Prop where
  new : ∀ h, h.get? S = some (set0 w) → Pr 0 h
  same : ∀ i h h', Pr i h → (∀ o, h.get? S = some o → h'.get? S = some o) → Pr i h'
  put : ∀ (A : Around) i v (s : Shared) (Q : Bool → Shared → Prop) (E : Value → Shared → Prop), i < n → item i v → Pr i s.heap →
    (∀ b h' tk, Heap.SameBut S s.heap h' → s.toks ≤ tk → Pr (i + 1) h' → Q b { s with heap := h', toks := tk }) → wpAny (model P w) A (setAdd S v) Q E s
section
variable {P : Program} {w : World} {A : Around} {E : Value → Shared → Prop}
end
end L2
namespace F
open PySem PySem.Spec PyProof.Rows L2
section
variable {X : Cx} {a : Expr} {ta : TE} {f t : Str} {id T : String} {p p2 q pos : Pos} {r : V → Hp → VK → Prop}
end
end F
end

section
set_option Elab.async false
set_option linter.all false
set_option autoImplicit false
set_option maxRecDepth 100000
set_option maxHeartbeats 2000000
/-! F layer: a, b, c = a list. -/
namespace F
open PySem PySem.Spec PyProof.Rows L2
section
variable {X : Cx} {t : Tb} {W : WX} {P : Nat → Bool} {a : Expr} {ma : M R} {pos tpos : Pos}
end
end F
end

section
set_option Elab.async false
set_option linter.all false
set_option autoImplicit false
set_option maxRecDepth 100000
set_option maxHeartbeats 4000000
/-! F layer: generator defs that raise before they hand out anything. -/
namespace F
open PySem PySem.Spec PyProof.Rows L2
/-- a generator that has not begun, and whose first request raises -/
def GMadeR (P : Program) (w : World) (k : Nat) (outer : List PySem.Env) (H : Hp) (s : Shared) (E : XK) (u : Value) (s' : Shared) : Prop :=
  ∃ (a : Addr) (g : Nat) (c : Code), u = .ref a ∧ s.heap.objs.size ≤ a ∧ a < s'.heap.objs.size ∧ s'.heap.IsGen a g ∧ s'.gens[g]? = some (.fresh c) ∧ s'.os = s.os ∧ AllBare s'.gens ∧ s'.heap.NoLimit ∧ (∀ b o, s.heap.get? b = some o → s'.heap.get? b = some o) ∧
    ∀ (A : Around) (s2 : Shared), Room k A → A.frames = some outer → (∀ b o, s'.heap.get? b = some o → s2.heap.get? b = some o) → s2.os = s.os → AllBare s2.gens →
      Seg (model P w) A (fun _ _ r s1 => ∃ e, r = .error e ∧ L2.CX P w outer H s E e s1 ∧ s1.heap.IsGen a g) (fun _ _ _ _ _ => False) 0 s2 c ((model P w).den c) [] s2
abbrev SpR := List V → Hp → XK → Prop
structure GFnR (P : Program) (w : World) (K : PySem.W.Frag) (mg : Str → Option Value) (base : Heap) (k : Nat) (f : Addr) (fd : FuncData) (ps : List Str) (sp : SpR) : Prop where
  len : ∀ vs H E, sp vs H E → vs.length = ps.length
  run : ∀ (A : Around) (outer : List PySem.Env) (s : Shared) (H : Hp) (args : Args) (us : List Value) (vs : List V) (E : XK), Room k A → Env0 P w K mg base A outer s H → BindsTo s fd args (ps.zip us) → Vals vs us → sp vs H E →
    codeAny (model P w) A (.call (.ref f) args) (fun r s' => match r with | .ok (.ret u) => GMadeR P w k outer H s E u s' | _ => False) s
section
variable {P : Program} {w : World} {K : PySem.W.Frag} {mg : Str → Option Value} {base : Heap} {N : List Str} {qual : Str} {scope : Scope} {f : Addr} {cdv : Value} {A : Around} {outer : List PySem.Env} {s s2 : Shared} {H : Hp} {E : XK} {body : List Stmt} {t : L2.TS} {σ : L2.St} {a g : Nat} {o : Obj}
end
end F
end

section
set_option Elab.async false
set_option linter.all false
set_option autoImplicit false
set_option maxRecDepth 100000
set_option maxHeartbeats 2000000
/-! F layer: a generator method whose first statement raises. -/
namespace F
open PySem PySem.Spec PyProof.Rows L2
end F
end

section
set_option Elab.async false
set_option linter.all false
set_option autoImplicit false
set_option maxRecDepth 100000
set_option maxHeartbeats 2000000
/-! F layer: for over a generator method whose first request raises; slices of tuples; rstrip. -/
namespace F
open PySem PySem.Spec PyProof.Rows L2
/-! ### slices of tuples -/
section
variable {X : Cx} {t : Tb} {W : WX} {a : Expr} {ma : M R} {lo hi : Option Expr} {ml mh : Option (M R)} {pos p2 : Pos}
end
/-! ### text.rstrip(signs) -/
/-! ### for over a generator method that raises at once -/
section
variable {X : Cx} {t : Tb} {W : WX} {pr : Nat → Bool} {a o target : Expr} {es : List Expr} {body : List Stmt} {ms : List (M R)} {mo : M R} {pos pos' apos : Pos} {m : Str} {k kk k2 n j : Nat} {m1 : MS}
end
end F
end

section
set_option Elab.async false
set_option linter.all false
set_option autoImplicit false
set_option maxRecDepth 100000
set_option maxHeartbeats 2000000
/-! F layer: tuple + tuple. -/
namespace F
open PySem PySem.Spec PyProof.Rows L2
section
variable {X : Cx} {t : Tb} {W : WX} {a b : Expr} {ma mb : M R} {pos : Pos}
end
end F
end

section
set_option Elab.async false
set_option linter.all false
set_option autoImplicit false
set_option maxRecDepth 100000
set_option maxHeartbeats 4000000
/-! F layer: sorted(set(xs)), xs a list of ints or of texts of one sign. What one text more does to a set (Fills of IQ). -/
namespace L2
open PySem PySem.Spec PyProof.Rows
open Froz (SD sObj TxOk tailTx addTx add_x add_ok)
/-- a set of texts -/
def SetT (P : Program) (w : World) (h : Heap) (a : Addr) (S : Str → Bool) (n : Nat) : Prop :=
  ∃ (D : SD) (l : List Str), h.get? a = some (sObj "set" D) ∧ TxOk P w D l ∧ Ris D.2.2.place.toList ∧ (w.params.followText "set-order" = true ∨ D.2.2.led = true) ∧ l.Nodup ∧ (∀ k, S k = true ↔ k ∈ l) ∧ l.length = n
section
variable {P : Program} {w : World} {h h' : Heap} {a : Addr} {S : Str → Bool} {n : Nat}
theorem SetT.at (R : SetT P w h a S n) (k : ∀ o, h.get? a = some o → h'.get? a = some o) : SetT P w h' a S n := by
  obtain ⟨D, l, ho, r⟩ := R
  exact ⟨D, l, k _ ho, r⟩
theorem SetT.congr {S' : Str → Bool} (R : SetT P w h a S n) (e : ∀ k, S' k = S k) : SetT P w h a S' n := by
  obtain ⟨D, l, ho, f, r, d, nd, m, z⟩ := R
  exact ⟨D, l, ho, f, r, d, nd, fun k => by rw [e k]; exact m k, z⟩
end
section
variable {P : Program} {w : World} {A : Around} {E : Value → Shared → Prop} {s : Shared} {a : Addr} {S : Str → Bool} {n : Nat}
end
end L2
end

section
set_option Elab.async false
set_option linter.all false
set_option autoImplicit false
set_option maxRecDepth 100000
set_option maxHeartbeats 4000000
/-! F layer: sorted(set(xs)), the rules. -/
namespace L2
open PySem PySem.Spec PyProof.Rows
open Froz (SD sObj TxOk)
section
variable {P : Program} {w : World} {A : Around} {E : Value → Shared → Prop} {s : Shared} {a : Addr}
end
section
variable {X : Cx} {pins : List (Addr × Obj)} {σ : St} {H : Hp} {s s' : Shared}
end
end L2
namespace F
open PySem PySem.Spec PyProof.Rows L2
/-! ### ints -/
/-! ### texts of one sign -/
section
variable {X : Cx} {t : Tb} {W : WX} {a : Expr} {ma : M R} {p p2 q pos : Pos}
end
end F
end

section
set_option Elab.async false
set_option linter.all false
set_option autoImplicit false
set_option maxRecDepth 100000
set_option maxHeartbeats 2000000
/-! F layer: several lambdas of one def as data (kind 14: the j-th one), a def called with one of them. -/
namespace F
open PySem PySem.Spec PyProof.Rows L2
abbrev Lm := Arguments × Expr × Scope
section
variable {t : Tb} {q : Str} {cells : List (Str × Addr)} {Ls : List Lm}
end
/-! ### the def that makes them -/
end F
end

section
set_option Elab.async false
set_option linter.all false
set_option autoImplicit false
set_option maxRecDepth 100000
set_option maxHeartbeats 2000000
/-! F layer: a lambda that captures, called in the def that got it; it may raise, and give anything. -/
namespace F
open PySem PySem.Spec PyProof.Rows L2
section
variable {t : Tb} {f : Addr} {Lf : LF} {cl : List (Str × Addr)} {ds : List D} {Hc : Hp}
end
end F
end

section
set_option Elab.async false
set_option linter.all false
set_option autoImplicit false
set_option maxRecDepth 100000
set_option maxHeartbeats 2000000
/-! F layer: isinstance(e, (A, B)), e a caught error. -/
namespace F
open PySem PySem.Spec PyProof.Rows L2
section
variable {X : Cx} {t : Tb} {a : Addr} {oe : Obj} {cls : Value} {d : Option Addr} {pn : List (Addr × Obj)}
end
end F
end

section
set_option Elab.async false
set_option linter.all false
set_option autoImplicit false
set_option maxRecDepth 100000
set_option maxHeartbeats 2000000
/-! F layer: the lambda's promise over the law's own table, the call in the def that got it. -/
namespace F
open PySem PySem.Spec PyProof.Rows L2
section
variable {K : PySem.W.Frag} {t : Tb} {f : Addr} {Lf : LF} {cl : List (Str × Addr)} {Hc : Hp} {Zc : Fn} {ds : List D} {wv : List V} {n : Nat} {vs : List V} {H : Hp} {Q : VK} {E : XK}
end
section
variable {t : Tb} {f : Addr} {Lf : LF} {cl : List (Str × Addr)} {ds : List D} {Hc : Hp}
end
end F
end

section
set_option Elab.async false
set_option linter.all false
set_option autoImplicit false
set_option maxRecDepth 100000
set_option maxHeartbeats 2000000
/-! F layer: the loop of a comprehension's block, for any block's context; and a comprehension whose element is told what holds in the def around it where the block begins. -/
namespace F
open PySem PySem.Spec PyProof.Rows L2
section
variable {B : Cx} {fp : List Addr} {it D : Addr} {tn : Nat → Heap → Prop} {J : It} {ω σ0 : L2.St} {vs : List Nat} {G : Nat → Nat → Hp → Prop}
end
section
variable {X : Cx} {pins : List (Addr × Obj)} {σ : L2.St} {H H' : Hp} {s s' : Shared} {scope : Scope} {cl : List (Str × Addr)} {C : Addr} {fp : List Addr} {ω : L2.St}
end
section
variable {X : Cx} {t : Tb} {W : WX} {own : List (Str × Nat)} {scope : Scope} {elt target iter : Expr} {ifs : List Expr} {pos : Pos} {mi : M (List D)} {tg : Tg} {mc : M Bool} {mv : M R}
end
end F
end

section
set_option Elab.async false
set_option linter.all false
set_option autoImplicit false
set_option maxRecDepth 100000
set_option maxHeartbeats 2000000
/-! F layer: a def called, in a comprehension, with one of the def's lambdas. -/
namespace F
open PySem PySem.Spec PyProof.Rows L2
end F
end

section
set_option Elab.async false
set_option linter.all false
set_option autoImplicit false
set_option maxRecDepth 100000
set_option maxHeartbeats 2000000
/-! F layer: errors made and kept as values. -/
namespace F
open PySem PySem.Spec PyProof.Rows L2
/-- data without things of any kind -/
def plainC (K : PySem.W.Frag) (cls : Nat → Addr) (fld : Nat → List Str) (tabs : List (Addr × Option Str)) : Cn := ⟨K, cls, fld, tabs, fun _ _ _ _ => False, fun _ _ _ _ _ _ h => h, fun _ _ _ _ h => h.elim⟩
/-- kind 15: an error of the class j whose field is p; without a field p is None -/
def exErr (K : PySem.W.Frag) (cls : Nat → Addr) (fld : Nat → List Str) (xf : Nat → Str) (tabs : List (Addr × Option Str)) (k : Nat) (d : D) (v : V) (H : Hp) : Prop :=
  k = 15 ∧ ∃ (j : Nat) (p : D) (a : Addr), d = .tup [.int (j : Nat), p] ∧ v = .ref a ∧
    ((∃ dd vp, H a = some (exo a (cls j) (some dd)) ∧ H dd = some (exd dd [(xf j, vp)]) ∧ Dat (plainC K cls fld tabs) H p vp) ∨ (H a = some (exo a (cls j) none) ∧ p = .non ∧ xf j = Str.empty))
theorem exErr_mono {K : PySem.W.Frag} {cls : Nat → Addr} {fld : Nat → List Str} {xf : Nat → Str} {tabs : List (Addr × Option Str)} (k : Nat) (d : D) (v : V) (H H' : Hp) (s : Same H H') : exErr K cls fld xf tabs k d v H → exErr K cls fld xf tabs k d v H' := by
  rintro ⟨hk, j, p, a, ed, ev, ⟨dd, vp, h1, h2, h3⟩ | ⟨h1, h2, h3⟩⟩
  · exact ⟨hk, j, p, a, ed, ev, .inl ⟨dd, vp, s _ _ h1, s _ _ h2, Dat.mono s _ _ h3⟩⟩
  · exact ⟨hk, j, p, a, ed, ev, .inr ⟨s _ _ h1, h2, h3⟩⟩
theorem exErr_ref {K : PySem.W.Frag} {cls : Nat → Addr} {fld : Nat → List Str} {xf : Nat → Str} {tabs : List (Addr × Option Str)} (k : Nat) (d : D) (v : V) (H : Hp) : exErr K cls fld xf tabs k d v H → ∃ a, v = .ref a :=
  fun ⟨_, _, _, a, _, ev, _⟩ => ⟨a, ev⟩
section
variable {X : Cx} {t : Tb} {W : WX} {pins : List (Addr × Obj)} {σ : St} {H1 : Hp} {s1 : Shared} {Q : VK} {CX : CXT} {b : XB} {C fI : Addr} {k : Nat} {fd : FuncData} {ps : List Str} {sp : Sp}
/-- a class of errors called, the error told -/
theorem run_mkx {us : List Value} {vs : List V} (T : Oex X.K b C) (iC : PySem.W.findIn X.K (.ref C) "__init__" = some (some (.ref fI))) (tI : PySem.W.typeIn X.K (.ref fI) = some (.type "function")) (F1 : FnOk X.prog X.w X.K X.mg X.base CX k fI fd ps sp) (hr : Room (k + 1) X.A)
    (hb : Binds X.K fd ps []) (hx : ∀ (H : Hp) (s : Shared) (e : Value) (s' : Shared), CX X.stack H s (fun _ _ _ => False) e s' → False) (I : Inv X pins σ H1 s1) (rel : Vals vs us) (sz : us.length ≤ 1000)
    (asked : ∀ a, H1 a = none → sp (.ref a :: vs) (upd H1 a (exo a C none)) (fun v H2 => v = .non ∧ Q (.ref a) H2) fun _ _ _ => False) : wpAny (model X.prog X.w) X.A (call (.ref C) us) (EP X pins σ Q) X.xe s1 := by
  obtain ⟨nm, q, N, bs, sn, sub, ab, col, dd, k0, k1, k2, k3, k5, ec⟩ := T.cls
  obtain ⟨hp, gs, dr, tk, os⟩ := s1
  have hn : H1 (hp.objs.size + 1) = none := I.hok.fresh (Nat.le_succ hp.objs.size)
  have new : ((hp.push (PySem.W.kdv_tup us)).push (PySem.HandSPX.excO C hp.objs.size)).get? (hp.objs.size + 1) = some (PySem.HandSPX.excO C hp.objs.size) := by heap_get
  have J : Inv X pins σ (upd H1 (hp.objs.size + 1) (exo (hp.objs.size + 1) C none)) ⟨(hp.push (PySem.W.kdv_tup us)).push (PySem.HandSPX.excO C hp.objs.size), gs, dr, tk, os⟩ :=
    I.laid (t' := tk) (fun c o z => Heap.get?_push_of_some _ (Heap.get?_push_of_some _ z)) (Nat.le_succ hp.objs.size) (exo_ok new)
  have rr : Vals (V.ref (hp.objs.size + 1) :: vs) (Value.ref (hp.objs.size + 1) :: us) := .cons rfl rel
  have go := asked _ hn
  have ln : (Value.ref (hp.objs.size + 1) :: us ++ []).length = ps.length := by
    rw [List.append_nil]
    exact rr.length.symm.trans (F1.len _ _ _ _ go)
  have bd := hb ⟨(hp.push (PySem.W.kdv_tup us)).push (PySem.HandSPX.excO C hp.objs.size), gs, dr, tk, os⟩ (Value.ref (hp.objs.size + 1) :: us) J.kIn ln
  rw [List.append_nil] at bd
  have run := F1.run _ X.stack _ _ ⟨Value.ref (hp.objs.size + 1) :: us, []⟩ (Value.ref (hp.objs.size + 1) :: us) _ _ (fun _ _ _ => False) (hr.make C us []) (J.env0.make C us []) bd rr go
  refine wpAny_call (b.call_ (I.kIn _ _ ec) (PySem.W.looks_findIn I.kIn iC) (fun self => PySem.W.bind_fn I.kIn self tI) (by rw [sizeLine_eq]; omega) (codeAny_mono run fun ans sq out => ?_))
  match ans, out with
  | .error er, out => exact (hx _ _ er sq out).elim
  | .ok (.ret u), out =>
    obtain ⟨v, H2, I3, rv, ev, q3⟩ := J.after out
    subst ev
    exact ⟨rv, ⟨V.ref (hp.objs.size + 1), H2, I3, rfl, q3⟩⟩
  | .ok .next, out => exact out.elim
  | .ok .brk, out => exact out.elim
  | .ok .cont, out => exact out.elim
end
/-- what is known of a class of errors that keeps one value: as XcOk -/
def mMkE (k : Nat) (a : M R) : M R := fun e => andThen (a e) fun r e1 => andThen (leak r e1) fun p e2 => if p.exs (fun _ => false) = true then .ok (.d (.ex 15 (.tup [.int (k : Nat), p]))) e2 else .bad
def mMkE0 (k : Nat) : M R := fun e => .ok (.d (.ex 15 (.tup [.int (k : Nat), .non]))) e
theorem noCX {P : Program} {w : World} {st : List PySem.Env} {H : Hp} {s : Shared} {e : Value} {s' : Shared} : L2.CX P w st H s (fun _ _ _ => False) e s' → False := fun ⟨_, _, _, _, _, _, _, _, _, _, _, _, h⟩ => h
section
variable {X : Cx} {t : Tb} {W : WX} {a : Expr} {ma : M R} {p pos : Pos}
theorem dat_plain {c : Cn} {H : Hp} {d : D} {v : V} (e : d.exs (fun _ => false) = true) (h : Dat c H d v) : Dat (plainC c.K c.cls c.fld c.tabs) H d v :=
  Dat.cv (K := c.K) (cl := c.cls) (fl := c.fld) (tb := c.tabs) (ex := c.ex) (m := c.exM) (r := c.exR) (g := fun _ => false) (fun _ _ _ _ z => by cases z) d v e h
theorem plain_dat {c : Cn} {H : Hp} {d : D} {v : V} (h : Dat (plainC c.K c.cls c.fld c.tabs) H d v) : Dat c H d v :=
  Dat.cv (K := c.K) (cl := c.cls) (fl := c.fld) (tb := c.tabs) (ex' := c.ex) (m' := c.exM) (r' := c.exR) (g := fun _ => true) (fun _ _ _ _ _ z => z.elim) d v (D.exs_all d) h
theorem se_mkE {k j : Nat} {x : Str} (hin : ∀ d v H, exErr X.K t.cls t.fld t.xf t.tabs 15 d v H → t.ex 15 d v H) (G : XcOk X.prog X.w X.K X.mg X.base t k x) (hr : Room (j + 2) X.A) (hg : Gl X x) (ha : SE X t W a ma) (hdb : (x == ("__debug__" : Str)) = false := by decide)
    (he : starEach [a] X.env = (false, eval a X.env) :: starEach [] X.env := by rfl) : SE X t W (.Call (.Name x p) [a] [] pos) (mMkE k ma) := by
  obtain ⟨fI, fd, y, iC, tyI, F1, hb⟩ := G.ini
  obtain ⟨b, GT⟩ := G.T
  refine ⟨fun pins s σ H Q I ⟨e, H0, Fr, as, rp, po⟩ => ?_⟩
  refine wpAny_Call_Name_kw (ld_glob I hg G.gC ?_ hdb)
  have asked : F.tI X t W ma σ H fun v H1 => ∀ c, H1 c = none → spI (t.cls k) (t.xf k) [.ref c, v] (upd H1 c (exo c (t.cls k) none)) (fun u H2 => u = .non ∧ Q (.ref c) H2) fun _ _ _ => False := by
    refine ⟨e, H0, Fr, as, rp, Po.bind (f := fun r e1 => andThen (leak r e1) fun p e2 => if p.exs (fun _ => false) = true then Rs.ok (R.d (.ex 15 (.tup [.int (k : Nat), p]))) e2 else .bad) po fun r e1 v H1 H' s1 rr po => ?_⟩
    obtain ⟨d, e2, H2, as2, ql, s2, rp2, hd, po⟩ := Po.leak po rr
    by_cases z : d.exs (fun _ => false) = true
    case neg =>
      rw [if_neg z] at po
      exact po.elim
    rw [if_pos z] at po
    intro c hn
    refine ⟨c, v, rfl, upd_same, fun dx hdx hne => ⟨rfl, ?_⟩⟩
    rw [upd_ne hne] at hdx
    have eh : upd (upd (upd H' c (exo c (t.cls k) none)) dx (exd dx [(t.xf k, v)])) c (exo c (t.cls k) (some dx)) = upd (upd H' dx (exd dx [(t.xf k, v)])) c (exo c (t.cls k) (some dx)) := by
      funext b
      by_cases y : b = c
      · subst y
        rw [upd_same, upd_same]
      · rw [upd_ne y, upd_ne y]
        by_cases y2 : b = dx
        · subst y2
          rw [upd_same, upd_same]
        · rw [upd_ne y2, upd_ne y2, upd_ne y]
    rw [eh]
    obtain ⟨s3, rp3⟩ := rp2.alloc (x := exd dx [(t.xf k, v)]) hdx
    obtain ⟨s4, rp4⟩ := rp3.alloc (p := c) (x := exo c (t.cls k) (some dx)) (by rw [upd_ne hne.symm]; exact hn)
    refine po _ _ _ (s3.trans s4) ⟨⟨as2, rp4⟩, hin _ _ _ ⟨rfl, k, d, c, rfl, rfl, .inl ⟨dx, v, upd_same, ?_, ?_⟩⟩⟩
    · rw [upd_ne hne]
      exact upd_same
    · exact Dat.mono (s3.trans s4) _ _ (dat_plain z hd)
  refine PySem.W.callWith_K (h₀ := X.base) I.ok.mod.kin GT.kC (thn ((pa_cons ha pa_nil he).run pos pins s σ H (fun vs H1 => ∃ v, vs = [v] ∧ ∀ c, H1 c = none → spI (t.cls k) (t.xf k) [.ref c, v] (upd H1 c (exo c (t.cls k) none)) (fun u H2 => u = .non ∧ Q (.ref c) H2) fun _ _ _ => False) I ?_) fun us s1 got => ?_) he rfl
  · show F.tI X t W ma σ H _
    exact cast (congrArg (F.tI X t W ma σ H) (funext fun v => funext fun H1 => propext ⟨fun q => ⟨v, rfl, q⟩, fun ⟨w, ew, q⟩ => by cases ew; exact q⟩)) asked
  · obtain ⟨vs, H1, I1, r1, v, ev, q⟩ := got
    subst ev
    refine ⟨I1.kIn, run_mkx GT iC tyI F1 (hr.mono (by omega)) hb (fun _ _ _ _ => noCX) I1 r1 (by cases r1 with | cons _ z => cases z; show 1 ≤ 1000; decide) q⟩
/-- a class whose __init__ takes nothing and keeps nothing -/
def spI0 (C : Addr) : Sp := fun vs H Q _ => ∃ a, vs = [.ref a] ∧ H a = some (exo a C none) ∧ Q .non H
structure XcOk0 (P : Program) (w : World) (K : PySem.W.Frag) (mg : Str → Option Value) (base : Heap) (t : Tb) (k : Nat) (x : Str) : Prop where
  T : ∃ b, Oex K b (t.cls k)
  ini : ∃ fI fd, PySem.W.findIn K (.ref (t.cls k)) "__init__" = some (some (.ref fI)) ∧ PySem.W.typeIn K (.ref fI) = some (.type "function") ∧ FnOk P w K mg base (L2.CX P w) 1 fI fd ["self"] (spI0 (t.cls k)) ∧ Binds K fd ["self"] []
  gC : mg x = some (.ref (t.cls k))
  em : t.xf k = Str.empty
theorem se_mkE0 {k j : Nat} {x : Str} (hin : ∀ d v H, exErr X.K t.cls t.fld t.xf t.tabs 15 d v H → t.ex 15 d v H) (G : XcOk0 X.prog X.w X.K X.mg X.base t k x) (hr : Room (j + 2) X.A) (hg : Gl X x) (hdb : (x == ("__debug__" : Str)) = false := by decide) :
    SE X t W (.Call (.Name x p) [] [] pos) (mMkE0 k) := by
  obtain ⟨fI, fd, iC, tI, F1, hb⟩ := G.ini
  obtain ⟨b, GT⟩ := G.T
  refine ⟨fun pins s σ H Q I ⟨e, H0, Fr, as, rp, po⟩ => ?_⟩
  refine wpAny_Call_Name_kw (ld_glob I hg G.gC (PySem.W.callWith_K0 I.kIn GT.kC (run_mkx (us := []) (vs := []) GT iC tI F1 (hr.mono (by omega)) hb (fun _ _ _ _ => noCX) I .nil (by decide) fun c hn => ?_)) hdb)
  obtain ⟨s4, rp4⟩ := rp.alloc (p := c) (x := exo c (t.cls k) none) hn
  exact ⟨c, rfl, upd_same, rfl, po _ _ _ s4 ⟨⟨as, rp4⟩, hin _ _ _ ⟨rfl, k, .non, c, rfl, rfl, .inr ⟨upd_same, rfl, G.em⟩⟩⟩⟩
/-! ### reading a field, asking for the class -/
def onXf (k : Nat) : D → Option D
  | .ex 15 (.tup [.int j, p]) => if j = (k : Nat) then some p else none
  | _ => none
def rXf (K : PySem.W.Frag) (f : Str) : V → Hp → VK → Prop := fun x H Q => ∃ a C dd v, x = .ref a ∧ H a = some (exo a C (some dd)) ∧ H dd = some (exd dd [(f, v)]) ∧ XfC K C ∧ PySem.W.findIn K (.ref C) f = some none ∧ Q v H
theorem pe_xfv {e : Expr} {te : TE} {f : Str} (he : PE X e te) (hb : attributeBase e f X.env (eval e X.env) = eval e X.env) : PE X (.Attribute e f pos) (fun σ H Q => te σ H fun x H1 => rXf X.K f x H1 Q) := by
  refine ⟨fun pins s σ H Q I h => attr_of hb (thn (he.run pins s σ H _ I h) fun u s1 hh => ?_)⟩
  obtain ⟨x, H1, I1, rx, a, C, dd, v, ex, ea, ed, T, no, q⟩ := hh
  subst ex
  obtain rfl : u = Value.ref a := rx
  obtain ⟨t1, ho⟩ := exo_at I1.hok ea
  obtain ⟨mA, hns, rel⟩ := exd_at I1.hok ed
  obtain ⟨od, hod, look⟩ := lookIn_ns hns
  have r1 := rel f
  rw [lookup_put, if_pos rfl] at r1
  obtain ⟨u, hu, ru⟩ := RelO.some_of r1
  have J : PySem.W.InstAt s1.heap a { cls := .ref C, dict := some dd, data := .fields #[.ref t1, .none, .none, .none, .bool false, .none] } C (some od) := ⟨ho, rfl, rfl, hod⟩
  exact HandSPX.exc_get I1.kIn J T.ga T.gg T.exC (PySem.W.findObj_own T.hdC no rfl (by rw [look, hu])) (handed_of ru) ⟨v, H1, I1.tok _, ru, q⟩
theorem v_xf {k : Nat} {f : Str} {c : Cn} {xf : Nat → Str} (hex : ∀ d v H, c.ex 15 d v H → exErr c.K c.cls c.fld xf c.tabs 15 d v H) (T : XfC c.K (c.cls k)) (no : PySem.W.findIn c.K (.ref (c.cls k)) f = some none) (ef : xf k = f) (ne : f ≠ Str.empty) : VOp1 c (rXf c.K f) (onXf k) := by
  intro H0 H v dx dz Q s e hd o
  unfold onXf at e
  split at e
  · rename_i j p
    obtain ⟨_, j2, p2, a, ed, ev, h⟩ := hex _ _ _ hd
    cases ed
    by_cases z : ((j2 : Nat) : Int) = (k : Nat)
    case neg =>
      rw [if_neg z] at e
      cases e
    rw [if_pos z] at e
    cases e
    have ej : j2 = k := by omega
    subst ej
    rcases h with ⟨dd, vp, h1, h2, h3⟩ | ⟨h1, h2, h3⟩
    · rw [ef] at h2
      exact ⟨a, _, dd, vp, ev, s _ _ h1, s _ _ h2, T, no, o.1 vp (plain_dat h3)⟩
    · exact absurd (ef.symm.trans h3) ne
  · cases e
theorem se_xfV {e : Expr} {me : M R} {k : Nat} {f : Str} (hex : ∀ d v H, t.ex 15 d v H → exErr X.K t.cls t.fld t.xf t.tabs 15 d v H) (T : XfC X.K (t.cls k)) (no : PySem.W.findIn X.K (.ref (t.cls k)) f = some none) (ef : t.xf k = f) (ne : f ≠ Str.empty) (he : SE X t W e me)
    (hb : attributeBase e f X.env (eval e X.env) = eval e X.env := by rfl) : SE X t W (.Attribute e f pos) (mOp1 (onXf k) me) :=
  PE.imp (pe_xfv he hb) fun _ _ _ q => tI_op1 (v_xf (c := cn X t) hex T no ef ne) q
/-- isinstance(e, C) -/
def onIsE (is : Nat → Option Bool) : D → Option D
  | .ex 15 (.tup [.int j, _]) => (is j.toNat).map .bl
  | _ => none
def rIsV (K : PySem.W.Frag) (cv : Value) : V → Hp → VK → Prop := fun x H Q => ∃ a C od b, x = .ref a ∧ H a = some (exo a C od) ∧ (∀ dd, od = some dd → ∃ fs, H dd = some (exd dd fs)) ∧ ExcC K C ∧ PySem.W.kitOne K (.ref C) cv = some b ∧ Q (.bl b) H
theorem call_isV {c : V} {cv : Value} (hcv : ∀ u, RelV c u → u = cv) : CallR X (.builtin "isinstance") (fun xs H Q => ∃ x, xs = [x, c] ∧ rIsV X.K cv x H Q) := by
  intro pins s σ H xs us Q I r h
  obtain ⟨x, rfl, a, C, od, b, rfl, ea, hd, E, kb, q⟩ := h
  obtain ⟨u1, us1, rfl, rx, r1⟩ : ∃ u us', us = u :: us' ∧ RelV (.ref a) u ∧ Vals [c] us' := by
    cases r with
    | cons x y => exact ⟨_, _, rfl, x, y⟩
  obtain ⟨u2, rfl, rc⟩ := r1.one
  cases rx
  have ez := hcv _ rc
  subst ez
  obtain ⟨t1, ho⟩ := exo_at I.hok ea
  obtain ⟨om, J⟩ : ∃ om, PySem.W.InstAt s.heap a { cls := .ref C, dict := od, data := .fields #[.ref t1, .none, .none, .none, .bool false, .none] } C om := by
    cases od with
    | none => exact ⟨none, ho, rfl, rfl, trivial⟩
    | some dd =>
      obtain ⟨fs, ed⟩ := hd dd rfl
      obtain ⟨mA, ⟨o, es, ep, h1, _⟩, _⟩ := exd_at I.hok ed
      exact ⟨some o, ho, rfl, rfl, h1⟩
  exact PySem.W.kia_one (kit_exc E) I.kIn J kb (fun z => nomatch z) fun tk => ⟨.bl b, H, I.kept (t' := tk) fun _ _ z => z, rfl, q⟩
theorem se_isV {e : Expr} {me : M R} {is : Nat → Option Bool} {x y : Str} {c : V} {cv : Value} {p0 p2 : Pos} (hex : ∀ d v H, t.ex 15 d v H → exErr X.K t.cls t.fld t.xf t.tabs 15 d v H) (hx : x = "isinstance") (hg : Gl X x) (hm : X.mg x = none) (he : SE X t W e me) (hy : PE X (.Name y p2) (tC c)) (hcv : ∀ u, RelV c u → u = cv)
    (his : ∀ k b, is k = some b → ExcC X.K (t.cls k) ∧ PySem.W.kitOne X.K (.ref (t.cls k)) cv = some b)
    (h1 : starEach [e, .Name y p2] X.env = (false, eval e X.env) :: starEach [.Name y p2] X.env := by rfl) (h2 : starEach [.Name y p2] X.env = (false, eval (.Name y p2) X.env) :: starEach [] X.env := by rfl) (hpl : (backTo pos (starEach [.Name y p2] X.env)).any (·.1) = false := by rfl) :
    SE X t W (.Call (.Name x p0) [e, .Name y p2] [] pos) (mOp1 (onIsE is) me) := by
  subst hx
  have v : VOp1 (cn X t) (rIsV X.K cv) (onIsE is) := by
    intro H0 H v dx dz Q s e hd o
    unfold onIsE at e
    split at e
    · rename_i j p
      obtain ⟨_, j2, p2, a, ed, ev, h⟩ := hex _ _ _ hd
      cases ed
      rw [Int.toNat_natCast] at e
      cases q : is j2 with
      | none => rw [q] at e; cases e
      | some b =>
        rw [q] at e
        cases e
        obtain ⟨C, kb⟩ := his j2 b q
        rcases h with ⟨dd, vp, h1, h2, h3⟩ | ⟨h1, h2, h3⟩
        · exact ⟨a, _, some dd, b, ev, s _ _ h1, fun d2 z => by cases z; exact ⟨_, s _ _ h2⟩, C, kb, o.1 _ rfl⟩
        · exact ⟨a, _, none, b, ev, s _ _ h1, (fun d2 z => by cases z), C, kb, o.1 _ rfl⟩
    · cases e
  refine PE.imp (pe_callB (X := X) (call_isV hcv) hg hm boot_isinstance (pa_cons he (pa_cons hy pa_nil h2) h1) (by decide) (by decide) h1 hpl) fun σ H Q q => ?_
  show tI X t W me σ H _
  exact cast (congrArg (tI X t W me σ H) (funext fun v => funext fun H1 => propext ⟨fun q => ⟨v, rfl, q⟩, fun ⟨w, ew, q⟩ => by cases ew; exact q⟩)) (tI_op1 v q)
end
section
variable {P : Program} {w : World} {K : PySem.W.Frag} {mg : Str → Option Value} {base : Heap} {t : Tb}
theorem xc_mk0 (b : XB) {nb : Str} {k : Nat} {x qual msg : Str} {params : Arguments} {scope : Scope} {fI : Addr} {fd : FuncData} {body : List Stmt} {j : Nat} {p1 p2 p3 p4 p5 p6 : Pos} (hnb : nb = Str.ofString b.n) (F : FunD K "__init__" qual params body scope [] [] fI fd) (S : FnScope ["self"] ["self"] scope)
    (ho : oexB K b (t.cls k) = true) (em : t.xf k = Str.empty) (hm : mg nb = none) (me : Meth K (t.cls k) "__init__" fI) (gC : mg x = some (.ref (t.cls k))) (hbd : Binds K fd ["self"] [])
    (hb : body = [.Expr (.Call (.Attribute (.Name nb p1) "__init__" p2) [.Name "self" p3, .Constant (.str msg) j p4] [] p5) p6]) (hg : scope.names.lookup nb = some NameKind.globalImplicit) (v0 : Vis scope "self") (hl : (p2.endLine == p5.line) = true) : XcOk0 P w K mg base t k x := by
  refine ⟨⟨b, oex_of ho⟩, ⟨fI, fd, me.at_, eq_of_beq me.fn, ?_, hbd⟩, gC, em⟩
  subst hb
  refine FunD.ok (k := 0) F S (fun vs H Q E ⟨a, e, _⟩ => by rw [e]; rfl) fun cdv A outer s H vs Q E hr ⟨a, ev, ha, hq⟩ => ?_
  subst ev
  let X := cxOf (L2.CX P w) P w K mg base ["self"] qual scope fI cdv A outer s H E
  have hc : eval (.Call (.Attribute (.Name nb p1) "__init__" p2) [.Name "self" p3, .Constant (.str msg) j p4] [] p5) X.env = (eval (.Name nb p1) X.env >>= fun ov => standAt p2.atName >>= fun _ => holding [ov] (getMethod ov "__init__" (plainOf (.Name nb p1) X.env)) >>= fun fx =>
      callWith p5 fx.1 fx.2 (backTo p5 (starEach [.Name "self" p3, .Constant (.str msg) j p4] X.env)) (backToKw p5 (keywordEach [] X.env))) := by
    have l := fun ov => mcall_line (o := .Name nb p1) (m := "__init__") (apos := p2) (pos := p5) (env := X.env) (ov := ov) (n := 2) (args := backTo p5 (starEach [.Name "self" p3, .Constant (.str msg) j p4] X.env)) (kws := backToKw p5 (keywordEach [] X.env)) rfl hl
    simp only [← l]
    rfl
  exact ⟨_, pss_one (ps_expr (pe_baseinit (X := X) (pl := plainOf (.Name nb p1) X.env) hnb hg hm (pa_cons (pe_var (i := 0) rfl v0) (pa_cons pe_str pa_nil)) hc)), .ref a, rfl, a, t.cls k, [.str msg], rfl, (show 1 ≤ 1000 by decide), oex_of ho, ha, hq⟩
end
/-! ### lambdas and errors as values -/
section
variable {u : Nat → D → V → Hp → Prop} {K : PySem.W.Frag} {cls : Nat → Addr} {fld : Nat → List Str} {xf : Nat → Str} {tabs : List (Addr × Option Str)}
def exLE (u : Nat → D → V → Hp → Prop) (K : PySem.W.Frag) (cls : Nat → Addr) (fld : Nat → List Str) (xf : Nat → Str) (tabs : List (Addr × Option Str)) : Nat → D → V → Hp → Prop := fun k d v H => (k ≠ 15 ∧ u k d v H) ∨ exErr K cls fld xf tabs k d v H
theorem exLE_mono (m : ∀ (k : Nat) (d : D) (v : V) (H H' : Hp), Same H H' → u k d v H → u k d v H') (k : Nat) (d : D) (v : V) (H H' : Hp) (s : Same H H') (h : exLE u K cls fld xf tabs k d v H) : exLE u K cls fld xf tabs k d v H' := by
  rcases h with ⟨h1, h2⟩ | h
  · exact .inl ⟨h1, m k d v H H' s h2⟩
  · exact .inr (exErr_mono k d v H H' s h)
theorem exLE_ref (r : ∀ (k : Nat) (d : D) (v : V) (H : Hp), u k d v H → ∃ a, v = .ref a) (k : Nat) (d : D) (v : V) (H : Hp) (h : exLE u K cls fld xf tabs k d v H) : ∃ a, v = .ref a := by
  rcases h with ⟨h1, h2⟩ | h
  · exact r k d v H h2
  · exact exErr_ref k d v H h
theorem exLE_in {d : D} {v : V} {H : Hp} (h : exErr K cls fld xf tabs 15 d v H) : exLE u K cls fld xf tabs 15 d v H := .inr h
theorem exLE_out {d : D} {v : V} {H : Hp} (h : exLE u K cls fld xf tabs 15 d v H) : exErr K cls fld xf tabs 15 d v H := by
  rcases h with ⟨h1, _⟩ | h
  · exact absurd rfl h1
  · exact h
end
section
variable {u : Nat → D → V → Hp → Prop} {K : PySem.W.Frag} {cls : Nat → Addr} {fld : Nat → List Str} {xf : Nat → Str} {tabs : List (Addr × Option Str)}
theorem exLE_of {k : Nat} {d : D} {v : V} {H : Hp} (n : k ≠ 15) (h : u k d v H) : exLE u K cls fld xf tabs k d v H := .inl ⟨n, h⟩
theorem exLE_un {k : Nat} {d : D} {v : V} {H : Hp} (n : k ≠ 15) (h : exLE u K cls fld xf tabs k d v H) : u k d v H := by
  rcases h with ⟨_, h⟩ | ⟨h, _⟩
  · exact h
  · exact absurd h n
end
theorem all_at {α : Type} {p : α → Bool} {l : List α} {k : Nat} {a : α} (h : l.all p = true) (e : l[k]? = some a) : p a = true := List.all_eq_true.mp h a (List.mem_of_getElem? e)
theorem kitT_ok {K : PySem.W.Frag} {l : List Addr} {cls : Nat → Addr} {cv : Value} {bs : List Bool} (hl : ∀ (k : Nat) (a : Addr), l[k]? = some a → cls k = a) (ha : l.all (excB K) = true) (hk : kitT K l cv bs = true) (k : Nat) (b : Bool) (e : bs[k]? = some b) : ExcC K (cls k) ∧ PySem.W.kitOne K (.ref (cls k)) cv = some b := by
  have h : (l.map (fun a => PySem.W.kitOne K (.ref a) cv))[k]? = some (some b) := by
    rw [of_decide_eq_true hk, List.getElem?_map, e]
    rfl
  rw [List.getElem?_map] at h
  cases q : l[k]? with
  | none => rw [q] at h; cases h
  | some a =>
    rw [q] at h
    rw [hl k a q]
    exact ⟨(exc_of (all_at ha q)).2, Option.some.inj h⟩
end F
end

section
set_option Elab.async false
set_option linter.all false
set_option autoImplicit false
set_option maxRecDepth 100000
set_option maxHeartbeats 2000000
/-! F layer: // by great divisors. -/
namespace F
open PySem PySem.Spec PyProof.Rows L2
def divWD : D → D → Option D
  | .int i, .int j => if 0 < j ∧ j < 1606938044258990275541962092341162602522202993782792835301376 then some (.int (i / j)) else none
  | _, _ => none
theorem v_divW {c : Cn} : VOp2 c (rI CDivW fun i j => .int (i / j)) divWD := by
  intro H0 H x y dx dy dz Q s e hx hy o
  match dx, dy, e with
  | .int i, .int j, e =>
    have e : (if 0 < j ∧ j < 1606938044258990275541962092341162602522202993782792835301376 then some (D.int (i / j)) else none) = some dz := e
    by_cases z : 0 < j ∧ j < 1606938044258990275541962092341162602522202993782792835301376
    · rw [if_pos z] at e
      cases e
      cases hx
      cases hy
      exact ⟨i, j, rfl, rfl, wide_div (b := 200) z.1 (by have := z.2; have p : (2 : Nat) ^ 200 = 1606938044258990275541962092341162602522202993782792835301376 := by decide +kernel
                                                         rw [p]; omega) (by decide) (by decide), o.int⟩
    · rw [if_neg z] at e
      cases e
theorem divW_ok (i j : Int) (h : 0 < j) (h2 : j < 1606938044258990275541962092341162602522202993782792835301376) : divWD (.int i) (.int j) = some (.int (i / j)) := if_pos ⟨h, h2⟩
end F
end

section
set_option Elab.async false
set_option linter.all false
set_option autoImplicit false
set_option maxRecDepth 100000
set_option maxHeartbeats 0

namespace F
open PySem PySem.Spec PyProof.Rows L2
theorem tf_of : ∀ q ∈ tfq, ((q.1, none) : He.Defn) ∈ tf := by decide
def Fx (w : World) (K : PySem.W.Frag) (mg : Str → Option Value) : Prop := ∃ h : Heap, K.In h ∧ h.Ns mainGlobals mg ∧ He.SaysX fa fn ts tf exB w h K
def lE_0 : Expr := (aElt (aElt (aValue (aS (defBody (top 27)) 0)) 0) 1)
def lE_1 : Expr := (aElt (aArg (aValue (aS (defBody (top 27)) 1)) 0) 1)
def lE_2 : Expr := (aElt (aArg (aValue (aS (defBody (top 27)) 2)) 0) 1)
def lE_3 : Expr := (aElt (aArg (aValue (aS (defBody (top 27)) 3)) 0) 1)
def lE_4 : Expr := (aElt (aArg (aValue (aS (defBody (top 27)) 4)) 0) 1)
def lE_5 : Expr := (aElt (aArg (aValue (aS (defBody (top 27)) 5)) 0) 1)
def lE_6 : Expr := (aElt (aArg (aValue (aS (defBody (top 27)) 6)) 0) 1)
def lE_7 : Expr := (aElt (aArg (aValue (aS (defBody (top 27)) 7)) 0) 1)
def lE_8 : Expr := (aElt (aArg (aValue (aS (defBody (top 27)) 8)) 0) 1)
def lE_9 : Expr := (aElt (aArg (aValue (aS (defBody (top 27)) 9)) 0) 1)
def lE_10 : Expr := (aElt (aArg (aValue (aS (defBody (top 27)) 10)) 0) 1)
def lE_11 : Expr := (aElt (aArg (aValue (aS (defBody (top 27)) 11)) 0) 1)
def lE_12 : Expr := (aElt (aArg (aValue (aS (defBody (top 27)) 12)) 0) 1)
def lE_13 : Expr := (aElt (aArg (aValue (aS (defBody (top 27)) 13)) 0) 1)
def lE_14 : Expr := (aElt (aArg (aValue (aS (defBody (top 27)) 14)) 0) 1)
def lE_15 : Expr := (aElt (aArg (aValue (aS (defBody (top 27)) 15)) 0) 1)
def lE_16 : Expr := (aElt (aArg (aValue (aS (defBody (top 27)) 16)) 0) 1)
def mkL (n : Nat) (c : Addr) : LF := match n with | 0 => lamAt ((("_law_made" : Str) ++ ".<locals>.") ++ "<lambda>") lE_0 c | 1 => lamAt ((("_law_made" : Str) ++ ".<locals>.") ++ "<lambda>") lE_1 c | 2 => lamAt ((("_law_made" : Str) ++ ".<locals>.") ++ "<lambda>") lE_2 c | 3 => lamAt ((("_law_made" : Str) ++ ".<locals>.") ++ "<lambda>") lE_3 c | 4 => lamAt ((("_law_made" : Str) ++ ".<locals>.") ++ "<lambda>") lE_4 c | 5 => lamAt ((("_law_made" : Str) ++ ".<locals>.") ++ "<lambda>") lE_5 c | 6 => lamAt ((("_law_made" : Str) ++ ".<locals>.") ++ "<lambda>") lE_6 c | 7 => lamAt ((("_law_made" : Str) ++ ".<locals>.") ++ "<lambda>") lE_7 c | 8 => lamAt ((("_law_made" : Str) ++ ".<locals>.") ++ "<lambda>") lE_8 c | 9 => lamAt ((("_law_made" : Str) ++ ".<locals>.") ++ "<lambda>") lE_9 c | 10 => lamAt ((("_law_made" : Str) ++ ".<locals>.") ++ "<lambda>") lE_10 c | 11 => lamAt ((("_law_made" : Str) ++ ".<locals>.") ++ "<lambda>") lE_11 c | 12 => lamAt ((("_law_made" : Str) ++ ".<locals>.") ++ "<lambda>") lE_12 c | 13 => lamAt ((("_law_made" : Str) ++ ".<locals>.") ++ "<lambda>") lE_13 c | 14 => lamAt ((("_law_made" : Str) ++ ".<locals>.") ++ "<lambda>") lE_14 c | 15 => lamAt ((("_law_made" : Str) ++ ".<locals>.") ++ "<lambda>") lE_15 c | 16 => lamAt ((("_law_made" : Str) ++ ".<locals>.") ++ "<lambda>") lE_16 c | _ => lamAt Str.empty noE c
def clsA (K : PySem.W.Frag) : Nat → Addr := fun k => match k with | 0 => He.ga K "BadText" | 1 => He.ga K "BadTemplate" | 2 => He.ga K "BadFill" | 3 => He.ga K "BadMend" | 4 => He.ga K "BadWord" | 5 => He.ga K "BadWidth" | 6 => He.ga K "BadRow" | 7 => He.ga K "NoLine" | 8 => He.ga K "NoRange" | 9 => He.ga K "NoPlace" | 10 => He.ga K "NoContent" | 11 => He.ga K "NoHole" | 12 => He.ga K "NoName" | 13 => He.ga K "TooLong" | 14 => He.ga K "TooDeep" | 15 => He.ga K "TooWide" | 16 => He.ga K "TooMany" | 17 => He.ga K "NothingDone" | 18 => He.ga K "Stale" | 19 => He.ga K "Lost" | 20 => He.ga K "Unlike" | _ => 0
def xfA : Nat → Str := fun k => match k with | 0 => "index" | 1 => "index" | 2 => "name" | 3 => "mend" | 4 => "word" | 5 => "value" | 6 => "column" | 7 => "line" | 8 => "span" | 9 => "place" | 10 => "number" | 11 => "name" | 12 => "name" | 13 => "many" | 14 => "index" | 15 => "content" | 16 => "many" | _ => Str.empty
def tb (K : PySem.W.Frag) : Tb := ⟨clsA K, fun _ => [], xfA, tbs K, exLE (exL mkL) K (clsA K) (fun _ => []) xfA (tbs K), exLE_mono (exL_mono mkL), exLE_ref (exL_ref mkL)⟩
theorem tbs_mem (K : PySem.W.Frag) {p : Str × Option Str} (h : p ∈ tfq) : ((He.cT K (p.1, none)).2, p.2) ∈ (tb K).tabs := List.mem_map.mpr ⟨p, h, rfl⟩
theorem no9 {K : PySem.W.Frag} : ∀ d v H, ¬ (tb K).ex 9 d v H := fun _ _ _ h => absurd (exLE_un (by decide) h).1 (by decide)
def Bx (K : PySem.W.Frag) (mg : Str → Option Value) (base : Heap) : Prop := ∀ p ∈ tf, LamX.TabB base mg (He.cT K p).1 (He.cT K p).2
section
variable {P : Program} {w : World} {K : PySem.W.Frag} {mg : Str → Option Value} {base : Heap}
theorem g__law_bag (F : Fx w K mg) : mg "_law_bag" = some (.ref (He.ga K "_law_bag")) := by
  obtain ⟨h, X, G, c⟩ := F
  exact He.glo_ok X G (c.t.d.fact 0 (f := .glo "_law_bag") rfl)
theorem g__law_take (F : Fx w K mg) : mg "_law_take" = some (.ref (He.ga K "_law_take")) := by
  obtain ⟨h, X, G, c⟩ := F
  exact He.glo_ok X G (c.t.d.fact 1 (f := .glo "_law_take") rfl)
theorem g__law_of (F : Fx w K mg) : mg "_law_of" = some (.ref (He.ga K "_law_of")) := by
  obtain ⟨h, X, G, c⟩ := F
  exact He.glo_ok X G (c.t.d.fact 2 (f := .glo "_law_of") rfl)
theorem g__law_made (F : Fx w K mg) : mg "_law_made" = some (.ref (He.ga K "_law_made")) := by
  obtain ⟨h, X, G, c⟩ := F
  exact He.glo_ok X G (c.t.d.fact 3 (f := .glo "_law_made") rfl)
theorem g__law_values (F : Fx w K mg) : mg "_law_values" = some (.ref (He.ga K "_law_values")) := by
  obtain ⟨h, X, G, c⟩ := F
  exact He.glo_ok X G (c.t.d.fact 4 (f := .glo "_law_values") rfl)
theorem g__law_under (F : Fx w K mg) : mg "_law_under" = some (.ref (He.ga K "_law_under")) := by
  obtain ⟨h, X, G, c⟩ := F
  exact He.glo_ok X G (c.t.d.fact 5 (f := .glo "_law_under") rfl)
theorem g__law_due (F : Fx w K mg) : mg "_law_due" = some (.ref (He.ga K "_law_due")) := by
  obtain ⟨h, X, G, c⟩ := F
  exact He.glo_ok X G (c.t.d.fact 6 (f := .glo "_law_due") rfl)
theorem g__law_own (F : Fx w K mg) : mg "_law_own" = some (.ref (He.ga K "_law_own")) := by
  obtain ⟨h, X, G, c⟩ := F
  exact He.glo_ok X G (c.t.d.fact 7 (f := .glo "_law_own") rfl)
theorem g_law (F : Fx w K mg) : mg "law" = some (.ref (He.ga K "law")) := by
  obtain ⟨h, X, G, c⟩ := F
  exact He.glo_ok X G (c.t.d.fact 8 (f := .glo "law") rfl)
theorem g_BadText (F : Fx w K mg) : mg "BadText" = some (.ref (He.ga K "BadText")) := by
  obtain ⟨h, X, G, c⟩ := F
  exact He.glo_ok X G (c.t.d.fact 9 (f := .glo "BadText") rfl)
theorem g_BadTemplate (F : Fx w K mg) : mg "BadTemplate" = some (.ref (He.ga K "BadTemplate")) := by
  obtain ⟨h, X, G, c⟩ := F
  exact He.glo_ok X G (c.t.d.fact 10 (f := .glo "BadTemplate") rfl)
theorem g_BadFill (F : Fx w K mg) : mg "BadFill" = some (.ref (He.ga K "BadFill")) := by
  obtain ⟨h, X, G, c⟩ := F
  exact He.glo_ok X G (c.t.d.fact 11 (f := .glo "BadFill") rfl)
theorem g_BadMend (F : Fx w K mg) : mg "BadMend" = some (.ref (He.ga K "BadMend")) := by
  obtain ⟨h, X, G, c⟩ := F
  exact He.glo_ok X G (c.t.d.fact 12 (f := .glo "BadMend") rfl)
theorem g_BadWord (F : Fx w K mg) : mg "BadWord" = some (.ref (He.ga K "BadWord")) := by
  obtain ⟨h, X, G, c⟩ := F
  exact He.glo_ok X G (c.t.d.fact 13 (f := .glo "BadWord") rfl)
theorem g_BadWidth (F : Fx w K mg) : mg "BadWidth" = some (.ref (He.ga K "BadWidth")) := by
  obtain ⟨h, X, G, c⟩ := F
  exact He.glo_ok X G (c.t.d.fact 14 (f := .glo "BadWidth") rfl)
theorem g_BadRow (F : Fx w K mg) : mg "BadRow" = some (.ref (He.ga K "BadRow")) := by
  obtain ⟨h, X, G, c⟩ := F
  exact He.glo_ok X G (c.t.d.fact 15 (f := .glo "BadRow") rfl)
theorem g_NoLine (F : Fx w K mg) : mg "NoLine" = some (.ref (He.ga K "NoLine")) := by
  obtain ⟨h, X, G, c⟩ := F
  exact He.glo_ok X G (c.t.d.fact 16 (f := .glo "NoLine") rfl)
theorem g_NoRange (F : Fx w K mg) : mg "NoRange" = some (.ref (He.ga K "NoRange")) := by
  obtain ⟨h, X, G, c⟩ := F
  exact He.glo_ok X G (c.t.d.fact 17 (f := .glo "NoRange") rfl)
theorem g_NoPlace (F : Fx w K mg) : mg "NoPlace" = some (.ref (He.ga K "NoPlace")) := by
  obtain ⟨h, X, G, c⟩ := F
  exact He.glo_ok X G (c.t.d.fact 18 (f := .glo "NoPlace") rfl)
theorem g_NoContent (F : Fx w K mg) : mg "NoContent" = some (.ref (He.ga K "NoContent")) := by
  obtain ⟨h, X, G, c⟩ := F
  exact He.glo_ok X G (c.t.d.fact 19 (f := .glo "NoContent") rfl)
theorem g_NoHole (F : Fx w K mg) : mg "NoHole" = some (.ref (He.ga K "NoHole")) := by
  obtain ⟨h, X, G, c⟩ := F
  exact He.glo_ok X G (c.t.d.fact 20 (f := .glo "NoHole") rfl)
theorem g_NoName (F : Fx w K mg) : mg "NoName" = some (.ref (He.ga K "NoName")) := by
  obtain ⟨h, X, G, c⟩ := F
  exact He.glo_ok X G (c.t.d.fact 21 (f := .glo "NoName") rfl)
theorem g_TooLong (F : Fx w K mg) : mg "TooLong" = some (.ref (He.ga K "TooLong")) := by
  obtain ⟨h, X, G, c⟩ := F
  exact He.glo_ok X G (c.t.d.fact 22 (f := .glo "TooLong") rfl)
theorem g_TooDeep (F : Fx w K mg) : mg "TooDeep" = some (.ref (He.ga K "TooDeep")) := by
  obtain ⟨h, X, G, c⟩ := F
  exact He.glo_ok X G (c.t.d.fact 23 (f := .glo "TooDeep") rfl)
theorem g_TooWide (F : Fx w K mg) : mg "TooWide" = some (.ref (He.ga K "TooWide")) := by
  obtain ⟨h, X, G, c⟩ := F
  exact He.glo_ok X G (c.t.d.fact 24 (f := .glo "TooWide") rfl)
theorem g_TooMany (F : Fx w K mg) : mg "TooMany" = some (.ref (He.ga K "TooMany")) := by
  obtain ⟨h, X, G, c⟩ := F
  exact He.glo_ok X G (c.t.d.fact 25 (f := .glo "TooMany") rfl)
theorem g_NothingDone (F : Fx w K mg) : mg "NothingDone" = some (.ref (He.ga K "NothingDone")) := by
  obtain ⟨h, X, G, c⟩ := F
  exact He.glo_ok X G (c.t.d.fact 26 (f := .glo "NothingDone") rfl)
theorem g_Stale (F : Fx w K mg) : mg "Stale" = some (.ref (He.ga K "Stale")) := by
  obtain ⟨h, X, G, c⟩ := F
  exact He.glo_ok X G (c.t.d.fact 27 (f := .glo "Stale") rfl)
theorem g_Lost (F : Fx w K mg) : mg "Lost" = some (.ref (He.ga K "Lost")) := by
  obtain ⟨h, X, G, c⟩ := F
  exact He.glo_ok X G (c.t.d.fact 28 (f := .glo "Lost") rfl)
theorem g_Unlike (F : Fx w K mg) : mg "Unlike" = some (.ref (He.ga K "Unlike")) := by
  obtain ⟨h, X, G, c⟩ := F
  exact He.glo_ok X G (c.t.d.fact 29 (f := .glo "Unlike") rfl)
theorem na_BadText (F : Fx w K mg) : PySem.W.findIn K (.ref (He.ga K "BadText")) "index" = some none := by
  obtain ⟨h, X, G, c⟩ := F
  exact He.noat_ok (c.t.d.fact 30 (f := .noat "BadText" "index") rfl)
theorem na_BadTemplate (F : Fx w K mg) : PySem.W.findIn K (.ref (He.ga K "BadTemplate")) "index" = some none := by
  obtain ⟨h, X, G, c⟩ := F
  exact He.noat_ok (c.t.d.fact 31 (f := .noat "BadTemplate" "index") rfl)
theorem na_BadFill (F : Fx w K mg) : PySem.W.findIn K (.ref (He.ga K "BadFill")) "name" = some none := by
  obtain ⟨h, X, G, c⟩ := F
  exact He.noat_ok (c.t.d.fact 32 (f := .noat "BadFill" "name") rfl)
theorem na_BadMend (F : Fx w K mg) : PySem.W.findIn K (.ref (He.ga K "BadMend")) "mend" = some none := by
  obtain ⟨h, X, G, c⟩ := F
  exact He.noat_ok (c.t.d.fact 33 (f := .noat "BadMend" "mend") rfl)
theorem na_BadWord (F : Fx w K mg) : PySem.W.findIn K (.ref (He.ga K "BadWord")) "word" = some none := by
  obtain ⟨h, X, G, c⟩ := F
  exact He.noat_ok (c.t.d.fact 34 (f := .noat "BadWord" "word") rfl)
theorem na_BadWidth (F : Fx w K mg) : PySem.W.findIn K (.ref (He.ga K "BadWidth")) "value" = some none := by
  obtain ⟨h, X, G, c⟩ := F
  exact He.noat_ok (c.t.d.fact 35 (f := .noat "BadWidth" "value") rfl)
theorem na_BadRow (F : Fx w K mg) : PySem.W.findIn K (.ref (He.ga K "BadRow")) "column" = some none := by
  obtain ⟨h, X, G, c⟩ := F
  exact He.noat_ok (c.t.d.fact 36 (f := .noat "BadRow" "column") rfl)
theorem na_NoLine (F : Fx w K mg) : PySem.W.findIn K (.ref (He.ga K "NoLine")) "line" = some none := by
  obtain ⟨h, X, G, c⟩ := F
  exact He.noat_ok (c.t.d.fact 37 (f := .noat "NoLine" "line") rfl)
theorem na_NoRange (F : Fx w K mg) : PySem.W.findIn K (.ref (He.ga K "NoRange")) "span" = some none := by
  obtain ⟨h, X, G, c⟩ := F
  exact He.noat_ok (c.t.d.fact 38 (f := .noat "NoRange" "span") rfl)
theorem na_NoPlace (F : Fx w K mg) : PySem.W.findIn K (.ref (He.ga K "NoPlace")) "place" = some none := by
  obtain ⟨h, X, G, c⟩ := F
  exact He.noat_ok (c.t.d.fact 39 (f := .noat "NoPlace" "place") rfl)
theorem na_NoContent (F : Fx w K mg) : PySem.W.findIn K (.ref (He.ga K "NoContent")) "number" = some none := by
  obtain ⟨h, X, G, c⟩ := F
  exact He.noat_ok (c.t.d.fact 40 (f := .noat "NoContent" "number") rfl)
theorem na_NoHole (F : Fx w K mg) : PySem.W.findIn K (.ref (He.ga K "NoHole")) "name" = some none := by
  obtain ⟨h, X, G, c⟩ := F
  exact He.noat_ok (c.t.d.fact 41 (f := .noat "NoHole" "name") rfl)
theorem na_NoName (F : Fx w K mg) : PySem.W.findIn K (.ref (He.ga K "NoName")) "name" = some none := by
  obtain ⟨h, X, G, c⟩ := F
  exact He.noat_ok (c.t.d.fact 42 (f := .noat "NoName" "name") rfl)
theorem na_TooLong (F : Fx w K mg) : PySem.W.findIn K (.ref (He.ga K "TooLong")) "many" = some none := by
  obtain ⟨h, X, G, c⟩ := F
  exact He.noat_ok (c.t.d.fact 43 (f := .noat "TooLong" "many") rfl)
theorem na_TooDeep (F : Fx w K mg) : PySem.W.findIn K (.ref (He.ga K "TooDeep")) "index" = some none := by
  obtain ⟨h, X, G, c⟩ := F
  exact He.noat_ok (c.t.d.fact 44 (f := .noat "TooDeep" "index") rfl)
theorem na_TooWide (F : Fx w K mg) : PySem.W.findIn K (.ref (He.ga K "TooWide")) "content" = some none := by
  obtain ⟨h, X, G, c⟩ := F
  exact He.noat_ok (c.t.d.fact 45 (f := .noat "TooWide" "content") rfl)
theorem na_TooMany (F : Fx w K mg) : PySem.W.findIn K (.ref (He.ga K "TooMany")) "many" = some none := by
  obtain ⟨h, X, G, c⟩ := F
  exact He.noat_ok (c.t.d.fact 46 (f := .noat "TooMany" "many") rfl)
theorem me_BadText (F : Fx w K mg) : Meth K (He.ga K "BadText") "__init__" (He.ma K (He.ga K "BadText") "__init__") := by
  obtain ⟨h, X, G, c⟩ := F
  exact He.meth_ok (c.t.d.fact 47 (f := .meth "BadText" "__init__") rfl)
theorem me_BadTemplate (F : Fx w K mg) : Meth K (He.ga K "BadTemplate") "__init__" (He.ma K (He.ga K "BadTemplate") "__init__") := by
  obtain ⟨h, X, G, c⟩ := F
  exact He.meth_ok (c.t.d.fact 48 (f := .meth "BadTemplate" "__init__") rfl)
theorem me_BadFill (F : Fx w K mg) : Meth K (He.ga K "BadFill") "__init__" (He.ma K (He.ga K "BadFill") "__init__") := by
  obtain ⟨h, X, G, c⟩ := F
  exact He.meth_ok (c.t.d.fact 49 (f := .meth "BadFill" "__init__") rfl)
theorem me_BadMend (F : Fx w K mg) : Meth K (He.ga K "BadMend") "__init__" (He.ma K (He.ga K "BadMend") "__init__") := by
  obtain ⟨h, X, G, c⟩ := F
  exact He.meth_ok (c.t.d.fact 50 (f := .meth "BadMend" "__init__") rfl)
theorem me_BadWord (F : Fx w K mg) : Meth K (He.ga K "BadWord") "__init__" (He.ma K (He.ga K "BadWord") "__init__") := by
  obtain ⟨h, X, G, c⟩ := F
  exact He.meth_ok (c.t.d.fact 51 (f := .meth "BadWord" "__init__") rfl)
theorem me_BadWidth (F : Fx w K mg) : Meth K (He.ga K "BadWidth") "__init__" (He.ma K (He.ga K "BadWidth") "__init__") := by
  obtain ⟨h, X, G, c⟩ := F
  exact He.meth_ok (c.t.d.fact 52 (f := .meth "BadWidth" "__init__") rfl)
theorem me_BadRow (F : Fx w K mg) : Meth K (He.ga K "BadRow") "__init__" (He.ma K (He.ga K "BadRow") "__init__") := by
  obtain ⟨h, X, G, c⟩ := F
  exact He.meth_ok (c.t.d.fact 53 (f := .meth "BadRow" "__init__") rfl)
theorem me_NoLine (F : Fx w K mg) : Meth K (He.ga K "NoLine") "__init__" (He.ma K (He.ga K "NoLine") "__init__") := by
  obtain ⟨h, X, G, c⟩ := F
  exact He.meth_ok (c.t.d.fact 54 (f := .meth "NoLine" "__init__") rfl)
theorem me_NoRange (F : Fx w K mg) : Meth K (He.ga K "NoRange") "__init__" (He.ma K (He.ga K "NoRange") "__init__") := by
  obtain ⟨h, X, G, c⟩ := F
  exact He.meth_ok (c.t.d.fact 55 (f := .meth "NoRange" "__init__") rfl)
theorem me_NoPlace (F : Fx w K mg) : Meth K (He.ga K "NoPlace") "__init__" (He.ma K (He.ga K "NoPlace") "__init__") := by
  obtain ⟨h, X, G, c⟩ := F
  exact He.meth_ok (c.t.d.fact 56 (f := .meth "NoPlace" "__init__") rfl)
theorem me_NoContent (F : Fx w K mg) : Meth K (He.ga K "NoContent") "__init__" (He.ma K (He.ga K "NoContent") "__init__") := by
  obtain ⟨h, X, G, c⟩ := F
  exact He.meth_ok (c.t.d.fact 57 (f := .meth "NoContent" "__init__") rfl)
theorem me_NoHole (F : Fx w K mg) : Meth K (He.ga K "NoHole") "__init__" (He.ma K (He.ga K "NoHole") "__init__") := by
  obtain ⟨h, X, G, c⟩ := F
  exact He.meth_ok (c.t.d.fact 58 (f := .meth "NoHole" "__init__") rfl)
theorem me_NoName (F : Fx w K mg) : Meth K (He.ga K "NoName") "__init__" (He.ma K (He.ga K "NoName") "__init__") := by
  obtain ⟨h, X, G, c⟩ := F
  exact He.meth_ok (c.t.d.fact 59 (f := .meth "NoName" "__init__") rfl)
theorem me_TooLong (F : Fx w K mg) : Meth K (He.ga K "TooLong") "__init__" (He.ma K (He.ga K "TooLong") "__init__") := by
  obtain ⟨h, X, G, c⟩ := F
  exact He.meth_ok (c.t.d.fact 60 (f := .meth "TooLong" "__init__") rfl)
theorem me_TooDeep (F : Fx w K mg) : Meth K (He.ga K "TooDeep") "__init__" (He.ma K (He.ga K "TooDeep") "__init__") := by
  obtain ⟨h, X, G, c⟩ := F
  exact He.meth_ok (c.t.d.fact 61 (f := .meth "TooDeep" "__init__") rfl)
theorem me_TooWide (F : Fx w K mg) : Meth K (He.ga K "TooWide") "__init__" (He.ma K (He.ga K "TooWide") "__init__") := by
  obtain ⟨h, X, G, c⟩ := F
  exact He.meth_ok (c.t.d.fact 62 (f := .meth "TooWide" "__init__") rfl)
theorem me_TooMany (F : Fx w K mg) : Meth K (He.ga K "TooMany") "__init__" (He.ma K (He.ga K "TooMany") "__init__") := by
  obtain ⟨h, X, G, c⟩ := F
  exact He.meth_ok (c.t.d.fact 63 (f := .meth "TooMany" "__init__") rfl)
theorem me_NothingDone (F : Fx w K mg) : Meth K (He.ga K "NothingDone") "__init__" (He.ma K (He.ga K "NothingDone") "__init__") := by
  obtain ⟨h, X, G, c⟩ := F
  exact He.meth_ok (c.t.d.fact 64 (f := .meth "NothingDone" "__init__") rfl)
theorem me_Stale (F : Fx w K mg) : Meth K (He.ga K "Stale") "__init__" (He.ma K (He.ga K "Stale") "__init__") := by
  obtain ⟨h, X, G, c⟩ := F
  exact He.meth_ok (c.t.d.fact 65 (f := .meth "Stale" "__init__") rfl)
theorem me_Lost (F : Fx w K mg) : Meth K (He.ga K "Lost") "__init__" (He.ma K (He.ga K "Lost") "__init__") := by
  obtain ⟨h, X, G, c⟩ := F
  exact He.meth_ok (c.t.d.fact 66 (f := .meth "Lost" "__init__") rfl)
theorem me_Unlike (F : Fx w K mg) : Meth K (He.ga K "Unlike") "__init__" (He.ma K (He.ga K "Unlike") "__init__") := by
  obtain ⟨h, X, G, c⟩ := F
  exact He.meth_ok (c.t.d.fact 67 (f := .meth "Unlike" "__init__") rfl)
theorem n_IndexError (F : Fx w K mg) : mg "IndexError" = none := by
  obtain ⟨h, X, G, c⟩ := F
  exact He.free_ok X G (c.t.d.fact 68 (f := .free "IndexError") rfl)
theorem n_KeyError (F : Fx w K mg) : mg "KeyError" = none := by
  obtain ⟨h, X, G, c⟩ := F
  exact He.free_ok X G (c.t.d.fact 69 (f := .free "KeyError") rfl)
theorem n_LookupError (F : Fx w K mg) : mg "LookupError" = none := by
  obtain ⟨h, X, G, c⟩ := F
  exact He.free_ok X G (c.t.d.fact 70 (f := .free "LookupError") rfl)
theorem n_OverflowError (F : Fx w K mg) : mg "OverflowError" = none := by
  obtain ⟨h, X, G, c⟩ := F
  exact He.free_ok X G (c.t.d.fact 71 (f := .free "OverflowError") rfl)
theorem n_RuntimeError (F : Fx w K mg) : mg "RuntimeError" = none := by
  obtain ⟨h, X, G, c⟩ := F
  exact He.free_ok X G (c.t.d.fact 72 (f := .free "RuntimeError") rfl)
theorem n_ValueError (F : Fx w K mg) : mg "ValueError" = none := by
  obtain ⟨h, X, G, c⟩ := F
  exact He.free_ok X G (c.t.d.fact 73 (f := .free "ValueError") rfl)
theorem n_abs (F : Fx w K mg) : mg "abs" = none := by
  obtain ⟨h, X, G, c⟩ := F
  exact He.free_ok X G (c.t.d.fact 74 (f := .free "abs") rfl)
theorem n_enumerate (F : Fx w K mg) : mg "enumerate" = none := by
  obtain ⟨h, X, G, c⟩ := F
  exact He.free_ok X G (c.t.d.fact 75 (f := .free "enumerate") rfl)
theorem n_int (F : Fx w K mg) : mg "int" = none := by
  obtain ⟨h, X, G, c⟩ := F
  exact He.free_ok X G (c.t.d.fact 76 (f := .free "int") rfl)
theorem n_isinstance (F : Fx w K mg) : mg "isinstance" = none := by
  obtain ⟨h, X, G, c⟩ := F
  exact He.free_ok X G (c.t.d.fact 77 (f := .free "isinstance") rfl)
theorem n_len (F : Fx w K mg) : mg "len" = none := by
  obtain ⟨h, X, G, c⟩ := F
  exact He.free_ok X G (c.t.d.fact 78 (f := .free "len") rfl)
theorem n_max (F : Fx w K mg) : mg "max" = none := by
  obtain ⟨h, X, G, c⟩ := F
  exact He.free_ok X G (c.t.d.fact 79 (f := .free "max") rfl)
theorem n_min (F : Fx w K mg) : mg "min" = none := by
  obtain ⟨h, X, G, c⟩ := F
  exact He.free_ok X G (c.t.d.fact 80 (f := .free "min") rfl)
theorem n_range (F : Fx w K mg) : mg "range" = none := by
  obtain ⟨h, X, G, c⟩ := F
  exact He.free_ok X G (c.t.d.fact 81 (f := .free "range") rfl)
theorem n_repr (F : Fx w K mg) : mg "repr" = none := by
  obtain ⟨h, X, G, c⟩ := F
  exact He.free_ok X G (c.t.d.fact 82 (f := .free "repr") rfl)
theorem fi_BadText (F : Fx w K mg) : ∃ fd, FunD K "__init__" "BadText.__init__" (defArgs mt_BadText) (defBody mt_BadText) (defScope mt_BadText) [] [] (He.ma K (He.ga K "BadText") "__init__") fd := by
  obtain ⟨h, X, G, c⟩ := F
  exact c.t.d.def_ 9 (d := di_BadText) rfl
theorem ox_BadText (F : Fx w K mg) : oexB K .V (He.ga K "BadText") = true := by
  obtain ⟨h, X, G, q⟩ := F
  exact (He.ba (He.ba (He.ba (He.ba (He.ba (He.ba (He.ba (He.ba (He.ba (He.ba (He.ba (He.ba (He.ba (He.ba (He.ba (He.ba (He.ba (He.ba (He.ba (He.ba (He.ba (He.ba (He.ba (He.ba (He.ba (He.ba (He.ba (He.ba (He.ba (He.ba (He.ba (He.ba (He.ba (He.ba (He.ba (He.ba (He.ba (He.ba (He.ba (He.ba (He.ba (He.ba (He.ba (He.ba (He.ba (He.ba (He.ba (He.ba q.more).1).1).1).1).1).1).1).1).1).1).1).1).1).1).1).1).1).1).1).1).1).1).1).1).1).1).1).1).1).1).1).1).1).1).1).1).1).1).1).1).1).1).1).1).1).1).1).1
theorem xc_BadText (F : Fx w K mg) : XcOk P w K mg base (tb K) 0 "BadText" := by
  obtain ⟨fd, hf⟩ := fi_BadText F
  exact xc_mk .V (y := "index") rfl hf ⟨rfl, rfl, rfl, by decide +kernel, rfl, by decide +kernel, by decide +kernel⟩ (ox_BadText F) (na_BadText F) (n_ValueError F) (me_BadText F) (g_BadText F) (FunD.bindsN hf fun _ _ _ _ _ _ us hl => match us, hl with | [_, _], _ => rfl) rfl rfl (.inl rfl) (.inl rfl) rfl rfl rfl
theorem fi_BadTemplate (F : Fx w K mg) : ∃ fd, FunD K "__init__" "BadTemplate.__init__" (defArgs mt_BadTemplate) (defBody mt_BadTemplate) (defScope mt_BadTemplate) [] [] (He.ma K (He.ga K "BadTemplate") "__init__") fd := by
  obtain ⟨h, X, G, c⟩ := F
  exact c.t.d.def_ 10 (d := di_BadTemplate) rfl
theorem ox_BadTemplate (F : Fx w K mg) : oexB K .V (He.ga K "BadTemplate") = true := by
  obtain ⟨h, X, G, q⟩ := F
  exact (He.ba (He.ba (He.ba (He.ba (He.ba (He.ba (He.ba (He.ba (He.ba (He.ba (He.ba (He.ba (He.ba (He.ba (He.ba (He.ba (He.ba (He.ba (He.ba (He.ba (He.ba (He.ba (He.ba (He.ba (He.ba (He.ba (He.ba (He.ba (He.ba (He.ba (He.ba (He.ba (He.ba (He.ba (He.ba (He.ba (He.ba (He.ba (He.ba (He.ba (He.ba (He.ba (He.ba (He.ba (He.ba (He.ba (He.ba (He.ba q.more).1).1).1).1).1).1).1).1).1).1).1).1).1).1).1).1).1).1).1).1).1).1).1).1).1).1).1).1).1).1).1).1).1).1).1).1).1).1).1).1).1).1).1).1).1).1).1).2
theorem xc_BadTemplate (F : Fx w K mg) : XcOk P w K mg base (tb K) 1 "BadTemplate" := by
  obtain ⟨fd, hf⟩ := fi_BadTemplate F
  exact xc_mk .V (y := "index") rfl hf ⟨rfl, rfl, rfl, by decide +kernel, rfl, by decide +kernel, by decide +kernel⟩ (ox_BadTemplate F) (na_BadTemplate F) (n_ValueError F) (me_BadTemplate F) (g_BadTemplate F) (FunD.bindsN hf fun _ _ _ _ _ _ us hl => match us, hl with | [_, _], _ => rfl) rfl rfl (.inl rfl) (.inl rfl) rfl rfl rfl
theorem fi_BadFill (F : Fx w K mg) : ∃ fd, FunD K "__init__" "BadFill.__init__" (defArgs mt_BadFill) (defBody mt_BadFill) (defScope mt_BadFill) [] [] (He.ma K (He.ga K "BadFill") "__init__") fd := by
  obtain ⟨h, X, G, c⟩ := F
  exact c.t.d.def_ 11 (d := di_BadFill) rfl
theorem ox_BadFill (F : Fx w K mg) : oexB K .V (He.ga K "BadFill") = true := by
  obtain ⟨h, X, G, q⟩ := F
  exact (He.ba (He.ba (He.ba (He.ba (He.ba (He.ba (He.ba (He.ba (He.ba (He.ba (He.ba (He.ba (He.ba (He.ba (He.ba (He.ba (He.ba (He.ba (He.ba (He.ba (He.ba (He.ba (He.ba (He.ba (He.ba (He.ba (He.ba (He.ba (He.ba (He.ba (He.ba (He.ba (He.ba (He.ba (He.ba (He.ba (He.ba (He.ba (He.ba (He.ba (He.ba (He.ba (He.ba (He.ba (He.ba (He.ba (He.ba q.more).1).1).1).1).1).1).1).1).1).1).1).1).1).1).1).1).1).1).1).1).1).1).1).1).1).1).1).1).1).1).1).1).1).1).1).1).1).1).1).1).1).1).1).1).1).1).2
theorem xc_BadFill (F : Fx w K mg) : XcOk P w K mg base (tb K) 2 "BadFill" := by
  obtain ⟨fd, hf⟩ := fi_BadFill F
  exact xc_mk .V (y := "name") rfl hf ⟨rfl, rfl, rfl, by decide +kernel, rfl, by decide +kernel, by decide +kernel⟩ (ox_BadFill F) (na_BadFill F) (n_ValueError F) (me_BadFill F) (g_BadFill F) (FunD.bindsN hf fun _ _ _ _ _ _ us hl => match us, hl with | [_, _], _ => rfl) rfl rfl (.inl rfl) (.inl rfl) rfl rfl rfl
theorem fi_BadMend (F : Fx w K mg) : ∃ fd, FunD K "__init__" "BadMend.__init__" (defArgs mt_BadMend) (defBody mt_BadMend) (defScope mt_BadMend) [] [] (He.ma K (He.ga K "BadMend") "__init__") fd := by
  obtain ⟨h, X, G, c⟩ := F
  exact c.t.d.def_ 12 (d := di_BadMend) rfl
theorem ox_BadMend (F : Fx w K mg) : oexB K .V (He.ga K "BadMend") = true := by
  obtain ⟨h, X, G, q⟩ := F
  exact (He.ba (He.ba (He.ba (He.ba (He.ba (He.ba (He.ba (He.ba (He.ba (He.ba (He.ba (He.ba (He.ba (He.ba (He.ba (He.ba (He.ba (He.ba (He.ba (He.ba (He.ba (He.ba (He.ba (He.ba (He.ba (He.ba (He.ba (He.ba (He.ba (He.ba (He.ba (He.ba (He.ba (He.ba (He.ba (He.ba (He.ba (He.ba (He.ba (He.ba (He.ba (He.ba (He.ba (He.ba (He.ba (He.ba q.more).1).1).1).1).1).1).1).1).1).1).1).1).1).1).1).1).1).1).1).1).1).1).1).1).1).1).1).1).1).1).1).1).1).1).1).1).1).1).1).1).1).1).1).1).1).2
theorem xc_BadMend (F : Fx w K mg) : XcOk P w K mg base (tb K) 3 "BadMend" := by
  obtain ⟨fd, hf⟩ := fi_BadMend F
  exact xc_mk .V (y := "mend") rfl hf ⟨rfl, rfl, rfl, by decide +kernel, rfl, by decide +kernel, by decide +kernel⟩ (ox_BadMend F) (na_BadMend F) (n_ValueError F) (me_BadMend F) (g_BadMend F) (FunD.bindsN hf fun _ _ _ _ _ _ us hl => match us, hl with | [_, _], _ => rfl) rfl rfl (.inl rfl) (.inl rfl) rfl rfl rfl
theorem fi_BadWord (F : Fx w K mg) : ∃ fd, FunD K "__init__" "BadWord.__init__" (defArgs mt_BadWord) (defBody mt_BadWord) (defScope mt_BadWord) [] [] (He.ma K (He.ga K "BadWord") "__init__") fd := by
  obtain ⟨h, X, G, c⟩ := F
  exact c.t.d.def_ 13 (d := di_BadWord) rfl
theorem ox_BadWord (F : Fx w K mg) : oexB K .V (He.ga K "BadWord") = true := by
  obtain ⟨h, X, G, q⟩ := F
  exact (He.ba (He.ba (He.ba (He.ba (He.ba (He.ba (He.ba (He.ba (He.ba (He.ba (He.ba (He.ba (He.ba (He.ba (He.ba (He.ba (He.ba (He.ba (He.ba (He.ba (He.ba (He.ba (He.ba (He.ba (He.ba (He.ba (He.ba (He.ba (He.ba (He.ba (He.ba (He.ba (He.ba (He.ba (He.ba (He.ba (He.ba (He.ba (He.ba (He.ba (He.ba (He.ba (He.ba (He.ba (He.ba q.more).1).1).1).1).1).1).1).1).1).1).1).1).1).1).1).1).1).1).1).1).1).1).1).1).1).1).1).1).1).1).1).1).1).1).1).1).1).1).1).1).1).1).1).1).2
theorem xc_BadWord (F : Fx w K mg) : XcOk P w K mg base (tb K) 4 "BadWord" := by
  obtain ⟨fd, hf⟩ := fi_BadWord F
  exact xc_mk .V (y := "word") rfl hf ⟨rfl, rfl, rfl, by decide +kernel, rfl, by decide +kernel, by decide +kernel⟩ (ox_BadWord F) (na_BadWord F) (n_ValueError F) (me_BadWord F) (g_BadWord F) (FunD.bindsN hf fun _ _ _ _ _ _ us hl => match us, hl with | [_, _], _ => rfl) rfl rfl (.inl rfl) (.inl rfl) rfl rfl rfl
theorem fi_BadWidth (F : Fx w K mg) : ∃ fd, FunD K "__init__" "BadWidth.__init__" (defArgs mt_BadWidth) (defBody mt_BadWidth) (defScope mt_BadWidth) [] [] (He.ma K (He.ga K "BadWidth") "__init__") fd := by
  obtain ⟨h, X, G, c⟩ := F
  exact c.t.d.def_ 14 (d := di_BadWidth) rfl
theorem ox_BadWidth (F : Fx w K mg) : oexB K .V (He.ga K "BadWidth") = true := by
  obtain ⟨h, X, G, q⟩ := F
  exact (He.ba (He.ba (He.ba (He.ba (He.ba (He.ba (He.ba (He.ba (He.ba (He.ba (He.ba (He.ba (He.ba (He.ba (He.ba (He.ba (He.ba (He.ba (He.ba (He.ba (He.ba (He.ba (He.ba (He.ba (He.ba (He.ba (He.ba (He.ba (He.ba (He.ba (He.ba (He.ba (He.ba (He.ba (He.ba (He.ba (He.ba (He.ba (He.ba (He.ba (He.ba (He.ba (He.ba (He.ba q.more).1).1).1).1).1).1).1).1).1).1).1).1).1).1).1).1).1).1).1).1).1).1).1).1).1).1).1).1).1).1).1).1).1).1).1).1).1).1).1).1).1).1).1).2
theorem xc_BadWidth (F : Fx w K mg) : XcOk P w K mg base (tb K) 5 "BadWidth" := by
  obtain ⟨fd, hf⟩ := fi_BadWidth F
  exact xc_mk .V (y := "value") rfl hf ⟨rfl, rfl, rfl, by decide +kernel, rfl, by decide +kernel, by decide +kernel⟩ (ox_BadWidth F) (na_BadWidth F) (n_ValueError F) (me_BadWidth F) (g_BadWidth F) (FunD.bindsN hf fun _ _ _ _ _ _ us hl => match us, hl with | [_, _], _ => rfl) rfl rfl (.inl rfl) (.inl rfl) rfl rfl rfl
theorem fi_BadRow (F : Fx w K mg) : ∃ fd, FunD K "__init__" "BadRow.__init__" (defArgs mt_BadRow) (defBody mt_BadRow) (defScope mt_BadRow) [] [] (He.ma K (He.ga K "BadRow") "__init__") fd := by
  obtain ⟨h, X, G, c⟩ := F
  exact c.t.d.def_ 15 (d := di_BadRow) rfl
theorem ox_BadRow (F : Fx w K mg) : oexB K .V (He.ga K "BadRow") = true := by
  obtain ⟨h, X, G, q⟩ := F
  exact (He.ba (He.ba (He.ba (He.ba (He.ba (He.ba (He.ba (He.ba (He.ba (He.ba (He.ba (He.ba (He.ba (He.ba (He.ba (He.ba (He.ba (He.ba (He.ba (He.ba (He.ba (He.ba (He.ba (He.ba (He.ba (He.ba (He.ba (He.ba (He.ba (He.ba (He.ba (He.ba (He.ba (He.ba (He.ba (He.ba (He.ba (He.ba (He.ba (He.ba (He.ba (He.ba (He.ba q.more).1).1).1).1).1).1).1).1).1).1).1).1).1).1).1).1).1).1).1).1).1).1).1).1).1).1).1).1).1).1).1).1).1).1).1).1).1).1).1).1).1).1).2
theorem xc_BadRow (F : Fx w K mg) : XcOk P w K mg base (tb K) 6 "BadRow" := by
  obtain ⟨fd, hf⟩ := fi_BadRow F
  exact xc_mk .V (y := "column") rfl hf ⟨rfl, rfl, rfl, by decide +kernel, rfl, by decide +kernel, by decide +kernel⟩ (ox_BadRow F) (na_BadRow F) (n_ValueError F) (me_BadRow F) (g_BadRow F) (FunD.bindsN hf fun _ _ _ _ _ _ us hl => match us, hl with | [_, _], _ => rfl) rfl rfl (.inl rfl) (.inl rfl) rfl rfl rfl
theorem fi_NoLine (F : Fx w K mg) : ∃ fd, FunD K "__init__" "NoLine.__init__" (defArgs mt_NoLine) (defBody mt_NoLine) (defScope mt_NoLine) [] [] (He.ma K (He.ga K "NoLine") "__init__") fd := by
  obtain ⟨h, X, G, c⟩ := F
  exact c.t.d.def_ 16 (d := di_NoLine) rfl
theorem ox_NoLine (F : Fx w K mg) : oexB K .L (He.ga K "NoLine") = true := by
  obtain ⟨h, X, G, q⟩ := F
  exact (He.ba (He.ba (He.ba (He.ba (He.ba (He.ba (He.ba (He.ba (He.ba (He.ba (He.ba (He.ba (He.ba (He.ba (He.ba (He.ba (He.ba (He.ba (He.ba (He.ba (He.ba (He.ba (He.ba (He.ba (He.ba (He.ba (He.ba (He.ba (He.ba (He.ba (He.ba (He.ba (He.ba (He.ba (He.ba (He.ba (He.ba (He.ba (He.ba (He.ba (He.ba (He.ba q.more).1).1).1).1).1).1).1).1).1).1).1).1).1).1).1).1).1).1).1).1).1).1).1).1).1).1).1).1).1).1).1).1).1).1).1).1).1).1).1).1).1).2
theorem xc_NoLine (F : Fx w K mg) : XcOk P w K mg base (tb K) 7 "NoLine" := by
  obtain ⟨fd, hf⟩ := fi_NoLine F
  exact xc_mk .L (y := "line") rfl hf ⟨rfl, rfl, rfl, by decide +kernel, rfl, by decide +kernel, by decide +kernel⟩ (ox_NoLine F) (na_NoLine F) (n_LookupError F) (me_NoLine F) (g_NoLine F) (FunD.bindsN hf fun _ _ _ _ _ _ us hl => match us, hl with | [_, _], _ => rfl) rfl rfl (.inl rfl) (.inl rfl) rfl rfl rfl
theorem fi_NoRange (F : Fx w K mg) : ∃ fd, FunD K "__init__" "NoRange.__init__" (defArgs mt_NoRange) (defBody mt_NoRange) (defScope mt_NoRange) [] [] (He.ma K (He.ga K "NoRange") "__init__") fd := by
  obtain ⟨h, X, G, c⟩ := F
  exact c.t.d.def_ 17 (d := di_NoRange) rfl
theorem ox_NoRange (F : Fx w K mg) : oexB K .L (He.ga K "NoRange") = true := by
  obtain ⟨h, X, G, q⟩ := F
  exact (He.ba (He.ba (He.ba (He.ba (He.ba (He.ba (He.ba (He.ba (He.ba (He.ba (He.ba (He.ba (He.ba (He.ba (He.ba (He.ba (He.ba (He.ba (He.ba (He.ba (He.ba (He.ba (He.ba (He.ba (He.ba (He.ba (He.ba (He.ba (He.ba (He.ba (He.ba (He.ba (He.ba (He.ba (He.ba (He.ba (He.ba (He.ba (He.ba (He.ba (He.ba q.more).1).1).1).1).1).1).1).1).1).1).1).1).1).1).1).1).1).1).1).1).1).1).1).1).1).1).1).1).1).1).1).1).1).1).1).1).1).1).1).1).2
theorem xc_NoRange (F : Fx w K mg) : XcOk P w K mg base (tb K) 8 "NoRange" := by
  obtain ⟨fd, hf⟩ := fi_NoRange F
  exact xc_mk .L (y := "span") rfl hf ⟨rfl, rfl, rfl, by decide +kernel, rfl, by decide +kernel, by decide +kernel⟩ (ox_NoRange F) (na_NoRange F) (n_LookupError F) (me_NoRange F) (g_NoRange F) (FunD.bindsN hf fun _ _ _ _ _ _ us hl => match us, hl with | [_, _], _ => rfl) rfl rfl (.inl rfl) (.inl rfl) rfl rfl rfl
theorem fi_NoPlace (F : Fx w K mg) : ∃ fd, FunD K "__init__" "NoPlace.__init__" (defArgs mt_NoPlace) (defBody mt_NoPlace) (defScope mt_NoPlace) [] [] (He.ma K (He.ga K "NoPlace") "__init__") fd := by
  obtain ⟨h, X, G, c⟩ := F
  exact c.t.d.def_ 18 (d := di_NoPlace) rfl
theorem ox_NoPlace (F : Fx w K mg) : oexB K .L (He.ga K "NoPlace") = true := by
  obtain ⟨h, X, G, q⟩ := F
  exact (He.ba (He.ba (He.ba (He.ba (He.ba (He.ba (He.ba (He.ba (He.ba (He.ba (He.ba (He.ba (He.ba (He.ba (He.ba (He.ba (He.ba (He.ba (He.ba (He.ba (He.ba (He.ba (He.ba (He.ba (He.ba (He.ba (He.ba (He.ba (He.ba (He.ba (He.ba (He.ba (He.ba (He.ba (He.ba (He.ba (He.ba (He.ba (He.ba (He.ba q.more).1).1).1).1).1).1).1).1).1).1).1).1).1).1).1).1).1).1).1).1).1).1).1).1).1).1).1).1).1).1).1).1).1).1).1).1).1).1).1).2
theorem xc_NoPlace (F : Fx w K mg) : XcOk P w K mg base (tb K) 9 "NoPlace" := by
  obtain ⟨fd, hf⟩ := fi_NoPlace F
  exact xc_mk .L (y := "place") rfl hf ⟨rfl, rfl, rfl, by decide +kernel, rfl, by decide +kernel, by decide +kernel⟩ (ox_NoPlace F) (na_NoPlace F) (n_LookupError F) (me_NoPlace F) (g_NoPlace F) (FunD.bindsN hf fun _ _ _ _ _ _ us hl => match us, hl with | [_, _], _ => rfl) rfl rfl (.inl rfl) (.inl rfl) rfl rfl rfl
theorem fi_NoContent (F : Fx w K mg) : ∃ fd, FunD K "__init__" "NoContent.__init__" (defArgs mt_NoContent) (defBody mt_NoContent) (defScope mt_NoContent) [] [] (He.ma K (He.ga K "NoContent") "__init__") fd := by
  obtain ⟨h, X, G, c⟩ := F
  exact c.t.d.def_ 19 (d := di_NoContent) rfl
theorem ox_NoContent (F : Fx w K mg) : oexB K .L (He.ga K "NoContent") = true := by
  obtain ⟨h, X, G, q⟩ := F
  exact (He.ba (He.ba (He.ba (He.ba (He.ba (He.ba (He.ba (He.ba (He.ba (He.ba (He.ba (He.ba (He.ba (He.ba (He.ba (He.ba (He.ba (He.ba (He.ba (He.ba (He.ba (He.ba (He.ba (He.ba (He.ba (He.ba (He.ba (He.ba (He.ba (He.ba (He.ba (He.ba (He.ba (He.ba (He.ba (He.ba (He.ba (He.ba (He.ba q.more).1).1).1).1).1).1).1).1).1).1).1).1).1).1).1).1).1).1).1).1).1).1).1).1).1).1).1).1).1).1).1).1).1).1).1).1).1).1).2
theorem xc_NoContent (F : Fx w K mg) : XcOk P w K mg base (tb K) 10 "NoContent" := by
  obtain ⟨fd, hf⟩ := fi_NoContent F
  exact xc_mk .L (y := "number") rfl hf ⟨rfl, rfl, rfl, by decide +kernel, rfl, by decide +kernel, by decide +kernel⟩ (ox_NoContent F) (na_NoContent F) (n_LookupError F) (me_NoContent F) (g_NoContent F) (FunD.bindsN hf fun _ _ _ _ _ _ us hl => match us, hl with | [_, _], _ => rfl) rfl rfl (.inl rfl) (.inl rfl) rfl rfl rfl
theorem fi_NoHole (F : Fx w K mg) : ∃ fd, FunD K "__init__" "NoHole.__init__" (defArgs mt_NoHole) (defBody mt_NoHole) (defScope mt_NoHole) [] [] (He.ma K (He.ga K "NoHole") "__init__") fd := by
  obtain ⟨h, X, G, c⟩ := F
  exact c.t.d.def_ 20 (d := di_NoHole) rfl
theorem ox_NoHole (F : Fx w K mg) : oexB K .K (He.ga K "NoHole") = true := by
  obtain ⟨h, X, G, q⟩ := F
  exact (He.ba (He.ba (He.ba (He.ba (He.ba (He.ba (He.ba (He.ba (He.ba (He.ba (He.ba (He.ba (He.ba (He.ba (He.ba (He.ba (He.ba (He.ba (He.ba (He.ba (He.ba (He.ba (He.ba (He.ba (He.ba (He.ba (He.ba (He.ba (He.ba (He.ba (He.ba (He.ba (He.ba (He.ba (He.ba (He.ba (He.ba (He.ba q.more).1).1).1).1).1).1).1).1).1).1).1).1).1).1).1).1).1).1).1).1).1).1).1).1).1).1).1).1).1).1).1).1).1).1).1).1).1).2
theorem xc_NoHole (F : Fx w K mg) : XcOk P w K mg base (tb K) 11 "NoHole" := by
  obtain ⟨fd, hf⟩ := fi_NoHole F
  exact xc_mk .K (y := "name") rfl hf ⟨rfl, rfl, rfl, by decide +kernel, rfl, by decide +kernel, by decide +kernel⟩ (ox_NoHole F) (na_NoHole F) (n_KeyError F) (me_NoHole F) (g_NoHole F) (FunD.bindsN hf fun _ _ _ _ _ _ us hl => match us, hl with | [_, _], _ => rfl) rfl rfl (.inl rfl) (.inl rfl) rfl rfl rfl
theorem fi_NoName (F : Fx w K mg) : ∃ fd, FunD K "__init__" "NoName.__init__" (defArgs mt_NoName) (defBody mt_NoName) (defScope mt_NoName) [] [] (He.ma K (He.ga K "NoName") "__init__") fd := by
  obtain ⟨h, X, G, c⟩ := F
  exact c.t.d.def_ 21 (d := di_NoName) rfl
theorem ox_NoName (F : Fx w K mg) : oexB K .K (He.ga K "NoName") = true := by
  obtain ⟨h, X, G, q⟩ := F
  exact (He.ba (He.ba (He.ba (He.ba (He.ba (He.ba (He.ba (He.ba (He.ba (He.ba (He.ba (He.ba (He.ba (He.ba (He.ba (He.ba (He.ba (He.ba (He.ba (He.ba (He.ba (He.ba (He.ba (He.ba (He.ba (He.ba (He.ba (He.ba (He.ba (He.ba (He.ba (He.ba (He.ba (He.ba (He.ba (He.ba (He.ba q.more).1).1).1).1).1).1).1).1).1).1).1).1).1).1).1).1).1).1).1).1).1).1).1).1).1).1).1).1).1).1).1).1).1).1).1).1).2
theorem xc_NoName (F : Fx w K mg) : XcOk P w K mg base (tb K) 12 "NoName" := by
  obtain ⟨fd, hf⟩ := fi_NoName F
  exact xc_mk .K (y := "name") rfl hf ⟨rfl, rfl, rfl, by decide +kernel, rfl, by decide +kernel, by decide +kernel⟩ (ox_NoName F) (na_NoName F) (n_KeyError F) (me_NoName F) (g_NoName F) (FunD.bindsN hf fun _ _ _ _ _ _ us hl => match us, hl with | [_, _], _ => rfl) rfl rfl (.inl rfl) (.inl rfl) rfl rfl rfl
theorem fi_TooLong (F : Fx w K mg) : ∃ fd, FunD K "__init__" "TooLong.__init__" (defArgs mt_TooLong) (defBody mt_TooLong) (defScope mt_TooLong) [] [] (He.ma K (He.ga K "TooLong") "__init__") fd := by
  obtain ⟨h, X, G, c⟩ := F
  exact c.t.d.def_ 22 (d := di_TooLong) rfl
theorem ox_TooLong (F : Fx w K mg) : oexB K .O (He.ga K "TooLong") = true := by
  obtain ⟨h, X, G, q⟩ := F
  exact (He.ba (He.ba (He.ba (He.ba (He.ba (He.ba (He.ba (He.ba (He.ba (He.ba (He.ba (He.ba (He.ba (He.ba (He.ba (He.ba (He.ba (He.ba (He.ba (He.ba (He.ba (He.ba (He.ba (He.ba (He.ba (He.ba (He.ba (He.ba (He.ba (He.ba (He.ba (He.ba (He.ba (He.ba (He.ba (He.ba q.more).1).1).1).1).1).1).1).1).1).1).1).1).1).1).1).1).1).1).1).1).1).1).1).1).1).1).1).1).1).1).1).1).1).1).1).2
theorem xc_TooLong (F : Fx w K mg) : XcOk P w K mg base (tb K) 13 "TooLong" := by
  obtain ⟨fd, hf⟩ := fi_TooLong F
  exact xc_mk .O (y := "many") rfl hf ⟨rfl, rfl, rfl, by decide +kernel, rfl, by decide +kernel, by decide +kernel⟩ (ox_TooLong F) (na_TooLong F) (n_OverflowError F) (me_TooLong F) (g_TooLong F) (FunD.bindsN hf fun _ _ _ _ _ _ us hl => match us, hl with | [_, _], _ => rfl) rfl rfl (.inl rfl) (.inl rfl) rfl rfl rfl
theorem fi_TooDeep (F : Fx w K mg) : ∃ fd, FunD K "__init__" "TooDeep.__init__" (defArgs mt_TooDeep) (defBody mt_TooDeep) (defScope mt_TooDeep) [] [] (He.ma K (He.ga K "TooDeep") "__init__") fd := by
  obtain ⟨h, X, G, c⟩ := F
  exact c.t.d.def_ 23 (d := di_TooDeep) rfl
theorem ox_TooDeep (F : Fx w K mg) : oexB K .O (He.ga K "TooDeep") = true := by
  obtain ⟨h, X, G, q⟩ := F
  exact (He.ba (He.ba (He.ba (He.ba (He.ba (He.ba (He.ba (He.ba (He.ba (He.ba (He.ba (He.ba (He.ba (He.ba (He.ba (He.ba (He.ba (He.ba (He.ba (He.ba (He.ba (He.ba (He.ba (He.ba (He.ba (He.ba (He.ba (He.ba (He.ba (He.ba (He.ba (He.ba (He.ba (He.ba (He.ba q.more).1).1).1).1).1).1).1).1).1).1).1).1).1).1).1).1).1).1).1).1).1).1).1).1).1).1).1).1).1).1).1).1).1).1).2
theorem xc_TooDeep (F : Fx w K mg) : XcOk P w K mg base (tb K) 14 "TooDeep" := by
  obtain ⟨fd, hf⟩ := fi_TooDeep F
  exact xc_mk .O (y := "index") rfl hf ⟨rfl, rfl, rfl, by decide +kernel, rfl, by decide +kernel, by decide +kernel⟩ (ox_TooDeep F) (na_TooDeep F) (n_OverflowError F) (me_TooDeep F) (g_TooDeep F) (FunD.bindsN hf fun _ _ _ _ _ _ us hl => match us, hl with | [_, _], _ => rfl) rfl rfl (.inl rfl) (.inl rfl) rfl rfl rfl
theorem fi_TooWide (F : Fx w K mg) : ∃ fd, FunD K "__init__" "TooWide.__init__" (defArgs mt_TooWide) (defBody mt_TooWide) (defScope mt_TooWide) [] [] (He.ma K (He.ga K "TooWide") "__init__") fd := by
  obtain ⟨h, X, G, c⟩ := F
  exact c.t.d.def_ 24 (d := di_TooWide) rfl
theorem ox_TooWide (F : Fx w K mg) : oexB K .O (He.ga K "TooWide") = true := by
  obtain ⟨h, X, G, q⟩ := F
  exact (He.ba (He.ba (He.ba (He.ba (He.ba (He.ba (He.ba (He.ba (He.ba (He.ba (He.ba (He.ba (He.ba (He.ba (He.ba (He.ba (He.ba (He.ba (He.ba (He.ba (He.ba (He.ba (He.ba (He.ba (He.ba (He.ba (He.ba (He.ba (He.ba (He.ba (He.ba (He.ba (He.ba (He.ba q.more).1).1).1).1).1).1).1).1).1).1).1).1).1).1).1).1).1).1).1).1).1).1).1).1).1).1).1).1).1).1).1).1).1).2
theorem xc_TooWide (F : Fx w K mg) : XcOk P w K mg base (tb K) 15 "TooWide" := by
  obtain ⟨fd, hf⟩ := fi_TooWide F
  exact xc_mk .O (y := "content") rfl hf ⟨rfl, rfl, rfl, by decide +kernel, rfl, by decide +kernel, by decide +kernel⟩ (ox_TooWide F) (na_TooWide F) (n_OverflowError F) (me_TooWide F) (g_TooWide F) (FunD.bindsN hf fun _ _ _ _ _ _ us hl => match us, hl with | [_, _], _ => rfl) rfl rfl (.inl rfl) (.inl rfl) rfl rfl rfl
theorem fi_TooMany (F : Fx w K mg) : ∃ fd, FunD K "__init__" "TooMany.__init__" (defArgs mt_TooMany) (defBody mt_TooMany) (defScope mt_TooMany) [] [] (He.ma K (He.ga K "TooMany") "__init__") fd := by
  obtain ⟨h, X, G, c⟩ := F
  exact c.t.d.def_ 25 (d := di_TooMany) rfl
theorem ox_TooMany (F : Fx w K mg) : oexB K .O (He.ga K "TooMany") = true := by
  obtain ⟨h, X, G, q⟩ := F
  exact (He.ba (He.ba (He.ba (He.ba (He.ba (He.ba (He.ba (He.ba (He.ba (He.ba (He.ba (He.ba (He.ba (He.ba (He.ba (He.ba (He.ba (He.ba (He.ba (He.ba (He.ba (He.ba (He.ba (He.ba (He.ba (He.ba (He.ba (He.ba (He.ba (He.ba (He.ba (He.ba (He.ba q.more).1).1).1).1).1).1).1).1).1).1).1).1).1).1).1).1).1).1).1).1).1).1).1).1).1).1).1).1).1).1).1).1).2
theorem xc_TooMany (F : Fx w K mg) : XcOk P w K mg base (tb K) 16 "TooMany" := by
  obtain ⟨fd, hf⟩ := fi_TooMany F
  exact xc_mk .O (y := "many") rfl hf ⟨rfl, rfl, rfl, by decide +kernel, rfl, by decide +kernel, by decide +kernel⟩ (ox_TooMany F) (na_TooMany F) (n_OverflowError F) (me_TooMany F) (g_TooMany F) (FunD.bindsN hf fun _ _ _ _ _ _ us hl => match us, hl with | [_, _], _ => rfl) rfl rfl (.inl rfl) (.inl rfl) rfl rfl rfl
theorem fi_NothingDone (F : Fx w K mg) : ∃ fd, FunD K "__init__" "NothingDone.__init__" (defArgs mt_NothingDone) (defBody mt_NothingDone) (defScope mt_NothingDone) [] [] (He.ma K (He.ga K "NothingDone") "__init__") fd := by
  obtain ⟨h, X, G, c⟩ := F
  exact c.t.d.def_ 26 (d := di_NothingDone) rfl
theorem ox_NothingDone (F : Fx w K mg) : oexB K .R (He.ga K "NothingDone") = true := by
  obtain ⟨h, X, G, q⟩ := F
  exact (He.ba (He.ba (He.ba (He.ba (He.ba (He.ba (He.ba (He.ba (He.ba (He.ba (He.ba (He.ba (He.ba (He.ba (He.ba (He.ba (He.ba (He.ba (He.ba (He.ba (He.ba (He.ba (He.ba (He.ba (He.ba (He.ba (He.ba (He.ba (He.ba (He.ba (He.ba (He.ba q.more).1).1).1).1).1).1).1).1).1).1).1).1).1).1).1).1).1).1).1).1).1).1).1).1).1).1).1).1).1).1).1).2
theorem xc_NothingDone (F : Fx w K mg) : XcOk0 P w K mg base (tb K) 17 "NothingDone" := by
  obtain ⟨fd, hf⟩ := fi_NothingDone F
  exact xc_mk0 .R rfl hf ⟨rfl, rfl, rfl, by decide +kernel, rfl, by decide +kernel, by decide +kernel⟩ (ox_NothingDone F) rfl (n_RuntimeError F) (me_NothingDone F) (g_NothingDone F) (FunD.bindsN hf fun _ _ _ _ _ _ us hl => match us, hl with | [_], _ => rfl) rfl rfl (.inl rfl) rfl
theorem fi_Stale (F : Fx w K mg) : ∃ fd, FunD K "__init__" "Stale.__init__" (defArgs mt_Stale) (defBody mt_Stale) (defScope mt_Stale) [] [] (He.ma K (He.ga K "Stale") "__init__") fd := by
  obtain ⟨h, X, G, c⟩ := F
  exact c.t.d.def_ 27 (d := di_Stale) rfl
theorem ox_Stale (F : Fx w K mg) : oexB K .R (He.ga K "Stale") = true := by
  obtain ⟨h, X, G, q⟩ := F
  exact (He.ba (He.ba (He.ba (He.ba (He.ba (He.ba (He.ba (He.ba (He.ba (He.ba (He.ba (He.ba (He.ba (He.ba (He.ba (He.ba (He.ba (He.ba (He.ba (He.ba (He.ba (He.ba (He.ba (He.ba (He.ba (He.ba (He.ba (He.ba (He.ba (He.ba (He.ba q.more).1).1).1).1).1).1).1).1).1).1).1).1).1).1).1).1).1).1).1).1).1).1).1).1).1).1).1).1).1).1).2
theorem xc_Stale (F : Fx w K mg) : XcOk0 P w K mg base (tb K) 18 "Stale" := by
  obtain ⟨fd, hf⟩ := fi_Stale F
  exact xc_mk0 .R rfl hf ⟨rfl, rfl, rfl, by decide +kernel, rfl, by decide +kernel, by decide +kernel⟩ (ox_Stale F) rfl (n_RuntimeError F) (me_Stale F) (g_Stale F) (FunD.bindsN hf fun _ _ _ _ _ _ us hl => match us, hl with | [_], _ => rfl) rfl rfl (.inl rfl) rfl
theorem fi_Lost (F : Fx w K mg) : ∃ fd, FunD K "__init__" "Lost.__init__" (defArgs mt_Lost) (defBody mt_Lost) (defScope mt_Lost) [] [] (He.ma K (He.ga K "Lost") "__init__") fd := by
  obtain ⟨h, X, G, c⟩ := F
  exact c.t.d.def_ 28 (d := di_Lost) rfl
theorem ox_Lost (F : Fx w K mg) : oexB K .R (He.ga K "Lost") = true := by
  obtain ⟨h, X, G, q⟩ := F
  exact (He.ba (He.ba (He.ba (He.ba (He.ba (He.ba (He.ba (He.ba (He.ba (He.ba (He.ba (He.ba (He.ba (He.ba (He.ba (He.ba (He.ba (He.ba (He.ba (He.ba (He.ba (He.ba (He.ba (He.ba (He.ba (He.ba (He.ba (He.ba (He.ba (He.ba q.more).1).1).1).1).1).1).1).1).1).1).1).1).1).1).1).1).1).1).1).1).1).1).1).1).1).1).1).1).1).2
theorem xc_Lost (F : Fx w K mg) : XcOk0 P w K mg base (tb K) 19 "Lost" := by
  obtain ⟨fd, hf⟩ := fi_Lost F
  exact xc_mk0 .R rfl hf ⟨rfl, rfl, rfl, by decide +kernel, rfl, by decide +kernel, by decide +kernel⟩ (ox_Lost F) rfl (n_RuntimeError F) (me_Lost F) (g_Lost F) (FunD.bindsN hf fun _ _ _ _ _ _ us hl => match us, hl with | [_], _ => rfl) rfl rfl (.inl rfl) rfl
theorem fi_Unlike (F : Fx w K mg) : ∃ fd, FunD K "__init__" "Unlike.__init__" (defArgs mt_Unlike) (defBody mt_Unlike) (defScope mt_Unlike) [] [] (He.ma K (He.ga K "Unlike") "__init__") fd := by
  obtain ⟨h, X, G, c⟩ := F
  exact c.t.d.def_ 29 (d := di_Unlike) rfl
theorem ox_Unlike (F : Fx w K mg) : oexB K .R (He.ga K "Unlike") = true := by
  obtain ⟨h, X, G, q⟩ := F
  exact (He.ba (He.ba (He.ba (He.ba (He.ba (He.ba (He.ba (He.ba (He.ba (He.ba (He.ba (He.ba (He.ba (He.ba (He.ba (He.ba (He.ba (He.ba (He.ba (He.ba (He.ba (He.ba (He.ba (He.ba (He.ba (He.ba (He.ba (He.ba (He.ba q.more).1).1).1).1).1).1).1).1).1).1).1).1).1).1).1).1).1).1).1).1).1).1).1).1).1).1).1).1).2
theorem xc_Unlike (F : Fx w K mg) : XcOk0 P w K mg base (tb K) 20 "Unlike" := by
  obtain ⟨fd, hf⟩ := fi_Unlike F
  exact xc_mk0 .R rfl hf ⟨rfl, rfl, rfl, by decide +kernel, rfl, by decide +kernel, by decide +kernel⟩ (ox_Unlike F) rfl (n_RuntimeError F) (me_Unlike F) (g_Unlike F) (FunD.bindsN hf fun _ _ _ _ _ _ us hl => match us, hl with | [_], _ => rfl) rfl rfl (.inl rfl) rfl
theorem xs_all (F : Fx w K mg) : (xsL K).all (excB K) = true := by
  obtain ⟨h, X, G, q⟩ := F
  exact (He.ba (He.ba (He.ba (He.ba (He.ba (He.ba (He.ba (He.ba (He.ba (He.ba (He.ba (He.ba (He.ba (He.ba (He.ba (He.ba (He.ba (He.ba (He.ba (He.ba (He.ba (He.ba (He.ba (He.ba (He.ba (He.ba (He.ba (He.ba q.more).1).1).1).1).1).1).1).1).1).1).1).1).1).1).1).1).1).1).1).1).1).1).1).1).1).1).1).2
theorem xs_cls (k : Nat) (a : Addr) (h : (xsL K)[k]? = some a) : (tb K).cls k = a := by
  match k, h with
  | 0, h => exact Option.some.inj h
  | 1, h => exact Option.some.inj h
  | 2, h => exact Option.some.inj h
  | 3, h => exact Option.some.inj h
  | 4, h => exact Option.some.inj h
  | 5, h => exact Option.some.inj h
  | 6, h => exact Option.some.inj h
  | 7, h => exact Option.some.inj h
  | 8, h => exact Option.some.inj h
  | 9, h => exact Option.some.inj h
  | 10, h => exact Option.some.inj h
  | 11, h => exact Option.some.inj h
  | 12, h => exact Option.some.inj h
  | 13, h => exact Option.some.inj h
  | 14, h => exact Option.some.inj h
  | 15, h => exact Option.some.inj h
  | 16, h => exact Option.some.inj h
  | 17, h => exact Option.some.inj h
  | 18, h => exact Option.some.inj h
  | 19, h => exact Option.some.inj h
  | 20, h => exact Option.some.inj h
  | n + 21, h => cases h
theorem xf_BadText (F : Fx w K mg) : XfC K ((tb K).cls 0) := (exc_of (all_at (k := 0) (xs_all F) rfl)).1
theorem xf_BadTemplate (F : Fx w K mg) : XfC K ((tb K).cls 1) := (exc_of (all_at (k := 1) (xs_all F) rfl)).1
theorem xf_BadFill (F : Fx w K mg) : XfC K ((tb K).cls 2) := (exc_of (all_at (k := 2) (xs_all F) rfl)).1
theorem xf_BadMend (F : Fx w K mg) : XfC K ((tb K).cls 3) := (exc_of (all_at (k := 3) (xs_all F) rfl)).1
theorem xf_BadWord (F : Fx w K mg) : XfC K ((tb K).cls 4) := (exc_of (all_at (k := 4) (xs_all F) rfl)).1
theorem xf_BadWidth (F : Fx w K mg) : XfC K ((tb K).cls 5) := (exc_of (all_at (k := 5) (xs_all F) rfl)).1
theorem xf_BadRow (F : Fx w K mg) : XfC K ((tb K).cls 6) := (exc_of (all_at (k := 6) (xs_all F) rfl)).1
theorem xf_NoLine (F : Fx w K mg) : XfC K ((tb K).cls 7) := (exc_of (all_at (k := 7) (xs_all F) rfl)).1
theorem xf_NoRange (F : Fx w K mg) : XfC K ((tb K).cls 8) := (exc_of (all_at (k := 8) (xs_all F) rfl)).1
theorem xf_NoPlace (F : Fx w K mg) : XfC K ((tb K).cls 9) := (exc_of (all_at (k := 9) (xs_all F) rfl)).1
theorem xf_NoContent (F : Fx w K mg) : XfC K ((tb K).cls 10) := (exc_of (all_at (k := 10) (xs_all F) rfl)).1
theorem xf_NoHole (F : Fx w K mg) : XfC K ((tb K).cls 11) := (exc_of (all_at (k := 11) (xs_all F) rfl)).1
theorem xf_NoName (F : Fx w K mg) : XfC K ((tb K).cls 12) := (exc_of (all_at (k := 12) (xs_all F) rfl)).1
theorem xf_TooLong (F : Fx w K mg) : XfC K ((tb K).cls 13) := (exc_of (all_at (k := 13) (xs_all F) rfl)).1
theorem xf_TooDeep (F : Fx w K mg) : XfC K ((tb K).cls 14) := (exc_of (all_at (k := 14) (xs_all F) rfl)).1
theorem xf_TooWide (F : Fx w K mg) : XfC K ((tb K).cls 15) := (exc_of (all_at (k := 15) (xs_all F) rfl)).1
theorem xf_TooMany (F : Fx w K mg) : XfC K ((tb K).cls 16) := (exc_of (all_at (k := 16) (xs_all F) rfl)).1
abbrev ks_0 : List Bool := [true, true, true, true, true, true, true, false, false, false, false, false, false, false, false, false, false, false, false, false, false]
theorem kt_0 (F : Fx w K mg) (k : Nat) (b : Bool) (e : ks_0[k]? = some b) : ExcC K ((tb K).cls k) ∧ PySem.W.kitOne K (.ref ((tb K).cls k)) (.type "ValueError") = some b := by
  refine kitT_ok xs_cls (xs_all F) ?_ k b e
  obtain ⟨h, X, G, q⟩ := F
  exact (He.ba (He.ba (He.ba (He.ba (He.ba (He.ba (He.ba (He.ba (He.ba (He.ba (He.ba (He.ba (He.ba (He.ba (He.ba (He.ba (He.ba (He.ba (He.ba (He.ba (He.ba (He.ba (He.ba (He.ba (He.ba (He.ba (He.ba q.more).1).1).1).1).1).1).1).1).1).1).1).1).1).1).1).1).1).1).1).1).1).1).1).1).1).1).2
abbrev ks_1 : List Bool := [false, false, false, false, false, false, false, false, false, false, false, true, true, false, false, false, false, false, false, false, false]
theorem kt_1 (F : Fx w K mg) (k : Nat) (b : Bool) (e : ks_1[k]? = some b) : ExcC K ((tb K).cls k) ∧ PySem.W.kitOne K (.ref ((tb K).cls k)) (.type "KeyError") = some b := by
  refine kitT_ok xs_cls (xs_all F) ?_ k b e
  obtain ⟨h, X, G, q⟩ := F
  exact (He.ba (He.ba (He.ba (He.ba (He.ba (He.ba (He.ba (He.ba (He.ba (He.ba (He.ba (He.ba (He.ba (He.ba (He.ba (He.ba (He.ba (He.ba (He.ba (He.ba (He.ba (He.ba (He.ba (He.ba (He.ba (He.ba q.more).1).1).1).1).1).1).1).1).1).1).1).1).1).1).1).1).1).1).1).1).1).1).1).1).1).2
abbrev ks_2 : List Bool := [false, false, false, false, false, false, false, false, false, false, false, false, false, true, true, true, true, false, false, false, false]
theorem kt_2 (F : Fx w K mg) (k : Nat) (b : Bool) (e : ks_2[k]? = some b) : ExcC K ((tb K).cls k) ∧ PySem.W.kitOne K (.ref ((tb K).cls k)) (.type "OverflowError") = some b := by
  refine kitT_ok xs_cls (xs_all F) ?_ k b e
  obtain ⟨h, X, G, q⟩ := F
  exact (He.ba (He.ba (He.ba (He.ba (He.ba (He.ba (He.ba (He.ba (He.ba (He.ba (He.ba (He.ba (He.ba (He.ba (He.ba (He.ba (He.ba (He.ba (He.ba (He.ba (He.ba (He.ba (He.ba (He.ba (He.ba q.more).1).1).1).1).1).1).1).1).1).1).1).1).1).1).1).1).1).1).1).1).1).1).1).1).2
abbrev ks_3 : List Bool := [false, false, false, false, false, false, false, false, false, false, false, false, false, false, false, false, false, true, true, true, true]
theorem kt_3 (F : Fx w K mg) (k : Nat) (b : Bool) (e : ks_3[k]? = some b) : ExcC K ((tb K).cls k) ∧ PySem.W.kitOne K (.ref ((tb K).cls k)) (.type "RuntimeError") = some b := by
  refine kitT_ok xs_cls (xs_all F) ?_ k b e
  obtain ⟨h, X, G, q⟩ := F
  exact (He.ba (He.ba (He.ba (He.ba (He.ba (He.ba (He.ba (He.ba (He.ba (He.ba (He.ba (He.ba (He.ba (He.ba (He.ba (He.ba (He.ba (He.ba (He.ba (He.ba (He.ba (He.ba (He.ba (He.ba q.more).1).1).1).1).1).1).1).1).1).1).1).1).1).1).1).1).1).1).1).1).1).1).1).2
abbrev ks_4 : List Bool := [false, false, false, false, false, false, false, true, true, true, true, true, true, false, false, false, false, false, false, false, false]
theorem kt_4 (F : Fx w K mg) (k : Nat) (b : Bool) (e : ks_4[k]? = some b) : ExcC K ((tb K).cls k) ∧ PySem.W.kitOne K (.ref ((tb K).cls k)) (.type "LookupError") = some b := by
  refine kitT_ok xs_cls (xs_all F) ?_ k b e
  obtain ⟨h, X, G, q⟩ := F
  exact (He.ba (He.ba (He.ba (He.ba (He.ba (He.ba (He.ba (He.ba (He.ba (He.ba (He.ba (He.ba (He.ba (He.ba (He.ba (He.ba (He.ba (He.ba (He.ba (He.ba (He.ba (He.ba (He.ba q.more).1).1).1).1).1).1).1).1).1).1).1).1).1).1).1).1).1).1).1).1).1).1).2
abbrev ks_5 : List Bool := [false, false, false, false, false, false, false, false, false, false, false, false, false, false, false, false, false, false, false, false, false]
theorem kt_5 (F : Fx w K mg) (k : Nat) (b : Bool) (e : ks_5[k]? = some b) : ExcC K ((tb K).cls k) ∧ PySem.W.kitOne K (.ref ((tb K).cls k)) (.type "IndexError") = some b := by
  refine kitT_ok xs_cls (xs_all F) ?_ k b e
  obtain ⟨h, X, G, q⟩ := F
  exact (He.ba (He.ba (He.ba (He.ba (He.ba (He.ba (He.ba (He.ba (He.ba (He.ba (He.ba (He.ba (He.ba (He.ba (He.ba (He.ba (He.ba (He.ba (He.ba (He.ba (He.ba (He.ba q.more).1).1).1).1).1).1).1).1).1).1).1).1).1).1).1).1).1).1).1).1).1).2
abbrev ks_6 : List Bool := [true, false, false, false, false, false, false, false, false, false, false, false, false, false, false, false, false, false, false, false, false]
theorem kt_6 (F : Fx w K mg) (k : Nat) (b : Bool) (e : ks_6[k]? = some b) : ExcC K ((tb K).cls k) ∧ PySem.W.kitOne K (.ref ((tb K).cls k)) (.ref (He.ga K "BadText")) = some b := by
  refine kitT_ok xs_cls (xs_all F) ?_ k b e
  obtain ⟨h, X, G, q⟩ := F
  exact (He.ba (He.ba (He.ba (He.ba (He.ba (He.ba (He.ba (He.ba (He.ba (He.ba (He.ba (He.ba (He.ba (He.ba (He.ba (He.ba (He.ba (He.ba (He.ba (He.ba (He.ba q.more).1).1).1).1).1).1).1).1).1).1).1).1).1).1).1).1).1).1).1).1).2
abbrev ks_7 : List Bool := [false, true, false, false, false, false, false, false, false, false, false, false, false, false, false, false, false, false, false, false, false]
theorem kt_7 (F : Fx w K mg) (k : Nat) (b : Bool) (e : ks_7[k]? = some b) : ExcC K ((tb K).cls k) ∧ PySem.W.kitOne K (.ref ((tb K).cls k)) (.ref (He.ga K "BadTemplate")) = some b := by
  refine kitT_ok xs_cls (xs_all F) ?_ k b e
  obtain ⟨h, X, G, q⟩ := F
  exact (He.ba (He.ba (He.ba (He.ba (He.ba (He.ba (He.ba (He.ba (He.ba (He.ba (He.ba (He.ba (He.ba (He.ba (He.ba (He.ba (He.ba (He.ba (He.ba (He.ba q.more).1).1).1).1).1).1).1).1).1).1).1).1).1).1).1).1).1).1).1).2
abbrev ks_8 : List Bool := [false, false, true, false, false, false, false, false, false, false, false, false, false, false, false, false, false, false, false, false, false]
theorem kt_8 (F : Fx w K mg) (k : Nat) (b : Bool) (e : ks_8[k]? = some b) : ExcC K ((tb K).cls k) ∧ PySem.W.kitOne K (.ref ((tb K).cls k)) (.ref (He.ga K "BadFill")) = some b := by
  refine kitT_ok xs_cls (xs_all F) ?_ k b e
  obtain ⟨h, X, G, q⟩ := F
  exact (He.ba (He.ba (He.ba (He.ba (He.ba (He.ba (He.ba (He.ba (He.ba (He.ba (He.ba (He.ba (He.ba (He.ba (He.ba (He.ba (He.ba (He.ba (He.ba q.more).1).1).1).1).1).1).1).1).1).1).1).1).1).1).1).1).1).1).2
abbrev ks_9 : List Bool := [false, false, false, true, false, false, false, false, false, false, false, false, false, false, false, false, false, false, false, false, false]
theorem kt_9 (F : Fx w K mg) (k : Nat) (b : Bool) (e : ks_9[k]? = some b) : ExcC K ((tb K).cls k) ∧ PySem.W.kitOne K (.ref ((tb K).cls k)) (.ref (He.ga K "BadMend")) = some b := by
  refine kitT_ok xs_cls (xs_all F) ?_ k b e
  obtain ⟨h, X, G, q⟩ := F
  exact (He.ba (He.ba (He.ba (He.ba (He.ba (He.ba (He.ba (He.ba (He.ba (He.ba (He.ba (He.ba (He.ba (He.ba (He.ba (He.ba (He.ba (He.ba q.more).1).1).1).1).1).1).1).1).1).1).1).1).1).1).1).1).1).2
abbrev ks_10 : List Bool := [false, false, false, false, true, false, false, false, false, false, false, false, false, false, false, false, false, false, false, false, false]
theorem kt_10 (F : Fx w K mg) (k : Nat) (b : Bool) (e : ks_10[k]? = some b) : ExcC K ((tb K).cls k) ∧ PySem.W.kitOne K (.ref ((tb K).cls k)) (.ref (He.ga K "BadWord")) = some b := by
  refine kitT_ok xs_cls (xs_all F) ?_ k b e
  obtain ⟨h, X, G, q⟩ := F
  exact (He.ba (He.ba (He.ba (He.ba (He.ba (He.ba (He.ba (He.ba (He.ba (He.ba (He.ba (He.ba (He.ba (He.ba (He.ba (He.ba (He.ba q.more).1).1).1).1).1).1).1).1).1).1).1).1).1).1).1).1).2
abbrev ks_11 : List Bool := [false, false, false, false, false, true, false, false, false, false, false, false, false, false, false, false, false, false, false, false, false]
theorem kt_11 (F : Fx w K mg) (k : Nat) (b : Bool) (e : ks_11[k]? = some b) : ExcC K ((tb K).cls k) ∧ PySem.W.kitOne K (.ref ((tb K).cls k)) (.ref (He.ga K "BadWidth")) = some b := by
  refine kitT_ok xs_cls (xs_all F) ?_ k b e
  obtain ⟨h, X, G, q⟩ := F
  exact (He.ba (He.ba (He.ba (He.ba (He.ba (He.ba (He.ba (He.ba (He.ba (He.ba (He.ba (He.ba (He.ba (He.ba (He.ba (He.ba q.more).1).1).1).1).1).1).1).1).1).1).1).1).1).1).1).2
abbrev ks_12 : List Bool := [false, false, false, false, false, false, true, false, false, false, false, false, false, false, false, false, false, false, false, false, false]
theorem kt_12 (F : Fx w K mg) (k : Nat) (b : Bool) (e : ks_12[k]? = some b) : ExcC K ((tb K).cls k) ∧ PySem.W.kitOne K (.ref ((tb K).cls k)) (.ref (He.ga K "BadRow")) = some b := by
  refine kitT_ok xs_cls (xs_all F) ?_ k b e
  obtain ⟨h, X, G, q⟩ := F
  exact (He.ba (He.ba (He.ba (He.ba (He.ba (He.ba (He.ba (He.ba (He.ba (He.ba (He.ba (He.ba (He.ba (He.ba (He.ba q.more).1).1).1).1).1).1).1).1).1).1).1).1).1).1).2
abbrev ks_13 : List Bool := [false, false, false, false, false, false, false, true, false, false, false, false, false, false, false, false, false, false, false, false, false]
theorem kt_13 (F : Fx w K mg) (k : Nat) (b : Bool) (e : ks_13[k]? = some b) : ExcC K ((tb K).cls k) ∧ PySem.W.kitOne K (.ref ((tb K).cls k)) (.ref (He.ga K "NoLine")) = some b := by
  refine kitT_ok xs_cls (xs_all F) ?_ k b e
  obtain ⟨h, X, G, q⟩ := F
  exact (He.ba (He.ba (He.ba (He.ba (He.ba (He.ba (He.ba (He.ba (He.ba (He.ba (He.ba (He.ba (He.ba (He.ba q.more).1).1).1).1).1).1).1).1).1).1).1).1).1).2
abbrev ks_14 : List Bool := [false, false, false, false, false, false, false, false, true, false, false, false, false, false, false, false, false, false, false, false, false]
theorem kt_14 (F : Fx w K mg) (k : Nat) (b : Bool) (e : ks_14[k]? = some b) : ExcC K ((tb K).cls k) ∧ PySem.W.kitOne K (.ref ((tb K).cls k)) (.ref (He.ga K "NoRange")) = some b := by
  refine kitT_ok xs_cls (xs_all F) ?_ k b e
  obtain ⟨h, X, G, q⟩ := F
  exact (He.ba (He.ba (He.ba (He.ba (He.ba (He.ba (He.ba (He.ba (He.ba (He.ba (He.ba (He.ba (He.ba q.more).1).1).1).1).1).1).1).1).1).1).1).1).2
abbrev ks_15 : List Bool := [false, false, false, false, false, false, false, false, false, true, false, false, false, false, false, false, false, false, false, false, false]
theorem kt_15 (F : Fx w K mg) (k : Nat) (b : Bool) (e : ks_15[k]? = some b) : ExcC K ((tb K).cls k) ∧ PySem.W.kitOne K (.ref ((tb K).cls k)) (.ref (He.ga K "NoPlace")) = some b := by
  refine kitT_ok xs_cls (xs_all F) ?_ k b e
  obtain ⟨h, X, G, q⟩ := F
  exact (He.ba (He.ba (He.ba (He.ba (He.ba (He.ba (He.ba (He.ba (He.ba (He.ba (He.ba (He.ba q.more).1).1).1).1).1).1).1).1).1).1).1).2
abbrev ks_16 : List Bool := [false, false, false, false, false, false, false, false, false, false, true, false, false, false, false, false, false, false, false, false, false]
theorem kt_16 (F : Fx w K mg) (k : Nat) (b : Bool) (e : ks_16[k]? = some b) : ExcC K ((tb K).cls k) ∧ PySem.W.kitOne K (.ref ((tb K).cls k)) (.ref (He.ga K "NoContent")) = some b := by
  refine kitT_ok xs_cls (xs_all F) ?_ k b e
  obtain ⟨h, X, G, q⟩ := F
  exact (He.ba (He.ba (He.ba (He.ba (He.ba (He.ba (He.ba (He.ba (He.ba (He.ba (He.ba q.more).1).1).1).1).1).1).1).1).1).1).2
abbrev ks_17 : List Bool := [false, false, false, false, false, false, false, false, false, false, false, true, false, false, false, false, false, false, false, false, false]
theorem kt_17 (F : Fx w K mg) (k : Nat) (b : Bool) (e : ks_17[k]? = some b) : ExcC K ((tb K).cls k) ∧ PySem.W.kitOne K (.ref ((tb K).cls k)) (.ref (He.ga K "NoHole")) = some b := by
  refine kitT_ok xs_cls (xs_all F) ?_ k b e
  obtain ⟨h, X, G, q⟩ := F
  exact (He.ba (He.ba (He.ba (He.ba (He.ba (He.ba (He.ba (He.ba (He.ba (He.ba q.more).1).1).1).1).1).1).1).1).1).2
abbrev ks_18 : List Bool := [false, false, false, false, false, false, false, false, false, false, false, false, true, false, false, false, false, false, false, false, false]
theorem kt_18 (F : Fx w K mg) (k : Nat) (b : Bool) (e : ks_18[k]? = some b) : ExcC K ((tb K).cls k) ∧ PySem.W.kitOne K (.ref ((tb K).cls k)) (.ref (He.ga K "NoName")) = some b := by
  refine kitT_ok xs_cls (xs_all F) ?_ k b e
  obtain ⟨h, X, G, q⟩ := F
  exact (He.ba (He.ba (He.ba (He.ba (He.ba (He.ba (He.ba (He.ba (He.ba q.more).1).1).1).1).1).1).1).1).2
abbrev ks_19 : List Bool := [false, false, false, false, false, false, false, false, false, false, false, false, false, true, false, false, false, false, false, false, false]
theorem kt_19 (F : Fx w K mg) (k : Nat) (b : Bool) (e : ks_19[k]? = some b) : ExcC K ((tb K).cls k) ∧ PySem.W.kitOne K (.ref ((tb K).cls k)) (.ref (He.ga K "TooLong")) = some b := by
  refine kitT_ok xs_cls (xs_all F) ?_ k b e
  obtain ⟨h, X, G, q⟩ := F
  exact (He.ba (He.ba (He.ba (He.ba (He.ba (He.ba (He.ba (He.ba q.more).1).1).1).1).1).1).1).2
abbrev ks_20 : List Bool := [false, false, false, false, false, false, false, false, false, false, false, false, false, false, true, false, false, false, false, false, false]
theorem kt_20 (F : Fx w K mg) (k : Nat) (b : Bool) (e : ks_20[k]? = some b) : ExcC K ((tb K).cls k) ∧ PySem.W.kitOne K (.ref ((tb K).cls k)) (.ref (He.ga K "TooDeep")) = some b := by
  refine kitT_ok xs_cls (xs_all F) ?_ k b e
  obtain ⟨h, X, G, q⟩ := F
  exact (He.ba (He.ba (He.ba (He.ba (He.ba (He.ba (He.ba q.more).1).1).1).1).1).1).2
abbrev ks_21 : List Bool := [false, false, false, false, false, false, false, false, false, false, false, false, false, false, false, true, false, false, false, false, false]
theorem kt_21 (F : Fx w K mg) (k : Nat) (b : Bool) (e : ks_21[k]? = some b) : ExcC K ((tb K).cls k) ∧ PySem.W.kitOne K (.ref ((tb K).cls k)) (.ref (He.ga K "TooWide")) = some b := by
  refine kitT_ok xs_cls (xs_all F) ?_ k b e
  obtain ⟨h, X, G, q⟩ := F
  exact (He.ba (He.ba (He.ba (He.ba (He.ba (He.ba q.more).1).1).1).1).1).2
abbrev ks_22 : List Bool := [false, false, false, false, false, false, false, false, false, false, false, false, false, false, false, false, true, false, false, false, false]
theorem kt_22 (F : Fx w K mg) (k : Nat) (b : Bool) (e : ks_22[k]? = some b) : ExcC K ((tb K).cls k) ∧ PySem.W.kitOne K (.ref ((tb K).cls k)) (.ref (He.ga K "TooMany")) = some b := by
  refine kitT_ok xs_cls (xs_all F) ?_ k b e
  obtain ⟨h, X, G, q⟩ := F
  exact (He.ba (He.ba (He.ba (He.ba (He.ba q.more).1).1).1).1).2
abbrev ks_23 : List Bool := [false, false, false, false, false, false, false, false, false, false, false, false, false, false, false, false, false, true, false, false, false]
theorem kt_23 (F : Fx w K mg) (k : Nat) (b : Bool) (e : ks_23[k]? = some b) : ExcC K ((tb K).cls k) ∧ PySem.W.kitOne K (.ref ((tb K).cls k)) (.ref (He.ga K "NothingDone")) = some b := by
  refine kitT_ok xs_cls (xs_all F) ?_ k b e
  obtain ⟨h, X, G, q⟩ := F
  exact (He.ba (He.ba (He.ba (He.ba q.more).1).1).1).2
abbrev ks_24 : List Bool := [false, false, false, false, false, false, false, false, false, false, false, false, false, false, false, false, false, false, true, false, false]
theorem kt_24 (F : Fx w K mg) (k : Nat) (b : Bool) (e : ks_24[k]? = some b) : ExcC K ((tb K).cls k) ∧ PySem.W.kitOne K (.ref ((tb K).cls k)) (.ref (He.ga K "Stale")) = some b := by
  refine kitT_ok xs_cls (xs_all F) ?_ k b e
  obtain ⟨h, X, G, q⟩ := F
  exact (He.ba (He.ba (He.ba q.more).1).1).2
abbrev ks_25 : List Bool := [false, false, false, false, false, false, false, false, false, false, false, false, false, false, false, false, false, false, false, true, false]
theorem kt_25 (F : Fx w K mg) (k : Nat) (b : Bool) (e : ks_25[k]? = some b) : ExcC K ((tb K).cls k) ∧ PySem.W.kitOne K (.ref ((tb K).cls k)) (.ref (He.ga K "Lost")) = some b := by
  refine kitT_ok xs_cls (xs_all F) ?_ k b e
  obtain ⟨h, X, G, q⟩ := F
  exact (He.ba (He.ba q.more).1).2
abbrev ks_26 : List Bool := [false, false, false, false, false, false, false, false, false, false, false, false, false, false, false, false, false, false, false, false, true]
theorem kt_26 (F : Fx w K mg) (k : Nat) (b : Bool) (e : ks_26[k]? = some b) : ExcC K ((tb K).cls k) ∧ PySem.W.kitOne K (.ref ((tb K).cls k)) (.ref (He.ga K "Unlike")) = some b := by
  refine kitT_ok xs_cls (xs_all F) ?_ k b e
  obtain ⟨h, X, G, q⟩ := F
  exact (He.ba q.more).2
theorem tbs_un (F : Fx w K mg) : ∀ z ∈ (tb K).tabs, ∀ q ∈ (tb K).tabs, z.1 = q.1 → z.2 = q.2 := tabs_un (by simp [tb, tbs, tfq, tabsB1])
theorem fd__law_bag (F : Fx w K mg) : ∃ fd, FunD K "_law_bag" "_law_bag" (defArgs (top 23)) (defBody (top 23)) (defScope (top 23)) (d__law_bag.dvs K) (d__law_bag.kws K) (He.ga K "_law_bag") fd := by
  obtain ⟨h, X, G, c⟩ := F
  exact c.t.d.def_ 0 (d := d__law_bag) rfl
theorem fd__law_take (F : Fx w K mg) : ∃ fd, FunD K "_law_take" "_law_take" (defArgs (top 24)) (defBody (top 24)) (defScope (top 24)) (d__law_take.dvs K) (d__law_take.kws K) (He.ga K "_law_take") fd := by
  obtain ⟨h, X, G, c⟩ := F
  exact c.t.d.def_ 1 (d := d__law_take) rfl
theorem fd__law_of (F : Fx w K mg) : ∃ fd, FunD K "_law_of" "_law_of" (defArgs (top 25)) (defBody (top 25)) (defScope (top 25)) (d__law_of.dvs K) (d__law_of.kws K) (He.ga K "_law_of") fd := by
  obtain ⟨h, X, G, c⟩ := F
  exact c.t.d.def_ 2 (d := d__law_of) rfl
theorem fd__law_made (F : Fx w K mg) : ∃ fd, FunD K "_law_made" "_law_made" (defArgs (top 27)) (defBody (top 27)) (defScope (top 27)) (d__law_made.dvs K) (d__law_made.kws K) (He.ga K "_law_made") fd := by
  obtain ⟨h, X, G, c⟩ := F
  exact c.t.d.def_ 3 (d := d__law_made) rfl
theorem fd__law_values (F : Fx w K mg) : ∃ fd, FunD K "_law_values" "_law_values" (defArgs (top 26)) (defBody (top 26)) (defScope (top 26)) (d__law_values.dvs K) (d__law_values.kws K) (He.ga K "_law_values") fd := by
  obtain ⟨h, X, G, c⟩ := F
  exact c.t.d.def_ 4 (d := d__law_values) rfl
theorem fd__law_under (F : Fx w K mg) : ∃ fd, FunD K "_law_under" "_law_under" (defArgs (top 28)) (defBody (top 28)) (defScope (top 28)) (d__law_under.dvs K) (d__law_under.kws K) (He.ga K "_law_under") fd := by
  obtain ⟨h, X, G, c⟩ := F
  exact c.t.d.def_ 5 (d := d__law_under) rfl
theorem fd__law_due (F : Fx w K mg) : ∃ fd, FunD K "_law_due" "_law_due" (defArgs (top 30)) (defBody (top 30)) (defScope (top 30)) (d__law_due.dvs K) (d__law_due.kws K) (He.ga K "_law_due") fd := by
  obtain ⟨h, X, G, c⟩ := F
  exact c.t.d.def_ 6 (d := d__law_due) rfl
theorem fd__law_own (F : Fx w K mg) : ∃ fd, FunD K "_law_own" "_law_own" (defArgs (top 29)) (defBody (top 29)) (defScope (top 29)) (d__law_own.dvs K) (d__law_own.kws K) (He.ga K "_law_own") fd := by
  obtain ⟨h, X, G, c⟩ := F
  exact c.t.d.def_ 7 (d := d__law_own) rfl
theorem fd_law (F : Fx w K mg) : ∃ fd, FunD K "law" "law" (defArgs (top 31)) (defBody (top 31)) (defScope (top 31)) (d_law.dvs K) (d_law.kws K) (He.ga K "law") fd := by
  obtain ⟨h, X, G, c⟩ := F
  exact c.t.d.def_ 8 (d := d_law) rfl
end
section
variable {P : Program} {w : World} {K : PySem.W.Frag} {mg : Str → Option Value} {base : Heap}
def m_l0 : M R := (mOp1 (onXf 0) (mVar 0))
def Z_l0 : Fn := runF (fun i => [0].contains i) 1 0 (sRet m_l0)
theorem lok_0 (F : Fx w K mg) (B : Bx K mg base) (c' : Addr) : LOk P w K mg base (L2.CX P w) 2 (mkL 0 c') 1 (spF (tb K) ⟨K, (tb K).cls, (tb K).fld, (tb K).tabs, (tb K).ex, (tb K).exM, (tb K).exR⟩ Z_l0 1) :=
  lam_F (N := ["_law_e"]) (ps := ["_law_e"]) (j := 0) (m := m_l0) (NdefX.nscope_by (sc := lScope lE_0) (by decide +kernel)) (fun i => [0].contains i) rfl rfl Z_l0 (fun _ _ => rfl) (fun pm ctv us hl => match us, hl with | [_], _ => rfl) fun A outer s H f E hr hu => (se_xfV (k := 0) (fun _ _ _ h => exLE_out h) (xf_BadText F) (na_BadText F) rfl (by decide) (se_var (pv 0)))
def m_l1 : M R := (mOp1 (onXf 1) (mVar 0))
def Z_l1 : Fn := runF (fun i => [0].contains i) 1 0 (sRet m_l1)
theorem lok_1 (F : Fx w K mg) (B : Bx K mg base) (c' : Addr) : LOk P w K mg base (L2.CX P w) 2 (mkL 1 c') 1 (spF (tb K) ⟨K, (tb K).cls, (tb K).fld, (tb K).tabs, (tb K).ex, (tb K).exM, (tb K).exR⟩ Z_l1 1) :=
  lam_F (N := ["_law_e"]) (ps := ["_law_e"]) (j := 0) (m := m_l1) (NdefX.nscope_by (sc := lScope lE_1) (by decide +kernel)) (fun i => [0].contains i) rfl rfl Z_l1 (fun _ _ => rfl) (fun pm ctv us hl => match us, hl with | [_], _ => rfl) fun A outer s H f E hr hu => (se_xfV (k := 1) (fun _ _ _ h => exLE_out h) (xf_BadTemplate F) (na_BadTemplate F) rfl (by decide) (se_var (pv 0)))
def m_l2 : M R := (mOp1 (onXf 2) (mVar 0))
def Z_l2 : Fn := runF (fun i => [0].contains i) 1 0 (sRet m_l2)
theorem lok_2 (F : Fx w K mg) (B : Bx K mg base) (c' : Addr) : LOk P w K mg base (L2.CX P w) 2 (mkL 2 c') 1 (spF (tb K) ⟨K, (tb K).cls, (tb K).fld, (tb K).tabs, (tb K).ex, (tb K).exM, (tb K).exR⟩ Z_l2 1) :=
  lam_F (N := ["_law_e"]) (ps := ["_law_e"]) (j := 0) (m := m_l2) (NdefX.nscope_by (sc := lScope lE_2) (by decide +kernel)) (fun i => [0].contains i) rfl rfl Z_l2 (fun _ _ => rfl) (fun pm ctv us hl => match us, hl with | [_], _ => rfl) fun A outer s H f E hr hu => (se_xfV (k := 2) (fun _ _ _ h => exLE_out h) (xf_BadFill F) (na_BadFill F) rfl (by decide) (se_var (pv 0)))
def m_l3 : M R := (mOp1 (onXf 3) (mVar 0))
def Z_l3 : Fn := runF (fun i => [0].contains i) 1 0 (sRet m_l3)
theorem lok_3 (F : Fx w K mg) (B : Bx K mg base) (c' : Addr) : LOk P w K mg base (L2.CX P w) 2 (mkL 3 c') 1 (spF (tb K) ⟨K, (tb K).cls, (tb K).fld, (tb K).tabs, (tb K).ex, (tb K).exM, (tb K).exR⟩ Z_l3 1) :=
  lam_F (N := ["_law_e"]) (ps := ["_law_e"]) (j := 0) (m := m_l3) (NdefX.nscope_by (sc := lScope lE_3) (by decide +kernel)) (fun i => [0].contains i) rfl rfl Z_l3 (fun _ _ => rfl) (fun pm ctv us hl => match us, hl with | [_], _ => rfl) fun A outer s H f E hr hu => (se_xfV (k := 3) (fun _ _ _ h => exLE_out h) (xf_BadMend F) (na_BadMend F) rfl (by decide) (se_var (pv 0)))
def m_l4 : M R := (mOp1 (onXf 4) (mVar 0))
def Z_l4 : Fn := runF (fun i => [0].contains i) 1 0 (sRet m_l4)
theorem lok_4 (F : Fx w K mg) (B : Bx K mg base) (c' : Addr) : LOk P w K mg base (L2.CX P w) 2 (mkL 4 c') 1 (spF (tb K) ⟨K, (tb K).cls, (tb K).fld, (tb K).tabs, (tb K).ex, (tb K).exM, (tb K).exR⟩ Z_l4 1) :=
  lam_F (N := ["_law_e"]) (ps := ["_law_e"]) (j := 0) (m := m_l4) (NdefX.nscope_by (sc := lScope lE_4) (by decide +kernel)) (fun i => [0].contains i) rfl rfl Z_l4 (fun _ _ => rfl) (fun pm ctv us hl => match us, hl with | [_], _ => rfl) fun A outer s H f E hr hu => (se_xfV (k := 4) (fun _ _ _ h => exLE_out h) (xf_BadWord F) (na_BadWord F) rfl (by decide) (se_var (pv 0)))
def m_l5 : M R := (mOp1 (onXf 5) (mVar 0))
def Z_l5 : Fn := runF (fun i => [0].contains i) 1 0 (sRet m_l5)
theorem lok_5 (F : Fx w K mg) (B : Bx K mg base) (c' : Addr) : LOk P w K mg base (L2.CX P w) 2 (mkL 5 c') 1 (spF (tb K) ⟨K, (tb K).cls, (tb K).fld, (tb K).tabs, (tb K).ex, (tb K).exM, (tb K).exR⟩ Z_l5 1) :=
  lam_F (N := ["_law_e"]) (ps := ["_law_e"]) (j := 0) (m := m_l5) (NdefX.nscope_by (sc := lScope lE_5) (by decide +kernel)) (fun i => [0].contains i) rfl rfl Z_l5 (fun _ _ => rfl) (fun pm ctv us hl => match us, hl with | [_], _ => rfl) fun A outer s H f E hr hu => (se_xfV (k := 5) (fun _ _ _ h => exLE_out h) (xf_BadWidth F) (na_BadWidth F) rfl (by decide) (se_var (pv 0)))
def m_l6 : M R := (mOp1 (onXf 6) (mVar 0))
def Z_l6 : Fn := runF (fun i => [0].contains i) 1 0 (sRet m_l6)
theorem lok_6 (F : Fx w K mg) (B : Bx K mg base) (c' : Addr) : LOk P w K mg base (L2.CX P w) 2 (mkL 6 c') 1 (spF (tb K) ⟨K, (tb K).cls, (tb K).fld, (tb K).tabs, (tb K).ex, (tb K).exM, (tb K).exR⟩ Z_l6 1) :=
  lam_F (N := ["_law_e"]) (ps := ["_law_e"]) (j := 0) (m := m_l6) (NdefX.nscope_by (sc := lScope lE_6) (by decide +kernel)) (fun i => [0].contains i) rfl rfl Z_l6 (fun _ _ => rfl) (fun pm ctv us hl => match us, hl with | [_], _ => rfl) fun A outer s H f E hr hu => (se_xfV (k := 6) (fun _ _ _ h => exLE_out h) (xf_BadRow F) (na_BadRow F) rfl (by decide) (se_var (pv 0)))
def m_l7 : M R := (mOp1 (onXf 7) (mVar 0))
def Z_l7 : Fn := runF (fun i => [0].contains i) 1 0 (sRet m_l7)
theorem lok_7 (F : Fx w K mg) (B : Bx K mg base) (c' : Addr) : LOk P w K mg base (L2.CX P w) 2 (mkL 7 c') 1 (spF (tb K) ⟨K, (tb K).cls, (tb K).fld, (tb K).tabs, (tb K).ex, (tb K).exM, (tb K).exR⟩ Z_l7 1) :=
  lam_F (N := ["_law_e"]) (ps := ["_law_e"]) (j := 0) (m := m_l7) (NdefX.nscope_by (sc := lScope lE_7) (by decide +kernel)) (fun i => [0].contains i) rfl rfl Z_l7 (fun _ _ => rfl) (fun pm ctv us hl => match us, hl with | [_], _ => rfl) fun A outer s H f E hr hu => (se_xfV (k := 7) (fun _ _ _ h => exLE_out h) (xf_NoLine F) (na_NoLine F) rfl (by decide) (se_var (pv 0)))
def m_l8 : M R := (mOp1 (onXf 8) (mVar 0))
def Z_l8 : Fn := runF (fun i => [0].contains i) 1 0 (sRet m_l8)
theorem lok_8 (F : Fx w K mg) (B : Bx K mg base) (c' : Addr) : LOk P w K mg base (L2.CX P w) 2 (mkL 8 c') 1 (spF (tb K) ⟨K, (tb K).cls, (tb K).fld, (tb K).tabs, (tb K).ex, (tb K).exM, (tb K).exR⟩ Z_l8 1) :=
  lam_F (N := ["_law_e"]) (ps := ["_law_e"]) (j := 0) (m := m_l8) (NdefX.nscope_by (sc := lScope lE_8) (by decide +kernel)) (fun i => [0].contains i) rfl rfl Z_l8 (fun _ _ => rfl) (fun pm ctv us hl => match us, hl with | [_], _ => rfl) fun A outer s H f E hr hu => (se_xfV (k := 8) (fun _ _ _ h => exLE_out h) (xf_NoRange F) (na_NoRange F) rfl (by decide) (se_var (pv 0)))
def m_l9 : M R := (mOp1 (onXf 9) (mVar 0))
def Z_l9 : Fn := runF (fun i => [0].contains i) 1 0 (sRet m_l9)
theorem lok_9 (F : Fx w K mg) (B : Bx K mg base) (c' : Addr) : LOk P w K mg base (L2.CX P w) 2 (mkL 9 c') 1 (spF (tb K) ⟨K, (tb K).cls, (tb K).fld, (tb K).tabs, (tb K).ex, (tb K).exM, (tb K).exR⟩ Z_l9 1) :=
  lam_F (N := ["_law_e"]) (ps := ["_law_e"]) (j := 0) (m := m_l9) (NdefX.nscope_by (sc := lScope lE_9) (by decide +kernel)) (fun i => [0].contains i) rfl rfl Z_l9 (fun _ _ => rfl) (fun pm ctv us hl => match us, hl with | [_], _ => rfl) fun A outer s H f E hr hu => (se_xfV (k := 9) (fun _ _ _ h => exLE_out h) (xf_NoPlace F) (na_NoPlace F) rfl (by decide) (se_var (pv 0)))
def m_l10 : M R := (mOp1 (onXf 10) (mVar 0))
def Z_l10 : Fn := runF (fun i => [0].contains i) 1 0 (sRet m_l10)
theorem lok_10 (F : Fx w K mg) (B : Bx K mg base) (c' : Addr) : LOk P w K mg base (L2.CX P w) 2 (mkL 10 c') 1 (spF (tb K) ⟨K, (tb K).cls, (tb K).fld, (tb K).tabs, (tb K).ex, (tb K).exM, (tb K).exR⟩ Z_l10 1) :=
  lam_F (N := ["_law_e"]) (ps := ["_law_e"]) (j := 0) (m := m_l10) (NdefX.nscope_by (sc := lScope lE_10) (by decide +kernel)) (fun i => [0].contains i) rfl rfl Z_l10 (fun _ _ => rfl) (fun pm ctv us hl => match us, hl with | [_], _ => rfl) fun A outer s H f E hr hu => (se_xfV (k := 10) (fun _ _ _ h => exLE_out h) (xf_NoContent F) (na_NoContent F) rfl (by decide) (se_var (pv 0)))
def m_l11 : M R := (mOp1 (onXf 11) (mVar 0))
def Z_l11 : Fn := runF (fun i => [0].contains i) 1 0 (sRet m_l11)
theorem lok_11 (F : Fx w K mg) (B : Bx K mg base) (c' : Addr) : LOk P w K mg base (L2.CX P w) 2 (mkL 11 c') 1 (spF (tb K) ⟨K, (tb K).cls, (tb K).fld, (tb K).tabs, (tb K).ex, (tb K).exM, (tb K).exR⟩ Z_l11 1) :=
  lam_F (N := ["_law_e"]) (ps := ["_law_e"]) (j := 0) (m := m_l11) (NdefX.nscope_by (sc := lScope lE_11) (by decide +kernel)) (fun i => [0].contains i) rfl rfl Z_l11 (fun _ _ => rfl) (fun pm ctv us hl => match us, hl with | [_], _ => rfl) fun A outer s H f E hr hu => (se_xfV (k := 11) (fun _ _ _ h => exLE_out h) (xf_NoHole F) (na_NoHole F) rfl (by decide) (se_var (pv 0)))
def m_l12 : M R := (mOp1 (onXf 12) (mVar 0))
def Z_l12 : Fn := runF (fun i => [0].contains i) 1 0 (sRet m_l12)
theorem lok_12 (F : Fx w K mg) (B : Bx K mg base) (c' : Addr) : LOk P w K mg base (L2.CX P w) 2 (mkL 12 c') 1 (spF (tb K) ⟨K, (tb K).cls, (tb K).fld, (tb K).tabs, (tb K).ex, (tb K).exM, (tb K).exR⟩ Z_l12 1) :=
  lam_F (N := ["_law_e"]) (ps := ["_law_e"]) (j := 0) (m := m_l12) (NdefX.nscope_by (sc := lScope lE_12) (by decide +kernel)) (fun i => [0].contains i) rfl rfl Z_l12 (fun _ _ => rfl) (fun pm ctv us hl => match us, hl with | [_], _ => rfl) fun A outer s H f E hr hu => (se_xfV (k := 12) (fun _ _ _ h => exLE_out h) (xf_NoName F) (na_NoName F) rfl (by decide) (se_var (pv 0)))
def m_l13 : M R := (mOp1 (onXf 13) (mVar 0))
def Z_l13 : Fn := runF (fun i => [0].contains i) 1 0 (sRet m_l13)
theorem lok_13 (F : Fx w K mg) (B : Bx K mg base) (c' : Addr) : LOk P w K mg base (L2.CX P w) 2 (mkL 13 c') 1 (spF (tb K) ⟨K, (tb K).cls, (tb K).fld, (tb K).tabs, (tb K).ex, (tb K).exM, (tb K).exR⟩ Z_l13 1) :=
  lam_F (N := ["_law_e"]) (ps := ["_law_e"]) (j := 0) (m := m_l13) (NdefX.nscope_by (sc := lScope lE_13) (by decide +kernel)) (fun i => [0].contains i) rfl rfl Z_l13 (fun _ _ => rfl) (fun pm ctv us hl => match us, hl with | [_], _ => rfl) fun A outer s H f E hr hu => (se_xfV (k := 13) (fun _ _ _ h => exLE_out h) (xf_TooLong F) (na_TooLong F) rfl (by decide) (se_var (pv 0)))
def m_l14 : M R := (mOp1 (onXf 14) (mVar 0))
def Z_l14 : Fn := runF (fun i => [0].contains i) 1 0 (sRet m_l14)
theorem lok_14 (F : Fx w K mg) (B : Bx K mg base) (c' : Addr) : LOk P w K mg base (L2.CX P w) 2 (mkL 14 c') 1 (spF (tb K) ⟨K, (tb K).cls, (tb K).fld, (tb K).tabs, (tb K).ex, (tb K).exM, (tb K).exR⟩ Z_l14 1) :=
  lam_F (N := ["_law_e"]) (ps := ["_law_e"]) (j := 0) (m := m_l14) (NdefX.nscope_by (sc := lScope lE_14) (by decide +kernel)) (fun i => [0].contains i) rfl rfl Z_l14 (fun _ _ => rfl) (fun pm ctv us hl => match us, hl with | [_], _ => rfl) fun A outer s H f E hr hu => (se_xfV (k := 14) (fun _ _ _ h => exLE_out h) (xf_TooDeep F) (na_TooDeep F) rfl (by decide) (se_var (pv 0)))
def m_l15 : M R := (mOp1 (onXf 15) (mVar 0))
def Z_l15 : Fn := runF (fun i => [0].contains i) 1 0 (sRet m_l15)
theorem lok_15 (F : Fx w K mg) (B : Bx K mg base) (c' : Addr) : LOk P w K mg base (L2.CX P w) 2 (mkL 15 c') 1 (spF (tb K) ⟨K, (tb K).cls, (tb K).fld, (tb K).tabs, (tb K).ex, (tb K).exM, (tb K).exR⟩ Z_l15 1) :=
  lam_F (N := ["_law_e"]) (ps := ["_law_e"]) (j := 0) (m := m_l15) (NdefX.nscope_by (sc := lScope lE_15) (by decide +kernel)) (fun i => [0].contains i) rfl rfl Z_l15 (fun _ _ => rfl) (fun pm ctv us hl => match us, hl with | [_], _ => rfl) fun A outer s H f E hr hu => (se_xfV (k := 15) (fun _ _ _ h => exLE_out h) (xf_TooWide F) (na_TooWide F) rfl (by decide) (se_var (pv 0)))
def m_l16 : M R := (mOp1 (onXf 16) (mVar 0))
def Z_l16 : Fn := runF (fun i => [0].contains i) 1 0 (sRet m_l16)
theorem lok_16 (F : Fx w K mg) (B : Bx K mg base) (c' : Addr) : LOk P w K mg base (L2.CX P w) 2 (mkL 16 c') 1 (spF (tb K) ⟨K, (tb K).cls, (tb K).fld, (tb K).tabs, (tb K).ex, (tb K).exM, (tb K).exR⟩ Z_l16 1) :=
  lam_F (N := ["_law_e"]) (ps := ["_law_e"]) (j := 0) (m := m_l16) (NdefX.nscope_by (sc := lScope lE_16) (by decide +kernel)) (fun i => [0].contains i) rfl rfl Z_l16 (fun _ _ => rfl) (fun pm ctv us hl => match us, hl with | [_], _ => rfl) fun A outer s H f E hr hu => (se_xfV (k := 16) (fun _ _ _ h => exLE_out h) (xf_TooMany F) (na_TooMany F) rfl (by decide) (se_var (pv 0)))
def Fs : Nat → Fn := fun n => match n with | 0 => Z_l0 | 1 => Z_l1 | 2 => Z_l2 | 3 => Z_l3 | 4 => Z_l4 | 5 => Z_l5 | 6 => Z_l6 | 7 => Z_l7 | 8 => Z_l8 | 9 => Z_l9 | 10 => Z_l10 | 11 => Z_l11 | 12 => Z_l12 | 13 => Z_l13 | 14 => Z_l14 | 15 => Z_l15 | 16 => Z_l16 | _ => nFn
theorem lok (F : Fx w K mg) (B : Bx K mg base) : ∀ n c', LOk P w K mg base (L2.CX P w) 2 (mkL n c') 1 (spF (tb K) ⟨K, (tb K).cls, (tb K).fld, (tb K).tabs, (tb K).ex, (tb K).exM, (tb K).exR⟩ (Fs n) 1)
  | 0, c' => lok_0 F B c'
  | 1, c' => lok_1 F B c'
  | 2, c' => lok_2 F B c'
  | 3, c' => lok_3 F B c'
  | 4, c' => lok_4 F B c'
  | 5, c' => lok_5 F B c'
  | 6, c' => lok_6 F B c'
  | 7, c' => lok_7 F B c'
  | 8, c' => lok_8 F B c'
  | 9, c' => lok_9 F B c'
  | 10, c' => lok_10 F B c'
  | 11, c' => lok_11 F B c'
  | 12, c' => lok_12 F B c'
  | 13, c' => lok_13 F B c'
  | 14, c' => lok_14 F B c'
  | 15, c' => lok_15 F B c'
  | 16, c' => lok_16 F B c'
  | n + 17, c' => lok_none
def N__law_bag : List Str := ["_law_script", "_law_at", "_law_cell", "_law_digits"]
def m__law_bag : MS := (sSeq (sSet 2 (mIf (mTB (mOp2 ltD (mVar 1) (mBi lenD [(mVar 0)]))) (mOp2 ixD (mVar 0) (mVar 1)) (mC (.int 0))))
  (sSeq (sSet 3 (mOp2 mulD (mBi absD [(mVar 2)]) (mBi intD [(mOp2 geD (mBi absD [(mVar 2)]) (mOp2 powD (mC (.int 10)) (mC (.int 18))))])))
  (sRet (mLst [(mVar 3), (mOp2 addD (mOp2 addD (mOp2 modD (mBi intD [(mVar 2)]) (mC (.int 2147483563))) (mOp2 mulD (mC (.int 30011)) (mVar 1))) (mC (.int 71))), (mC (.int 0))]))))
def Z__law_bag : Fn := runF (fun i => [0, 1].contains i) 2 2 m__law_bag
theorem sc__law_bag : FnScope N__law_bag ["_law_script", "_law_at"] (defScope (top 23)) := ⟨rfl, rfl, rfl, by decide +kernel, rfl, by decide +kernel, by decide +kernel⟩
theorem o__law_bag (F : Fx w K mg) (B : Bx K mg base) : ∃ fd, FunD K "_law_bag" "_law_bag" (defArgs (top 23)) (defBody (top 23)) (defScope (top 23)) (d__law_bag.dvs K) (d__law_bag.kws K) (He.ga K "_law_bag") fd ∧ FO P w K mg base (tb K) 1 (He.ga K "_law_bag") fd ["_law_script", "_law_at"] Z__law_bag 2 := by
  obtain ⟨fd, hf⟩ := fd__law_bag F
  refine ⟨fd, hf, fn_F hf sc__law_bag (fun i => [0, 1].contains i) rfl rfl _ (fun _ _ => rfl) fun cdv A outer s H E hc hci hr hu => ?_⟩
  have cdE := code_of hf hc hci
  have tk : Takes (cxOf (L2.CX P w) P w K mg base N__law_bag "_law_bag" (defScope (top 23)) (He.ga K "_law_bag") cdv A outer s H E) (fun cls d _ H => E cls d H) := takes_of rfl rfl rfl rfl
  have nd : N__law_bag.Nodup := sc__law_bag.nd
  have h52 := un52 hr
  have h9 : ∀ d v H, ¬ (tb K).ex 9 d v H := no9
  exact (sss_cons (ss_set (i := 2) rfl nd rfl (by first | exact Or.inl rfl | exact Or.inr rfl) (se_if (sb_cmp op_ltV v_lt (se_var (pv 1)) (se_bi call_lenV b_len rfl (n_len F) boot_len (sa_cons (se_var (pv 0)) sa_nil)) (nomark _)) (se_ix ix_seq v_ix (se_var (pv 0)) (se_var (pv 1)) (fun _ _ => rfl)) se_int))
  (sss_cons (ss_set (i := 3) rfl nd rfl (by first | exact Or.inl rfl | exact Or.inr rfl) (se_op op_mul v_mul (se_bi call_abs b_abs rfl (n_abs F) boot_abs (sa_cons (se_var (pv 2)) sa_nil)) (se_ti call_int1 b_int rfl (n_int F) boot_int (sa_cons (se_cmp op_ge v_ge (se_bi call_abs b_abs rfl (n_abs F) boot_abs (sa_cons (se_var (pv 2)) sa_nil)) (se_op op_pow v_pow se_int se_int) (nomark _)) sa_nil))))
  (sss_one (ss_ret (se_lst (sd_cons (se_var (pv 3)) (sd_cons (se_op op_addV v_add (se_op op_addV v_add (se_op op_mod v_mod (se_ti call_int1 b_int rfl (n_int F) boot_int (sa_cons (se_var (pv 2)) sa_nil)) se_int) (se_op op_mul v_mul se_int (se_var (pv 1)))) se_int) (sd_cons se_int sd_nil))))))))
theorem G__law_bag (F : Fx w K mg) (B : Bx K mg base) : FnG P w K mg base (tb K) "_law_bag" 1 2 Z__law_bag [] := by
  obtain ⟨fd, hf, h⟩ := o__law_bag (P := P) (base := base) F B
  exact ⟨_, fd, _, [], [], h, g__law_bag F, hf.kp, FunD.bindsN hf fun _ _ _ _ _ _ us hl => match us, hl with | [_, _], _ => rfl, .nil, fun _ => rfl⟩
def N__law_take : List Str := ["_law_bag_here", "_law_many", "_law_digit", "_law_found", "_law_reach", "_law_more"]
abbrev b__law_take_0 : MS := (sDrop (sSeq (sSto 0 (mC (.int 2)) (mOp2 addD (mOp2 ixD (mVar 0) (mC (.int 2))) (mC (.int 1))))
  (sSeq (sSto 0 (mC (.int 1)) (mOp2 modD (mBi intD [(mOp2 addD (mOp2 addD (mOp2 mulD (mOp2 ixD (mVar 0) (mC (.int 1))) (mC (.int 40014))) (mOp2 mulD (mOp2 mulD (mC (.int 7919)) (mOp2 ixD (mVar 0) (mC (.int 2)))) (mOp2 ixD (mVar 0) (mC (.int 2))))) (mC (.int 83)))]) (mC (.int 2147483563))))
  (sSeq (sSet 5 (mOp2 modD (mBi intD [(mOp2 mulD (mOp2 divWD (mOp2 ixD (mVar 0) (mC (.int 1))) (mC (.int 7))) (mOp2 addD (mOp2 divWD (mOp2 ixD (mVar 0) (mC (.int 1))) (mC (.int 131))) (mOp2 ixD (mVar 0) (mC (.int 2)))))]) (mC (.int 2147483399))))
  (sSeq (sSet 3 (mOp2 addD (mOp2 mulD (mVar 3) (mC (.int 33554432))) (mOp2 modD (mBi intD [(mOp2 divWD (mVar 5) (mC (.int 64)))]) (mC (.int 33554432)))))
  (sSet 4 (mOp2 mulD (mVar 4) (mC (.int 33554432)))))))) [5])
def m__law_take : MS := (sSeq (sDrop (sIf (mTB (mOp2 gtD (mOp2 ixD (mVar 0) (mC (.int 0))) (mC (.int 0)))) (sSeq (sSet 2 (mOp2 modD (mBi intD [(mOp2 ixD (mVar 0) (mC (.int 0)))]) (mVar 1)))
  (sSeq (sSto 0 (mC (.int 0)) (mOp2 divWD (mOp2 ixD (mVar 0) (mC (.int 0))) (mVar 1)))
  (sRet (mVar 2)))) sPass) [2])
  (sSeq (sUnp (.tp [(.nm 3), (.nm 4)]) (mTup [(mC (.int 0)), (mC (.int 1))]))
  (sSeq (sDrop (sWhile 8 (mTB (mOp2 ltD (mVar 4) (mVar 1))) b__law_take_0) [4, 5])
  (sRet (mOp2 modD (mVar 3) (mVar 1))))))
def Z__law_take : Fn := runF (fun i => [0, 1].contains i) 2 4 m__law_take
theorem sc__law_take : FnScope N__law_take ["_law_bag_here", "_law_many"] (defScope (top 24)) := ⟨rfl, rfl, rfl, by decide +kernel, rfl, by decide +kernel, by decide +kernel⟩
theorem o__law_take (F : Fx w K mg) (B : Bx K mg base) : ∃ fd, FunD K "_law_take" "_law_take" (defArgs (top 24)) (defBody (top 24)) (defScope (top 24)) (d__law_take.dvs K) (d__law_take.kws K) (He.ga K "_law_take") fd ∧ FO P w K mg base (tb K) 1 (He.ga K "_law_take") fd ["_law_bag_here", "_law_many"] Z__law_take 2 := by
  obtain ⟨fd, hf⟩ := fd__law_take F
  refine ⟨fd, hf, fn_F hf sc__law_take (fun i => [0, 1].contains i) rfl rfl _ (fun _ _ => rfl) fun cdv A outer s H E hc hci hr hu => ?_⟩
  have cdE := code_of hf hc hci
  have tk : Takes (cxOf (L2.CX P w) P w K mg base N__law_take "_law_take" (defScope (top 24)) (He.ga K "_law_take") cdv A outer s H E) (fun cls d _ H => E cls d H) := takes_of rfl rfl rfl rfl
  have nd : N__law_take.Nodup := sc__law_take.nd
  have h52 := un52 hr
  have h9 : ∀ d v H, ¬ (tb K).ex 9 d v H := no9
  exact (sss_cons (ss_drop [2] (ss_if (sb_cmp op_gtV v_gt (se_ix ix_seq v_ix (se_var (pv 0)) se_int (fun _ _ => rfl)) se_int (nomark _)) (sss_cons (ss_set (i := 2) rfl nd rfl (by first | exact Or.inl rfl | exact Or.inr rfl) (se_op op_mod v_mod (se_ti call_int1 b_int rfl (n_int F) boot_int (sa_cons (se_ix ix_seq v_ix (se_var (pv 0)) se_int (fun _ _ => rfl)) sa_nil)) (se_var (pv 1))))
  (sss_cons (ss_sto (i := 0) (pv 0) se_int (se_op op_fdivW v_divW (se_ix ix_seq v_ix (se_var (pv 0)) se_int (fun _ _ => rfl)) (se_var (pv 1))) (fun _ => rfl))
  (sss_one (ss_ret (se_var (pv 2)))))) sss_nil))
  (sss_cons (ss_unp (se_tup (sd_cons se_int (sd_cons se_int sd_nil))) (sg_tup rfl (sgs_cons (sg_name (i := 3) rfl nd rfl (by first | exact Or.inl rfl | exact Or.inr rfl)) (sgs_cons (sg_name (i := 4) rfl nd rfl (by first | exact Or.inl rfl | exact Or.inr rfl)) sgs_nil))))
  (sss_cons (ss_drop [4, 5] (ss_while 8 (passes_of rfl) (sb_cmp op_ltV v_lt (se_var (pv 4)) (se_var (pv 1)) (nomark _)) (sss_drop [5] (sss_cons (ss_sto (i := 0) (pv 0) se_int (se_op op_addV v_add (se_ix ix_seq v_ix (se_var (pv 0)) se_int (fun _ _ => rfl)) se_int) (fun _ => rfl))
  (sss_cons (ss_sto (i := 0) (pv 0) se_int (se_op op_mod v_mod (se_ti call_int1 b_int rfl (n_int F) boot_int (sa_cons (se_op op_addV v_add (se_op op_addV v_add (se_op op_mul v_mul (se_ix ix_seq v_ix (se_var (pv 0)) se_int (fun _ _ => rfl)) se_int) (se_op op_mul v_mul (se_op op_mul v_mul se_int (se_ix ix_seq v_ix (se_var (pv 0)) se_int (fun _ _ => rfl))) (se_ix ix_seq v_ix (se_var (pv 0)) se_int (fun _ _ => rfl)))) se_int) sa_nil)) se_int) (fun _ => rfl))
  (sss_cons (ss_set (i := 5) rfl nd rfl (by first | exact Or.inl rfl | exact Or.inr rfl) (se_op op_mod v_mod (se_ti call_int1 b_int rfl (n_int F) boot_int (sa_cons (se_op op_mul v_mul (se_op op_fdivW v_divW (se_ix ix_seq v_ix (se_var (pv 0)) se_int (fun _ _ => rfl)) se_int) (se_op op_addV v_add (se_op op_fdivW v_divW (se_ix ix_seq v_ix (se_var (pv 0)) se_int (fun _ _ => rfl)) se_int) (se_ix ix_seq v_ix (se_var (pv 0)) se_int (fun _ _ => rfl)))) sa_nil)) se_int))
  (sss_cons (ss_set (i := 3) rfl nd rfl (by first | exact Or.inl rfl | exact Or.inr rfl) (se_op op_addV v_add (se_op op_mul v_mul (se_var (pv 3)) se_int) (se_op op_mod v_mod (se_ti call_int1 b_int rfl (n_int F) boot_int (sa_cons (se_op op_fdivW v_divW (se_var (pv 5)) se_int) sa_nil)) se_int)))
  (sss_one (ss_set (i := 4) rfl nd rfl (by first | exact Or.inl rfl | exact Or.inr rfl) (se_op op_mul v_mul (se_var (pv 4)) se_int))))))))))
  (sss_one (ss_ret (se_op op_mod v_mod (se_var (pv 3)) (se_var (pv 1))))))))
theorem G__law_take (F : Fx w K mg) (B : Bx K mg base) : FnG P w K mg base (tb K) "_law_take" 1 2 Z__law_take [] := by
  obtain ⟨fd, hf, h⟩ := o__law_take (P := P) (base := base) F B
  exact ⟨_, fd, _, [], [], h, g__law_take F, hf.kp, FunD.bindsN hf fun _ _ _ _ _ _ us hl => match us, hl with | [_, _], _ => rfl, .nil, fun _ => rfl⟩
def N__law_of : List Str := ["_law_bag_here", "_law_some"]
def m__law_of : MS := (sRet (mOp2 ixD (mVar 1) (mCall Z__law_take [.bo, .lk] [] [(mVar 0), (mBi lenD [(mVar 1)])])))
def Z__law_of : Fn := runF (fun i => [0, 1].contains i) 2 0 m__law_of
theorem sc__law_of : FnScope N__law_of ["_law_bag_here", "_law_some"] (defScope (top 25)) := ⟨rfl, rfl, rfl, by decide +kernel, rfl, by decide +kernel, by decide +kernel⟩
theorem o__law_of (F : Fx w K mg) (B : Bx K mg base) : ∃ fd, FunD K "_law_of" "_law_of" (defArgs (top 25)) (defBody (top 25)) (defScope (top 25)) (d__law_of.dvs K) (d__law_of.kws K) (He.ga K "_law_of") fd ∧ FO P w K mg base (tb K) 2 (He.ga K "_law_of") fd ["_law_bag_here", "_law_some"] Z__law_of 2 := by
  obtain ⟨fd, hf⟩ := fd__law_of F
  refine ⟨fd, hf, fn_F hf sc__law_of (fun i => [0, 1].contains i) rfl rfl _ (fun _ _ => rfl) fun cdv A outer s H E hc hci hr hu => ?_⟩
  have cdE := code_of hf hc hci
  have tk : Takes (cxOf (L2.CX P w) P w K mg base N__law_of "_law_of" (defScope (top 25)) (He.ga K "_law_of") cdv A outer s H E) (fun cls d _ H => E cls d H) := takes_of rfl rfl rfl rfl
  have nd : N__law_of.Nodup := sc__law_of.nd
  have h52 := un52 hr
  have h9 : ∀ d v H, ¬ (tb K).ex 9 d v H := no9
  exact (sss_one (ss_ret (se_ix ix_seq v_ix (se_var (pv 1)) (se_fn (G__law_take F B) hr hu tk [.bo, .lk] (sa_cons (se_var (pv 0)) (sa_cons (se_bi call_lenV b_len rfl (n_len F) boot_len (sa_cons (se_var (pv 1)) sa_nil)) sa_nil))) (fun _ _ => rfl))))
theorem G__law_of (F : Fx w K mg) (B : Bx K mg base) : FnG P w K mg base (tb K) "_law_of" 2 2 Z__law_of [] := by
  obtain ⟨fd, hf, h⟩ := o__law_of (P := P) (base := base) F B
  exact ⟨_, fd, _, [], [], h, g__law_of F, hf.kp, FunD.bindsN hf fun _ _ _ _ _ _ us hl => match us, hl with | [_, _], _ => rfl, .nil, fun _ => rfl⟩
def N__law_made : List Str := ["_law_value", "_law_found"]
def m__law_made : MS := (sSeq (sSet 1 (mLst [(mTup [(mMkE 0 (mVar 0)), (mC (.ex 1 (.int (0 : Nat))))])]))
  (sSeq (sExp (mMut1 1 appF (mTup [(mMkE 1 (mVar 0)), (mC (.ex 1 (.int (1 : Nat))))])))
  (sSeq (sExp (mMut1 1 appF (mTup [(mMkE 2 (mVar 0)), (mC (.ex 1 (.int (2 : Nat))))])))
  (sSeq (sExp (mMut1 1 appF (mTup [(mMkE 3 (mVar 0)), (mC (.ex 1 (.int (3 : Nat))))])))
  (sSeq (sExp (mMut1 1 appF (mTup [(mMkE 4 (mVar 0)), (mC (.ex 1 (.int (4 : Nat))))])))
  (sSeq (sExp (mMut1 1 appF (mTup [(mMkE 5 (mVar 0)), (mC (.ex 1 (.int (5 : Nat))))])))
  (sSeq (sExp (mMut1 1 appF (mTup [(mMkE 6 (mVar 0)), (mC (.ex 1 (.int (6 : Nat))))])))
  (sSeq (sExp (mMut1 1 appF (mTup [(mMkE 7 (mVar 0)), (mC (.ex 1 (.int (7 : Nat))))])))
  (sSeq (sExp (mMut1 1 appF (mTup [(mMkE 8 (mVar 0)), (mC (.ex 1 (.int (8 : Nat))))])))
  (sSeq (sExp (mMut1 1 appF (mTup [(mMkE 9 (mVar 0)), (mC (.ex 1 (.int (9 : Nat))))])))
  (sSeq (sExp (mMut1 1 appF (mTup [(mMkE 10 (mVar 0)), (mC (.ex 1 (.int (10 : Nat))))])))
  (sSeq (sExp (mMut1 1 appF (mTup [(mMkE 11 (mVar 0)), (mC (.ex 1 (.int (11 : Nat))))])))
  (sSeq (sExp (mMut1 1 appF (mTup [(mMkE 12 (mVar 0)), (mC (.ex 1 (.int (12 : Nat))))])))
  (sSeq (sExp (mMut1 1 appF (mTup [(mMkE 13 (mVar 0)), (mC (.ex 1 (.int (13 : Nat))))])))
  (sSeq (sExp (mMut1 1 appF (mTup [(mMkE 14 (mVar 0)), (mC (.ex 1 (.int (14 : Nat))))])))
  (sSeq (sExp (mMut1 1 appF (mTup [(mMkE 15 (mVar 0)), (mC (.ex 1 (.int (15 : Nat))))])))
  (sSeq (sExp (mMut1 1 appF (mTup [(mMkE 16 (mVar 0)), (mC (.ex 1 (.int (16 : Nat))))])))
  (sRet (mVar 1)))))))))))))))))))
def Z__law_made : Fn := runF (fun i => [0].contains i) 1 1 m__law_made
theorem sc__law_made : FnScope N__law_made ["_law_value"] (defScope (top 27)) := ⟨rfl, rfl, rfl, by decide +kernel, rfl, by decide +kernel, by decide +kernel⟩
theorem o__law_made (F : Fx w K mg) (B : Bx K mg base) : ∃ fd, FunD K "_law_made" "_law_made" (defArgs (top 27)) (defBody (top 27)) (defScope (top 27)) (d__law_made.dvs K) (d__law_made.kws K) (He.ga K "_law_made") fd ∧ FO P w K mg base (tb K) 3 (He.ga K "_law_made") fd ["_law_value"] Z__law_made 1 := by
  obtain ⟨fd, hf⟩ := fd__law_made F
  refine ⟨fd, hf, fn_F hf sc__law_made (fun i => [0].contains i) rfl rfl _ (fun _ _ => rfl) fun cdv A outer s H E hc hci hr hu => ?_⟩
  have cdE := code_of hf hc hci
  have tk : Takes (cxOf (L2.CX P w) P w K mg base N__law_made "_law_made" (defScope (top 27)) (He.ga K "_law_made") cdv A outer s H E) (fun cls d _ H => E cls d H) := takes_of rfl rfl rfl rfl
  have nd : N__law_made.Nodup := sc__law_made.nd
  have h52 := un52 hr
  have h9 : ∀ d v H, ¬ (tb K).ex 9 d v H := no9
  exact (sss_cons (ss_set (i := 1) rfl nd rfl (by first | exact Or.inl rfl | exact Or.inr rfl) (se_lst (sd_cons (se_tup (sd_cons (se_mkE (k := 0) (fun _ _ _ h => exLE_in h) (xc_BadText F) hr rfl (se_var (pv 0))) (sd_cons (se_lam (mk := mkL) (n := 0) (q := ((He.cT K ("_law_made", none)).2, some ((("_law_made" : Str) ++ ".<locals>.") ++ "<lambda>"))) (fun _ _ _ h => exLE_of (by decide) h) (fun _ => rfl) (B _ (by decide)) (tbs_mem K (p := ("_law_made", _)) (by decide)) rfl (fun z hz e => tbs_un F z hz _ (tbs_mem K (p := ("_law_made", _)) (by decide)) e) cdE rfl rfl (by decide +kernel)) sd_nil))) sd_nil)))
  (sss_cons (ss_exp (se_mut1 (i := 1) PySem.F.slot_list_append PySem.F.type_list_append mt_append m_app (pv 1) (se_tup (sd_cons (se_mkE (k := 1) (fun _ _ _ h => exLE_in h) (xc_BadTemplate F) hr rfl (se_var (pv 0))) (sd_cons (se_lam (mk := mkL) (n := 1) (q := ((He.cT K ("_law_made", none)).2, some ((("_law_made" : Str) ++ ".<locals>.") ++ "<lambda>"))) (fun _ _ _ h => exLE_of (by decide) h) (fun _ => rfl) (B _ (by decide)) (tbs_mem K (p := ("_law_made", _)) (by decide)) rfl (fun z hz e => tbs_un F z hz _ (tbs_mem K (p := ("_law_made", _)) (by decide)) e) cdE rfl rfl (by decide +kernel)) sd_nil)))))
  (sss_cons (ss_exp (se_mut1 (i := 1) PySem.F.slot_list_append PySem.F.type_list_append mt_append m_app (pv 1) (se_tup (sd_cons (se_mkE (k := 2) (fun _ _ _ h => exLE_in h) (xc_BadFill F) hr rfl (se_var (pv 0))) (sd_cons (se_lam (mk := mkL) (n := 2) (q := ((He.cT K ("_law_made", none)).2, some ((("_law_made" : Str) ++ ".<locals>.") ++ "<lambda>"))) (fun _ _ _ h => exLE_of (by decide) h) (fun _ => rfl) (B _ (by decide)) (tbs_mem K (p := ("_law_made", _)) (by decide)) rfl (fun z hz e => tbs_un F z hz _ (tbs_mem K (p := ("_law_made", _)) (by decide)) e) cdE rfl rfl (by decide +kernel)) sd_nil)))))
  (sss_cons (ss_exp (se_mut1 (i := 1) PySem.F.slot_list_append PySem.F.type_list_append mt_append m_app (pv 1) (se_tup (sd_cons (se_mkE (k := 3) (fun _ _ _ h => exLE_in h) (xc_BadMend F) hr rfl (se_var (pv 0))) (sd_cons (se_lam (mk := mkL) (n := 3) (q := ((He.cT K ("_law_made", none)).2, some ((("_law_made" : Str) ++ ".<locals>.") ++ "<lambda>"))) (fun _ _ _ h => exLE_of (by decide) h) (fun _ => rfl) (B _ (by decide)) (tbs_mem K (p := ("_law_made", _)) (by decide)) rfl (fun z hz e => tbs_un F z hz _ (tbs_mem K (p := ("_law_made", _)) (by decide)) e) cdE rfl rfl (by decide +kernel)) sd_nil)))))
  (sss_cons (ss_exp (se_mut1 (i := 1) PySem.F.slot_list_append PySem.F.type_list_append mt_append m_app (pv 1) (se_tup (sd_cons (se_mkE (k := 4) (fun _ _ _ h => exLE_in h) (xc_BadWord F) hr rfl (se_var (pv 0))) (sd_cons (se_lam (mk := mkL) (n := 4) (q := ((He.cT K ("_law_made", none)).2, some ((("_law_made" : Str) ++ ".<locals>.") ++ "<lambda>"))) (fun _ _ _ h => exLE_of (by decide) h) (fun _ => rfl) (B _ (by decide)) (tbs_mem K (p := ("_law_made", _)) (by decide)) rfl (fun z hz e => tbs_un F z hz _ (tbs_mem K (p := ("_law_made", _)) (by decide)) e) cdE rfl rfl (by decide +kernel)) sd_nil)))))
  (sss_cons (ss_exp (se_mut1 (i := 1) PySem.F.slot_list_append PySem.F.type_list_append mt_append m_app (pv 1) (se_tup (sd_cons (se_mkE (k := 5) (fun _ _ _ h => exLE_in h) (xc_BadWidth F) hr rfl (se_var (pv 0))) (sd_cons (se_lam (mk := mkL) (n := 5) (q := ((He.cT K ("_law_made", none)).2, some ((("_law_made" : Str) ++ ".<locals>.") ++ "<lambda>"))) (fun _ _ _ h => exLE_of (by decide) h) (fun _ => rfl) (B _ (by decide)) (tbs_mem K (p := ("_law_made", _)) (by decide)) rfl (fun z hz e => tbs_un F z hz _ (tbs_mem K (p := ("_law_made", _)) (by decide)) e) cdE rfl rfl (by decide +kernel)) sd_nil)))))
  (sss_cons (ss_exp (se_mut1 (i := 1) PySem.F.slot_list_append PySem.F.type_list_append mt_append m_app (pv 1) (se_tup (sd_cons (se_mkE (k := 6) (fun _ _ _ h => exLE_in h) (xc_BadRow F) hr rfl (se_var (pv 0))) (sd_cons (se_lam (mk := mkL) (n := 6) (q := ((He.cT K ("_law_made", none)).2, some ((("_law_made" : Str) ++ ".<locals>.") ++ "<lambda>"))) (fun _ _ _ h => exLE_of (by decide) h) (fun _ => rfl) (B _ (by decide)) (tbs_mem K (p := ("_law_made", _)) (by decide)) rfl (fun z hz e => tbs_un F z hz _ (tbs_mem K (p := ("_law_made", _)) (by decide)) e) cdE rfl rfl (by decide +kernel)) sd_nil)))))
  (sss_cons (ss_exp (se_mut1 (i := 1) PySem.F.slot_list_append PySem.F.type_list_append mt_append m_app (pv 1) (se_tup (sd_cons (se_mkE (k := 7) (fun _ _ _ h => exLE_in h) (xc_NoLine F) hr rfl (se_var (pv 0))) (sd_cons (se_lam (mk := mkL) (n := 7) (q := ((He.cT K ("_law_made", none)).2, some ((("_law_made" : Str) ++ ".<locals>.") ++ "<lambda>"))) (fun _ _ _ h => exLE_of (by decide) h) (fun _ => rfl) (B _ (by decide)) (tbs_mem K (p := ("_law_made", _)) (by decide)) rfl (fun z hz e => tbs_un F z hz _ (tbs_mem K (p := ("_law_made", _)) (by decide)) e) cdE rfl rfl (by decide +kernel)) sd_nil)))))
  (sss_cons (ss_exp (se_mut1 (i := 1) PySem.F.slot_list_append PySem.F.type_list_append mt_append m_app (pv 1) (se_tup (sd_cons (se_mkE (k := 8) (fun _ _ _ h => exLE_in h) (xc_NoRange F) hr rfl (se_var (pv 0))) (sd_cons (se_lam (mk := mkL) (n := 8) (q := ((He.cT K ("_law_made", none)).2, some ((("_law_made" : Str) ++ ".<locals>.") ++ "<lambda>"))) (fun _ _ _ h => exLE_of (by decide) h) (fun _ => rfl) (B _ (by decide)) (tbs_mem K (p := ("_law_made", _)) (by decide)) rfl (fun z hz e => tbs_un F z hz _ (tbs_mem K (p := ("_law_made", _)) (by decide)) e) cdE rfl rfl (by decide +kernel)) sd_nil)))))
  (sss_cons (ss_exp (se_mut1 (i := 1) PySem.F.slot_list_append PySem.F.type_list_append mt_append m_app (pv 1) (se_tup (sd_cons (se_mkE (k := 9) (fun _ _ _ h => exLE_in h) (xc_NoPlace F) hr rfl (se_var (pv 0))) (sd_cons (se_lam (mk := mkL) (n := 9) (q := ((He.cT K ("_law_made", none)).2, some ((("_law_made" : Str) ++ ".<locals>.") ++ "<lambda>"))) (fun _ _ _ h => exLE_of (by decide) h) (fun _ => rfl) (B _ (by decide)) (tbs_mem K (p := ("_law_made", _)) (by decide)) rfl (fun z hz e => tbs_un F z hz _ (tbs_mem K (p := ("_law_made", _)) (by decide)) e) cdE rfl rfl (by decide +kernel)) sd_nil)))))
  (sss_cons (ss_exp (se_mut1 (i := 1) PySem.F.slot_list_append PySem.F.type_list_append mt_append m_app (pv 1) (se_tup (sd_cons (se_mkE (k := 10) (fun _ _ _ h => exLE_in h) (xc_NoContent F) hr rfl (se_var (pv 0))) (sd_cons (se_lam (mk := mkL) (n := 10) (q := ((He.cT K ("_law_made", none)).2, some ((("_law_made" : Str) ++ ".<locals>.") ++ "<lambda>"))) (fun _ _ _ h => exLE_of (by decide) h) (fun _ => rfl) (B _ (by decide)) (tbs_mem K (p := ("_law_made", _)) (by decide)) rfl (fun z hz e => tbs_un F z hz _ (tbs_mem K (p := ("_law_made", _)) (by decide)) e) cdE rfl rfl (by decide +kernel)) sd_nil)))))
  (sss_cons (ss_exp (se_mut1 (i := 1) PySem.F.slot_list_append PySem.F.type_list_append mt_append m_app (pv 1) (se_tup (sd_cons (se_mkE (k := 11) (fun _ _ _ h => exLE_in h) (xc_NoHole F) hr rfl (se_var (pv 0))) (sd_cons (se_lam (mk := mkL) (n := 11) (q := ((He.cT K ("_law_made", none)).2, some ((("_law_made" : Str) ++ ".<locals>.") ++ "<lambda>"))) (fun _ _ _ h => exLE_of (by decide) h) (fun _ => rfl) (B _ (by decide)) (tbs_mem K (p := ("_law_made", _)) (by decide)) rfl (fun z hz e => tbs_un F z hz _ (tbs_mem K (p := ("_law_made", _)) (by decide)) e) cdE rfl rfl (by decide +kernel)) sd_nil)))))
  (sss_cons (ss_exp (se_mut1 (i := 1) PySem.F.slot_list_append PySem.F.type_list_append mt_append m_app (pv 1) (se_tup (sd_cons (se_mkE (k := 12) (fun _ _ _ h => exLE_in h) (xc_NoName F) hr rfl (se_var (pv 0))) (sd_cons (se_lam (mk := mkL) (n := 12) (q := ((He.cT K ("_law_made", none)).2, some ((("_law_made" : Str) ++ ".<locals>.") ++ "<lambda>"))) (fun _ _ _ h => exLE_of (by decide) h) (fun _ => rfl) (B _ (by decide)) (tbs_mem K (p := ("_law_made", _)) (by decide)) rfl (fun z hz e => tbs_un F z hz _ (tbs_mem K (p := ("_law_made", _)) (by decide)) e) cdE rfl rfl (by decide +kernel)) sd_nil)))))
  (sss_cons (ss_exp (se_mut1 (i := 1) PySem.F.slot_list_append PySem.F.type_list_append mt_append m_app (pv 1) (se_tup (sd_cons (se_mkE (k := 13) (fun _ _ _ h => exLE_in h) (xc_TooLong F) hr rfl (se_var (pv 0))) (sd_cons (se_lam (mk := mkL) (n := 13) (q := ((He.cT K ("_law_made", none)).2, some ((("_law_made" : Str) ++ ".<locals>.") ++ "<lambda>"))) (fun _ _ _ h => exLE_of (by decide) h) (fun _ => rfl) (B _ (by decide)) (tbs_mem K (p := ("_law_made", _)) (by decide)) rfl (fun z hz e => tbs_un F z hz _ (tbs_mem K (p := ("_law_made", _)) (by decide)) e) cdE rfl rfl (by decide +kernel)) sd_nil)))))
  (sss_cons (ss_exp (se_mut1 (i := 1) PySem.F.slot_list_append PySem.F.type_list_append mt_append m_app (pv 1) (se_tup (sd_cons (se_mkE (k := 14) (fun _ _ _ h => exLE_in h) (xc_TooDeep F) hr rfl (se_var (pv 0))) (sd_cons (se_lam (mk := mkL) (n := 14) (q := ((He.cT K ("_law_made", none)).2, some ((("_law_made" : Str) ++ ".<locals>.") ++ "<lambda>"))) (fun _ _ _ h => exLE_of (by decide) h) (fun _ => rfl) (B _ (by decide)) (tbs_mem K (p := ("_law_made", _)) (by decide)) rfl (fun z hz e => tbs_un F z hz _ (tbs_mem K (p := ("_law_made", _)) (by decide)) e) cdE rfl rfl (by decide +kernel)) sd_nil)))))
  (sss_cons (ss_exp (se_mut1 (i := 1) PySem.F.slot_list_append PySem.F.type_list_append mt_append m_app (pv 1) (se_tup (sd_cons (se_mkE (k := 15) (fun _ _ _ h => exLE_in h) (xc_TooWide F) hr rfl (se_var (pv 0))) (sd_cons (se_lam (mk := mkL) (n := 15) (q := ((He.cT K ("_law_made", none)).2, some ((("_law_made" : Str) ++ ".<locals>.") ++ "<lambda>"))) (fun _ _ _ h => exLE_of (by decide) h) (fun _ => rfl) (B _ (by decide)) (tbs_mem K (p := ("_law_made", _)) (by decide)) rfl (fun z hz e => tbs_un F z hz _ (tbs_mem K (p := ("_law_made", _)) (by decide)) e) cdE rfl rfl (by decide +kernel)) sd_nil)))))
  (sss_cons (ss_exp (se_mut1 (i := 1) PySem.F.slot_list_append PySem.F.type_list_append mt_append m_app (pv 1) (se_tup (sd_cons (se_mkE (k := 16) (fun _ _ _ h => exLE_in h) (xc_TooMany F) hr rfl (se_var (pv 0))) (sd_cons (se_lam (mk := mkL) (n := 16) (q := ((He.cT K ("_law_made", none)).2, some ((("_law_made" : Str) ++ ".<locals>.") ++ "<lambda>"))) (fun _ _ _ h => exLE_of (by decide) h) (fun _ => rfl) (B _ (by decide)) (tbs_mem K (p := ("_law_made", _)) (by decide)) rfl (fun z hz e => tbs_un F z hz _ (tbs_mem K (p := ("_law_made", _)) (by decide)) e) cdE rfl rfl (by decide +kernel)) sd_nil)))))
  (sss_one (ss_ret (se_var (pv 1)))))))))))))))))))))
theorem G__law_made (F : Fx w K mg) (B : Bx K mg base) : FnG P w K mg base (tb K) "_law_made" 3 1 Z__law_made [] := by
  obtain ⟨fd, hf, h⟩ := o__law_made (P := P) (base := base) F B
  exact ⟨_, fd, _, [], [], h, g__law_made F, hf.kp, FunD.bindsN hf fun _ _ _ _ _ _ us hl => match us, hl with | [_], _ => rfl, .nil, fun _ => rfl⟩
def N__law_values : List Str := []
def m__law_values : MS := (sRet (mLst [(mC .non), (mC (.bl true)), (mC (.int 0)), (mOp1 negD (mC (.int 1))), (mOp2 powD (mC (.int 10)) (mC (.int 30))), (mC (.str [])), (mC (.str [119, 104, 111])), (mTup [(mC (.int 0)), (mC (.int 5))]), (mLst [(mC (.int 1)), (mLst [(mC (.int 2))])]), (mDct [(.s [97], (mC (.int 1)))]), (mTup [(mC (.str [109, 97, 114, 107])), (mC (.int 3)), (mC (.str [43]))])]))
def Z__law_values : Fn := runF (fun i => [].contains i) 0 0 m__law_values
theorem sc__law_values : FnScope N__law_values [] (defScope (top 26)) := ⟨rfl, rfl, rfl, by decide +kernel, rfl, by decide +kernel, by decide +kernel⟩
theorem o__law_values (F : Fx w K mg) (B : Bx K mg base) : ∃ fd, FunD K "_law_values" "_law_values" (defArgs (top 26)) (defBody (top 26)) (defScope (top 26)) (d__law_values.dvs K) (d__law_values.kws K) (He.ga K "_law_values") fd ∧ FO P w K mg base (tb K) 1 (He.ga K "_law_values") fd [] Z__law_values 0 := by
  obtain ⟨fd, hf⟩ := fd__law_values F
  refine ⟨fd, hf, fn_F hf sc__law_values (fun i => [].contains i) rfl rfl _ (fun _ _ => rfl) fun cdv A outer s H E hc hci hr hu => ?_⟩
  have cdE := code_of hf hc hci
  have tk : Takes (cxOf (L2.CX P w) P w K mg base N__law_values "_law_values" (defScope (top 26)) (He.ga K "_law_values") cdv A outer s H E) (fun cls d _ H => E cls d H) := takes_of rfl rfl rfl rfl
  have nd : N__law_values.Nodup := sc__law_values.nd
  have h52 := un52 hr
  have h9 : ∀ d v H, ¬ (tb K).ex 9 d v H := no9
  exact (sss_one (ss_ret (se_lst (sd_cons se_non (sd_cons se_bl (sd_cons se_int (sd_cons (se_un un_neg v_neg se_int) (sd_cons (se_op op_pow v_pow se_int se_int) (sd_cons (se_str (l := [])) (sd_cons (se_str (l := [119, 104, 111])) (sd_cons (se_tup (sd_cons se_int (sd_cons se_int sd_nil))) (sd_cons (se_lst (sd_cons se_int (sd_cons (se_lst (sd_cons se_int sd_nil)) sd_nil))) (sd_cons (se_dct (sdc_cons (k := .s [97]) pe_str se_int sdc_nil)) (sd_cons (se_tup (sd_cons (se_str (l := [109, 97, 114, 107])) (sd_cons se_int (sd_cons (se_str (l := [43])) sd_nil)))) sd_nil))))))))))))))
theorem G__law_values (F : Fx w K mg) (B : Bx K mg base) : FnG P w K mg base (tb K) "_law_values" 1 0 Z__law_values [] := by
  obtain ⟨fd, hf, h⟩ := o__law_values (P := P) (base := base) F B
  exact ⟨_, fd, _, [], [], h, g__law_values F, hf.kp, FunD.bindsN hf fun _ _ _ _ _ _ us hl => match us, hl with | [], _ => rfl, .nil, fun _ => rfl⟩
def N__law_under : List Str := ["_law_e", "_law_told"]
def m__law_under : MS := (sSeq (sSet 1 (mLst [(mOp1 (onIsE fun k => ks_0[k]?) (mVar 0)), (mOp1 (onIsE fun k => ks_1[k]?) (mVar 0)), (mOp1 (onIsE fun k => ks_2[k]?) (mVar 0))]))
  (sRet (mOl2 catL (mVar 1) (mLst [(mOp1 (onIsE fun k => ks_3[k]?) (mVar 0)), (mOp1 (onIsE fun k => ks_4[k]?) (mVar 0)), (mOp1 (onIsE fun k => ks_5[k]?) (mVar 0))]))))
def Z__law_under : Fn := runF (fun i => [0].contains i) 1 1 m__law_under
theorem sc__law_under : FnScope N__law_under ["_law_e"] (defScope (top 28)) := ⟨rfl, rfl, rfl, by decide +kernel, rfl, by decide +kernel, by decide +kernel⟩
theorem o__law_under (F : Fx w K mg) (B : Bx K mg base) : ∃ fd, FunD K "_law_under" "_law_under" (defArgs (top 28)) (defBody (top 28)) (defScope (top 28)) (d__law_under.dvs K) (d__law_under.kws K) (He.ga K "_law_under") fd ∧ FO P w K mg base (tb K) 1 (He.ga K "_law_under") fd ["_law_e"] Z__law_under 1 := by
  obtain ⟨fd, hf⟩ := fd__law_under F
  refine ⟨fd, hf, fn_F hf sc__law_under (fun i => [0].contains i) rfl rfl _ (fun _ _ => rfl) fun cdv A outer s H E hc hci hr hu => ?_⟩
  have cdE := code_of hf hc hci
  have tk : Takes (cxOf (L2.CX P w) P w K mg base N__law_under "_law_under" (defScope (top 28)) (He.ga K "_law_under") cdv A outer s H E) (fun cls d _ H => E cls d H) := takes_of rfl rfl rfl rfl
  have nd : N__law_under.Nodup := sc__law_under.nd
  have h52 := un52 hr
  have h9 : ∀ d v H, ¬ (tb K).ex 9 d v H := no9
  exact (sss_cons (ss_set (i := 1) rfl nd rfl (by first | exact Or.inl rfl | exact Or.inr rfl) (se_lst (sd_cons (se_isV (is := fun k => ks_0[k]?) (fun _ _ _ h => exLE_out h) rfl rfl (n_isinstance F) (se_var (pv 0)) (pe_bltn (v := .ty "ValueError") rfl (n_ValueError F) boot_VE rfl (by decide) (by decide)) (fun _ e => e) (kt_0 F)) (sd_cons (se_isV (is := fun k => ks_1[k]?) (fun _ _ _ h => exLE_out h) rfl rfl (n_isinstance F) (se_var (pv 0)) (pe_bltn (v := .ty "KeyError") rfl (n_KeyError F) boot_KE rfl (by decide) (by decide)) (fun _ e => e) (kt_1 F)) (sd_cons (se_isV (is := fun k => ks_2[k]?) (fun _ _ _ h => exLE_out h) rfl rfl (n_isinstance F) (se_var (pv 0)) (pe_bltn (v := .ty "OverflowError") rfl (n_OverflowError F) boot_OE rfl (by decide) (by decide)) (fun _ e => e) (kt_2 F)) sd_nil)))))
  (sss_one (ss_ret (se_opL op_catR v_cat (se_var (pv 1)) (se_lst (sd_cons (se_isV (is := fun k => ks_3[k]?) (fun _ _ _ h => exLE_out h) rfl rfl (n_isinstance F) (se_var (pv 0)) (pe_bltn (v := .ty "RuntimeError") rfl (n_RuntimeError F) boot_RE rfl (by decide) (by decide)) (fun _ e => e) (kt_3 F)) (sd_cons (se_isV (is := fun k => ks_4[k]?) (fun _ _ _ h => exLE_out h) rfl rfl (n_isinstance F) (se_var (pv 0)) (pe_bltn (v := .ty "LookupError") rfl (n_LookupError F) boot_LE rfl (by decide) (by decide)) (fun _ e => e) (kt_4 F)) (sd_cons (se_isV (is := fun k => ks_5[k]?) (fun _ _ _ h => exLE_out h) rfl rfl (n_isinstance F) (se_var (pv 0)) (pe_bltn (v := .ty "IndexError") rfl (n_IndexError F) boot_IE rfl (by decide) (by decide)) (fun _ e => e) (kt_5 F)) sd_nil))))))))
theorem G__law_under (F : Fx w K mg) (B : Bx K mg base) : FnG P w K mg base (tb K) "_law_under" 1 1 Z__law_under [] := by
  obtain ⟨fd, hf, h⟩ := o__law_under (P := P) (base := base) F B
  exact ⟨_, fd, _, [], [], h, g__law_under F, hf.kp, FunD.bindsN hf fun _ _ _ _ _ _ us hl => match us, hl with | [_], _ => rfl, .nil, fun _ => rfl⟩
def N__law_due : List Str := ["_law_at"]
def m__law_due : MS := (sSeq (sIf (mTB (mOp2 ltD (mVar 0) (mC (.int 7)))) (sRet (mLst [(mC (.bl true)), (mC (.bl false)), (mC (.bl false)), (mC (.bl false)), (mC (.bl false)), (mC (.bl false))])) sPass)
  (sSeq (sIf (mTB (mOp2 ltD (mVar 0) (mC (.int 11)))) (sRet (mLst [(mC (.bl false)), (mC (.bl false)), (mC (.bl false)), (mC (.bl false)), (mC (.bl true)), (mC (.bl false))])) sPass)
  (sSeq (sIf (mTB (mOp2 ltD (mVar 0) (mC (.int 13)))) (sRet (mLst [(mC (.bl false)), (mC (.bl true)), (mC (.bl false)), (mC (.bl false)), (mC (.bl true)), (mC (.bl false))])) sPass)
  (sRet (mIf (mTB (mOp2 ltD (mVar 0) (mC (.int 17)))) (mLst [(mC (.bl false)), (mC (.bl false)), (mC (.bl true)), (mC (.bl false)), (mC (.bl false)), (mC (.bl false))]) (mLst [(mC (.bl false)), (mC (.bl false)), (mC (.bl false)), (mC (.bl true)), (mC (.bl false)), (mC (.bl false))]))))))
def Z__law_due : Fn := runF (fun i => [0].contains i) 1 0 m__law_due
theorem sc__law_due : FnScope N__law_due ["_law_at"] (defScope (top 30)) := ⟨rfl, rfl, rfl, by decide +kernel, rfl, by decide +kernel, by decide +kernel⟩
theorem o__law_due (F : Fx w K mg) (B : Bx K mg base) : ∃ fd, FunD K "_law_due" "_law_due" (defArgs (top 30)) (defBody (top 30)) (defScope (top 30)) (d__law_due.dvs K) (d__law_due.kws K) (He.ga K "_law_due") fd ∧ FO P w K mg base (tb K) 1 (He.ga K "_law_due") fd ["_law_at"] Z__law_due 1 := by
  obtain ⟨fd, hf⟩ := fd__law_due F
  refine ⟨fd, hf, fn_F hf sc__law_due (fun i => [0].contains i) rfl rfl _ (fun _ _ => rfl) fun cdv A outer s H E hc hci hr hu => ?_⟩
  have cdE := code_of hf hc hci
  have tk : Takes (cxOf (L2.CX P w) P w K mg base N__law_due "_law_due" (defScope (top 30)) (He.ga K "_law_due") cdv A outer s H E) (fun cls d _ H => E cls d H) := takes_of rfl rfl rfl rfl
  have nd : N__law_due.Nodup := sc__law_due.nd
  have h52 := un52 hr
  have h9 : ∀ d v H, ¬ (tb K).ex 9 d v H := no9
  exact (sss_cons (ss_if (sb_cmp op_ltV v_lt (se_var (pv 0)) se_int (nomark _)) (sss_one (ss_ret (se_lst (sd_cons se_bl (sd_cons se_bl (sd_cons se_bl (sd_cons se_bl (sd_cons se_bl (sd_cons se_bl sd_nil))))))))) sss_nil)
  (sss_cons (ss_if (sb_cmp op_ltV v_lt (se_var (pv 0)) se_int (nomark _)) (sss_one (ss_ret (se_lst (sd_cons se_bl (sd_cons se_bl (sd_cons se_bl (sd_cons se_bl (sd_cons se_bl (sd_cons se_bl sd_nil))))))))) sss_nil)
  (sss_cons (ss_if (sb_cmp op_ltV v_lt (se_var (pv 0)) se_int (nomark _)) (sss_one (ss_ret (se_lst (sd_cons se_bl (sd_cons se_bl (sd_cons se_bl (sd_cons se_bl (sd_cons se_bl (sd_cons se_bl sd_nil))))))))) sss_nil)
  (sss_one (ss_ret (se_if (sb_cmp op_ltV v_lt (se_var (pv 0)) se_int (nomark _)) (se_lst (sd_cons se_bl (sd_cons se_bl (sd_cons se_bl (sd_cons se_bl (sd_cons se_bl (sd_cons se_bl sd_nil))))))) (se_lst (sd_cons se_bl (sd_cons se_bl (sd_cons se_bl (sd_cons se_bl (sd_cons se_bl (sd_cons se_bl sd_nil)))))))))))))
theorem G__law_due (F : Fx w K mg) (B : Bx K mg base) : FnG P w K mg base (tb K) "_law_due" 1 1 Z__law_due [] := by
  obtain ⟨fd, hf, h⟩ := o__law_due (P := P) (base := base) F B
  exact ⟨_, fd, _, [], [], h, g__law_due F, hf.kp, FunD.bindsN hf fun _ _ _ _ _ _ us hl => match us, hl with | [_], _ => rfl, .nil, fun _ => rfl⟩
def N__law_own : List Str := ["_law_e", "_law_told"]
def m__law_own : MS := (sSeq (sSet 1 (mLst [(mOp1 (onIsE fun k => ks_6[k]?) (mVar 0)), (mOp1 (onIsE fun k => ks_7[k]?) (mVar 0)), (mOp1 (onIsE fun k => ks_8[k]?) (mVar 0)), (mOp1 (onIsE fun k => ks_9[k]?) (mVar 0))]))
  (sSeq (sSet 1 (mOl2 catL (mVar 1) (mLst [(mOp1 (onIsE fun k => ks_10[k]?) (mVar 0)), (mOp1 (onIsE fun k => ks_11[k]?) (mVar 0)), (mOp1 (onIsE fun k => ks_12[k]?) (mVar 0)), (mOp1 (onIsE fun k => ks_13[k]?) (mVar 0))])))
  (sSeq (sSet 1 (mOl2 catL (mVar 1) (mLst [(mOp1 (onIsE fun k => ks_14[k]?) (mVar 0)), (mOp1 (onIsE fun k => ks_15[k]?) (mVar 0)), (mOp1 (onIsE fun k => ks_16[k]?) (mVar 0)), (mOp1 (onIsE fun k => ks_17[k]?) (mVar 0))])))
  (sSeq (sSet 1 (mOl2 catL (mVar 1) (mLst [(mOp1 (onIsE fun k => ks_18[k]?) (mVar 0)), (mOp1 (onIsE fun k => ks_19[k]?) (mVar 0)), (mOp1 (onIsE fun k => ks_20[k]?) (mVar 0)), (mOp1 (onIsE fun k => ks_21[k]?) (mVar 0))])))
  (sSeq (sSet 1 (mOl2 catL (mVar 1) (mLst [(mOp1 (onIsE fun k => ks_22[k]?) (mVar 0)), (mOp1 (onIsE fun k => ks_23[k]?) (mVar 0)), (mOp1 (onIsE fun k => ks_24[k]?) (mVar 0)), (mOp1 (onIsE fun k => ks_25[k]?) (mVar 0))])))
  (sRet (mOl2 catL (mVar 1) (mLst [(mOp1 (onIsE fun k => ks_26[k]?) (mVar 0))]))))))))
def Z__law_own : Fn := runF (fun i => [0].contains i) 1 1 m__law_own
theorem sc__law_own : FnScope N__law_own ["_law_e"] (defScope (top 29)) := ⟨rfl, rfl, rfl, by decide +kernel, rfl, by decide +kernel, by decide +kernel⟩
theorem o__law_own (F : Fx w K mg) (B : Bx K mg base) : ∃ fd, FunD K "_law_own" "_law_own" (defArgs (top 29)) (defBody (top 29)) (defScope (top 29)) (d__law_own.dvs K) (d__law_own.kws K) (He.ga K "_law_own") fd ∧ FO P w K mg base (tb K) 1 (He.ga K "_law_own") fd ["_law_e"] Z__law_own 1 := by
  obtain ⟨fd, hf⟩ := fd__law_own F
  refine ⟨fd, hf, fn_F hf sc__law_own (fun i => [0].contains i) rfl rfl _ (fun _ _ => rfl) fun cdv A outer s H E hc hci hr hu => ?_⟩
  have cdE := code_of hf hc hci
  have tk : Takes (cxOf (L2.CX P w) P w K mg base N__law_own "_law_own" (defScope (top 29)) (He.ga K "_law_own") cdv A outer s H E) (fun cls d _ H => E cls d H) := takes_of rfl rfl rfl rfl
  have nd : N__law_own.Nodup := sc__law_own.nd
  have h52 := un52 hr
  have h9 : ∀ d v H, ¬ (tb K).ex 9 d v H := no9
  exact (sss_cons (ss_set (i := 1) rfl nd rfl (by first | exact Or.inl rfl | exact Or.inr rfl) (se_lst (sd_cons (se_isV (is := fun k => ks_6[k]?) (fun _ _ _ h => exLE_out h) rfl rfl (n_isinstance F) (se_var (pv 0)) (pe_glob (v := .ref (He.ga _ "BadText")) rfl (g_BadText F) rfl) (fun _ e => e) (kt_6 F)) (sd_cons (se_isV (is := fun k => ks_7[k]?) (fun _ _ _ h => exLE_out h) rfl rfl (n_isinstance F) (se_var (pv 0)) (pe_glob (v := .ref (He.ga _ "BadTemplate")) rfl (g_BadTemplate F) rfl) (fun _ e => e) (kt_7 F)) (sd_cons (se_isV (is := fun k => ks_8[k]?) (fun _ _ _ h => exLE_out h) rfl rfl (n_isinstance F) (se_var (pv 0)) (pe_glob (v := .ref (He.ga _ "BadFill")) rfl (g_BadFill F) rfl) (fun _ e => e) (kt_8 F)) (sd_cons (se_isV (is := fun k => ks_9[k]?) (fun _ _ _ h => exLE_out h) rfl rfl (n_isinstance F) (se_var (pv 0)) (pe_glob (v := .ref (He.ga _ "BadMend")) rfl (g_BadMend F) rfl) (fun _ e => e) (kt_9 F)) sd_nil))))))
  (sss_cons (ss_set (i := 1) rfl nd rfl (by first | exact Or.inl rfl | exact Or.inr rfl) (se_opL op_catR v_cat (se_var (pv 1)) (se_lst (sd_cons (se_isV (is := fun k => ks_10[k]?) (fun _ _ _ h => exLE_out h) rfl rfl (n_isinstance F) (se_var (pv 0)) (pe_glob (v := .ref (He.ga _ "BadWord")) rfl (g_BadWord F) rfl) (fun _ e => e) (kt_10 F)) (sd_cons (se_isV (is := fun k => ks_11[k]?) (fun _ _ _ h => exLE_out h) rfl rfl (n_isinstance F) (se_var (pv 0)) (pe_glob (v := .ref (He.ga _ "BadWidth")) rfl (g_BadWidth F) rfl) (fun _ e => e) (kt_11 F)) (sd_cons (se_isV (is := fun k => ks_12[k]?) (fun _ _ _ h => exLE_out h) rfl rfl (n_isinstance F) (se_var (pv 0)) (pe_glob (v := .ref (He.ga _ "BadRow")) rfl (g_BadRow F) rfl) (fun _ e => e) (kt_12 F)) (sd_cons (se_isV (is := fun k => ks_13[k]?) (fun _ _ _ h => exLE_out h) rfl rfl (n_isinstance F) (se_var (pv 0)) (pe_glob (v := .ref (He.ga _ "NoLine")) rfl (g_NoLine F) rfl) (fun _ e => e) (kt_13 F)) sd_nil)))))))
  (sss_cons (ss_set (i := 1) rfl nd rfl (by first | exact Or.inl rfl | exact Or.inr rfl) (se_opL op_catR v_cat (se_var (pv 1)) (se_lst (sd_cons (se_isV (is := fun k => ks_14[k]?) (fun _ _ _ h => exLE_out h) rfl rfl (n_isinstance F) (se_var (pv 0)) (pe_glob (v := .ref (He.ga _ "NoRange")) rfl (g_NoRange F) rfl) (fun _ e => e) (kt_14 F)) (sd_cons (se_isV (is := fun k => ks_15[k]?) (fun _ _ _ h => exLE_out h) rfl rfl (n_isinstance F) (se_var (pv 0)) (pe_glob (v := .ref (He.ga _ "NoPlace")) rfl (g_NoPlace F) rfl) (fun _ e => e) (kt_15 F)) (sd_cons (se_isV (is := fun k => ks_16[k]?) (fun _ _ _ h => exLE_out h) rfl rfl (n_isinstance F) (se_var (pv 0)) (pe_glob (v := .ref (He.ga _ "NoContent")) rfl (g_NoContent F) rfl) (fun _ e => e) (kt_16 F)) (sd_cons (se_isV (is := fun k => ks_17[k]?) (fun _ _ _ h => exLE_out h) rfl rfl (n_isinstance F) (se_var (pv 0)) (pe_glob (v := .ref (He.ga _ "NoHole")) rfl (g_NoHole F) rfl) (fun _ e => e) (kt_17 F)) sd_nil)))))))
  (sss_cons (ss_set (i := 1) rfl nd rfl (by first | exact Or.inl rfl | exact Or.inr rfl) (se_opL op_catR v_cat (se_var (pv 1)) (se_lst (sd_cons (se_isV (is := fun k => ks_18[k]?) (fun _ _ _ h => exLE_out h) rfl rfl (n_isinstance F) (se_var (pv 0)) (pe_glob (v := .ref (He.ga _ "NoName")) rfl (g_NoName F) rfl) (fun _ e => e) (kt_18 F)) (sd_cons (se_isV (is := fun k => ks_19[k]?) (fun _ _ _ h => exLE_out h) rfl rfl (n_isinstance F) (se_var (pv 0)) (pe_glob (v := .ref (He.ga _ "TooLong")) rfl (g_TooLong F) rfl) (fun _ e => e) (kt_19 F)) (sd_cons (se_isV (is := fun k => ks_20[k]?) (fun _ _ _ h => exLE_out h) rfl rfl (n_isinstance F) (se_var (pv 0)) (pe_glob (v := .ref (He.ga _ "TooDeep")) rfl (g_TooDeep F) rfl) (fun _ e => e) (kt_20 F)) (sd_cons (se_isV (is := fun k => ks_21[k]?) (fun _ _ _ h => exLE_out h) rfl rfl (n_isinstance F) (se_var (pv 0)) (pe_glob (v := .ref (He.ga _ "TooWide")) rfl (g_TooWide F) rfl) (fun _ e => e) (kt_21 F)) sd_nil)))))))
  (sss_cons (ss_set (i := 1) rfl nd rfl (by first | exact Or.inl rfl | exact Or.inr rfl) (se_opL op_catR v_cat (se_var (pv 1)) (se_lst (sd_cons (se_isV (is := fun k => ks_22[k]?) (fun _ _ _ h => exLE_out h) rfl rfl (n_isinstance F) (se_var (pv 0)) (pe_glob (v := .ref (He.ga _ "TooMany")) rfl (g_TooMany F) rfl) (fun _ e => e) (kt_22 F)) (sd_cons (se_isV (is := fun k => ks_23[k]?) (fun _ _ _ h => exLE_out h) rfl rfl (n_isinstance F) (se_var (pv 0)) (pe_glob (v := .ref (He.ga _ "NothingDone")) rfl (g_NothingDone F) rfl) (fun _ e => e) (kt_23 F)) (sd_cons (se_isV (is := fun k => ks_24[k]?) (fun _ _ _ h => exLE_out h) rfl rfl (n_isinstance F) (se_var (pv 0)) (pe_glob (v := .ref (He.ga _ "Stale")) rfl (g_Stale F) rfl) (fun _ e => e) (kt_24 F)) (sd_cons (se_isV (is := fun k => ks_25[k]?) (fun _ _ _ h => exLE_out h) rfl rfl (n_isinstance F) (se_var (pv 0)) (pe_glob (v := .ref (He.ga _ "Lost")) rfl (g_Lost F) rfl) (fun _ e => e) (kt_25 F)) sd_nil)))))))
  (sss_one (ss_ret (se_opL op_catR v_cat (se_var (pv 1)) (se_lst (sd_cons (se_isV (is := fun k => ks_26[k]?) (fun _ _ _ h => exLE_out h) rfl rfl (n_isinstance F) (se_var (pv 0)) (pe_glob (v := .ref (He.ga _ "Unlike")) rfl (g_Unlike F) rfl) (fun _ e => e) (kt_26 F)) sd_nil))))))))))
theorem G__law_own (F : Fx w K mg) (B : Bx K mg base) : FnG P w K mg base (tb K) "_law_own" 1 1 Z__law_own [] := by
  obtain ⟨fd, hf, h⟩ := o__law_own (P := P) (base := base) F B
  exact ⟨_, fd, _, [], [], h, g__law_own F, hf.kp, FunD.bindsN hf fun _ _ _ _ _ _ us hl => match us, hl with | [_], _ => rfl, .nil, fun _ => rfl⟩
def N_law : List Str := ["_law_script", "_law_at", "_law_bag_here", "_law_value", "_law_made_here", "_law_every", "_law_k", "_law_e", "_law_told", "_law_place"]
abbrev b_law_0 : MS := (sDrop (sIf (mOr (mTB (mOp2 neD (mCall Z__law_under [] [] [(mVar 7)]) (mCall Z__law_due [] [] [(mVar 6)]))) (mTB (mOp2 neD (mCall Z__law_own [] [] [(mVar 7)]) (mLc [9] (.nm 9) (mIt itR1 (mC (.int 21))) mYes (mOp2 eqD (mVar 9) (mVar 6)))))) (sRet (mC (.bl false))) sPass) [6, 7])
abbrev b_law_1 : MS := (sDrop (sSeq (sSet 2 (mCall Z__law_bag [] [] [(mVar 0), (mVar 1)]))
  (sSeq (sSet 3 (mCall Z__law_of [.bo, .lk] [] [(mVar 2), (mOl2 catL (mCall Z__law_values [] [] []) (mLst [(mCall Z__law_take [.bo, .lk] [] [(mVar 2), (mOp2 powD (mC (.int 10)) (mC (.int 40)))]), (mOp2 repS (mC (.str [120])) (mCall Z__law_take [.bo, .lk] [] [(mVar 2), (mC (.int 300))]))]))]))
  (sSeq (sSet 4 (mCall Z__law_made [] [] [(mVar 3)]))
  (sSeq (sIf (mTB (mOp2 neD (mLc [7, 8] (.tp [(.nm 7), (.nm 8)]) (mIt itL (mVar 4)) mYes (mBi reprZ [(mCallV 8 Fs [(mVar 7)])])) (mOl2 repL (mLst [(mBi reprZ [(mVar 3)])]) (mC (.int 17))))) (sRet (mC (.bl false))) sPass)
  (sSeq (sSet 5 (mOl2 catL (mLc [7, 8] (.tp [(.nm 7), (.nm 8)]) (mIt itL (mVar 4)) mYes (mVar 7)) (mLst [(mMkE0 17), (mMkE0 18), (mMkE0 19), (mMkE0 20)])))
  (sDrop (sFor (.tp [(.nm 6), (.nm 7)]) (mIt itEL (mVar 5)) b_law_0) [6, 7])))))) [1, 2, 3, 4, 5, 6, 7])
def m_law : MS := (sSeq (sDrop (sFor (.nm 1) (mIt itR1 (mBi max2D [(mC (.int 2)), (mBi min2D [(mC (.int 4)), (mBi lenD [(mVar 0)])])])) b_law_1) [1, 2, 3, 4, 5, 6, 7])
  (sRet (mC (.bl true))))
def Z_law : Fn := runF (fun i => [0].contains i) 1 9 m_law
theorem sc_law : FnScope N_law ["_law_script"] (defScope (top 31)) := ⟨rfl, rfl, rfl, by decide +kernel, rfl, by decide +kernel, by decide +kernel⟩
theorem o_law (F : Fx w K mg) (B : Bx K mg base) : ∃ fd, FunD K "law" "law" (defArgs (top 31)) (defBody (top 31)) (defScope (top 31)) (d_law.dvs K) (d_law.kws K) (He.ga K "law") fd ∧ FO P w K mg base (tb K) 4 (He.ga K "law") fd ["_law_script"] Z_law 1 := by
  obtain ⟨fd, hf⟩ := fd_law F
  refine ⟨fd, hf, fn_F hf sc_law (fun i => [0].contains i) rfl rfl _ (fun _ _ => rfl) fun cdv A outer s H E hc hci hr hu => ?_⟩
  have cdE := code_of hf hc hci
  have tk : Takes (cxOf (L2.CX P w) P w K mg base N_law "law" (defScope (top 31)) (He.ga K "law") cdv A outer s H E) (fun cls d _ H => E cls d H) := takes_of rfl rfl rfl rfl
  have nd : N_law.Nodup := sc_law.nd
  have h52 := un52 hr
  have h9 : ∀ d v H, ¬ (tb K).ex 9 d v H := no9
  exact (sss_cons (ss_drop [1, 2, 3, 4, 5, 6, 7] (ss_for (passes_of rfl) rfl (si_rng1 rfl (n_range F) (se_bi (call_max2 rfl) b_max2 rfl (n_max F) boot_max (sa_cons se_int (sa_cons (se_bi (call_min2 rfl) b_min2 rfl (n_min F) boot_min (sa_cons se_int (sa_cons (se_bi call_lenV b_len rfl (n_len F) boot_len (sa_cons (se_var (pv 0)) sa_nil)) sa_nil))) sa_nil)))) (sg_name (i := 1) rfl nd rfl (by first | exact Or.inl rfl | exact Or.inr rfl)) (sss_drop [1, 2, 3, 4, 5, 6, 7] (sss_cons (ss_set (i := 2) rfl nd rfl (by first | exact Or.inl rfl | exact Or.inr rfl) (se_fn (G__law_bag F B) hr hu tk [] (sa_cons (se_var (pv 0)) (sa_cons (se_var (pv 1)) sa_nil))))
  (sss_cons (ss_set (i := 3) rfl nd rfl (by first | exact Or.inl rfl | exact Or.inr rfl) (se_fn (G__law_of F B) hr hu tk [.bo, .lk] (sa_cons (se_var (pv 2)) (sa_cons (se_opL op_catR v_cat (se_fn0 (G__law_values F B) hr hu tk) (se_lst (sd_cons (se_fn (G__law_take F B) hr hu tk [.bo, .lk] (sa_cons (se_var (pv 2)) (sa_cons (se_op op_pow v_pow se_int se_int) sa_nil))) (sd_cons (se_op op_repS v_repS (se_str (l := [120])) (se_fn (G__law_take F B) hr hu tk [.bo, .lk] (sa_cons (se_var (pv 2)) (sa_cons se_int sa_nil)))) sd_nil)))) sa_nil))))
  (sss_cons (ss_set (i := 4) rfl nd rfl (by first | exact Or.inl rfl | exact Or.inr rfl) (se_fn (G__law_made F B) hr hu tk [] (sa_cons (se_var (pv 3)) sa_nil)))
  (sss_cons (ss_if (sb_cmp (op_neP hr.units) v_ne (se_lc (own := [("_law_e", 7), ("_law_told", 8)]) rfl nd (si_list (se_var (pv 4))) (blkOk_by (own := [("_law_e", 7), ("_law_told", 8)]) (N := N_law) (sc := defScope (top 31)) (by decide +kernel)) (fun _ _ _ _ _ => (sg_tup rfl (sgs_cons (sg_name (i := 7) rfl nd rfl (by first | exact Or.inl rfl | exact Or.inr rfl)) (sgs_cons (sg_name (i := 8) rfl nd rfl (by first | exact Or.inl rfl | exact Or.inr rfl)) sgs_nil)))) (fun _ _ _ _ _ => sts_nil) (fun _ _ _ _ _ => (se_bi (call_reprZ hu h52) b_reprZ rfl (n_repr F) boot_repr (sa_cons (se_callL (mk := mkL) (Fs := Fs) (ar := 1) (i := 8) (fun _ _ _ h => exLE_un (by decide) h) (lok F B) hr hu no_takes rfl (.inl rfl) (sa_cons (se_var (pv 7)) sa_nil)) sa_nil)))) (se_opL op_repR v_rep (se_lst (sd_cons (se_bi (call_reprZ hu h52) b_reprZ rfl (n_repr F) boot_repr (sa_cons (se_var (pv 3)) sa_nil)) sd_nil)) se_int) (nomark _)) (sss_one (ss_ret se_bl)) sss_nil)
  (sss_cons (ss_set (i := 5) rfl nd rfl (by first | exact Or.inl rfl | exact Or.inr rfl) (se_opL op_catR v_cat (se_lc (own := [("_law_e", 7), ("_law_told", 8)]) rfl nd (si_list (se_var (pv 4))) (blkOk_by (own := [("_law_e", 7), ("_law_told", 8)]) (N := N_law) (sc := defScope (top 31)) (by decide +kernel)) (fun _ _ _ _ _ => (sg_tup rfl (sgs_cons (sg_name (i := 7) rfl nd rfl (by first | exact Or.inl rfl | exact Or.inr rfl)) (sgs_cons (sg_name (i := 8) rfl nd rfl (by first | exact Or.inl rfl | exact Or.inr rfl)) sgs_nil)))) (fun _ _ _ _ _ => sts_nil) (fun _ _ _ _ _ => (se_var (pv 7)))) (se_lst (sd_cons (se_mkE0 (k := 17) (fun _ _ _ h => exLE_in h) (xc_NothingDone F) hr rfl) (sd_cons (se_mkE0 (k := 18) (fun _ _ _ h => exLE_in h) (xc_Stale F) hr rfl) (sd_cons (se_mkE0 (k := 19) (fun _ _ _ h => exLE_in h) (xc_Lost F) hr rfl) (sd_cons (se_mkE0 (k := 20) (fun _ _ _ h => exLE_in h) (xc_Unlike F) hr rfl) sd_nil)))))))
  (sss_one (ss_drop [6, 7] (ss_for (passes_of rfl) rfl (si_enumL rfl (n_enumerate F) (se_var (pv 5))) (sg_tup rfl (sgs_cons (sg_name (i := 6) rfl nd rfl (by first | exact Or.inl rfl | exact Or.inr rfl)) (sgs_cons (sg_name (i := 7) rfl nd rfl (by first | exact Or.inl rfl | exact Or.inr rfl)) sgs_nil))) (sss_drop [6, 7] (sss_one (ss_if (sw_pt (sw_or (sb_cmp (op_neP hr.units) v_ne (se_fn (G__law_under F B) hr hu tk [] (sa_cons (se_var (pv 7)) sa_nil)) (se_fn (G__law_due F B) hr hu tk [] (sa_cons (se_var (pv 6)) sa_nil)) (nomark _)) (sw_or1 (sb_cmp (op_neP hr.units) v_ne (se_fn (G__law_own F B) hr hu tk [] (sa_cons (se_var (pv 7)) sa_nil)) (se_lc (own := [("_law_place", 9)]) rfl nd (si_rng1 rfl (n_range F) se_int) (blkOk_by (own := [("_law_place", 9)]) (N := N_law) (sc := defScope (top 31)) (by decide +kernel)) (fun _ _ _ _ _ => (sg_name (i := 9) rfl nd rfl (by first | exact Or.inl rfl | exact Or.inr rfl))) (fun _ _ _ _ _ => sts_nil) (fun _ _ _ _ _ => (se_cmp (op_eqP hr.units) v_eq (se_var (pv 9)) (se_var (pv 6)) (nomark _)))) (nomark _))))) (sss_one (ss_ret se_bl)) sss_nil))))))))))))))
  (sss_one (ss_ret se_bl)))
end
end F
end

section
set_option linter.all false
set_option autoImplicit false
set_option maxRecDepth 100000
/-! running plain defs: loops, comprehensions -/
namespace F
theorem for_cons {t : Tg} {body : MS} {d : F.D} {ds : List F.D} {e e1 e2 : Env} (h1 : t.put d e = some e1) (h2 : body e1 = .nx e2) : forL t body (d :: ds) e = forL t body ds e2 := by simp only [forL, h1, h2]
/-- one turn of a comprehension -/
def lcOne (own : List Nat) (t : Tg) (c : M Bool) (v : M F.R) (d : F.D) (e : Env) : Option (Option F.D × Env) := match t.put d e with
  | some e1 => (match c e1 with
    | .ok true e2 => (match v e2 with
      | .ok r e3 => (match leak r e3 with
        | .ok x e4 => some (some x, wipeE e4 own)
        | _ => none)
      | _ => none)
    | .ok false e2 => some (none, wipeE e2 own)
    | _ => none)
  | none => none
theorem lc_eq {own : List Nat} {t : Tg} {c : M Bool} {v : M F.R} {d : F.D} {ds acc : List F.D} {e e' : Env} {o : Option F.D} (h : lcOne own t c v d e = some (o, e')) : lcL own t c v (d :: ds) acc e = lcL own t c v ds (acc ++ o.toList) e' := by
  unfold lcOne at h
  conv => lhs; unfold lcL
  cases h1 : t.put d e with
  | none => rw [h1] at h; cases h
  | some e1 =>
    rw [h1] at h
    dsimp only at h ⊢
    cases h2 : c e1 with
    | ok b e2 =>
      rw [h2] at h
      cases b with
      | true =>
        dsimp only at h ⊢
        cases h3 : v e2 with
        | ok r e3 =>
          rw [h3] at h
          dsimp only at h ⊢
          cases h4 : leak r e3 with
          | ok x e4 =>
            rw [h4] at h
            cases h
            rfl
          | ex => rw [h4] at h; cases h
          | bad => rw [h4] at h; cases h
        | ex => rw [h3] at h; cases h
        | bad => rw [h3] at h; cases h
      | false =>
        cases h
        show lcL own t c v ds acc _ = _
        rw [show (none : Option F.D).toList = [] from rfl, List.append_nil]
    | ex => rw [h2] at h; cases h
    | bad => rw [h2] at h; cases h
theorem lc_fm {α : Type} {enc : α → F.D} {own : List Nat} {t : Tg} {c : M Bool} {v : M F.R} {e : Env} {f : α → Option F.D} : ∀ {as : List α} {acc : List F.D}, (∀ a ∈ as, lcOne own t c v (enc a) e = some (f a, e)) → lcL own t c v (as.map enc) acc e = .ok (acc ++ as.filterMap f) e
  | [], acc, _ => by simp [lcL]
  | a :: as, acc, h => by
    rw [List.map_cons, lc_eq (h a (List.mem_cons_self ..)), lc_fm fun b hb => h b (List.mem_cons_of_mem _ hb), List.filterMap_cons]
    cases f a <;> simp
/-- .. every item kept -/
theorem lc_map {α : Type} {enc : α → F.D} {own : List Nat} {t : Tg} {c : M Bool} {v : M F.R} {e : Env} {f : α → F.D} {as : List α} {acc : List F.D} (h : ∀ a ∈ as, lcOne own t c v (enc a) e = some (some (f a), e)) : lcL own t c v (as.map enc) acc e = .ok (acc ++ as.map f) e := by
  rw [lc_fm (f := fun a => some (f a)) h]
  simp
theorem mlc_map {α : Type} {enc : α → F.D} {own : List Nat} {t : Tg} {it : M (List F.D)} {c : M Bool} {v : M F.R} {e e1 : Env} {as : List α} {f : α → F.D} (hi : it e = .ok (as.map enc) e1) (hl : as.length ≤ F.lim) (h : ∀ a ∈ as, lcOne own t c v (enc a) (wipeE e1 own) = some (some (f a), wipeE e1 own)) :
    mLc own t it c v e = .ok (.ow (.fl (as.map f))) (unwipe e1 (wipeE e1 own) own) := by
  simp only [mLc, hi, andThen, List.length_map, if_pos hl, lc_map h, lcEnd, List.nil_append]
/-! items -/
theorem rngF_map (lo : Int) : ∀ n, rngF lo n = (List.range n).map fun i => F.D.int (lo + (i : Nat))
  | 0 => rfl
  | n + 1 => by
    rw [List.range_succ_eq_map]
    simp only [rngF, List.map_cons, List.map_map, rngF_map (lo + 1) n]
    congr 1
    · simp
    · apply List.map_congr_left
      intro i _
      simp only [Function.comp_apply]
      congr 1
      omega
mutual
theorem eqB_refl : ∀ d : F.D, d.pl = true → eqB d d = true
  | .non, _ => rfl
  | .bl b, _ => by simp [eqB]
  | .int i, _ => by simp [eqB]
  | .str x, _ => by simp [eqB]
  | .tup l, h => eqBs_refl l h
  | .lst l, h => eqBs_refl l h
  | .dct _, h => by cases h
  | .obj _ _, h => by cases h
  | .ex _ _, h => by cases h
theorem eqBs_refl : ∀ l : List F.D, pls l = true → eqBs l l = true
  | [], _ => rfl
  | d :: l, h => by
    have h : (d.pl && pls l) = true := h
    rw [Bool.and_eq_true] at h
    show (eqB d d && eqBs l l) = true
    rw [eqB_refl d h.1, eqBs_refl l h.2]
    rfl
end
theorem ne_refl {d : F.D} (h : d.pl = true) (h2 : d.dp ≤ 50) : neD d d = some (.bl false) := by
  unfold neD cmpOk
  rw [h, decide_eq_true h2, eqB_refl d h]
  rfl
theorem getI_nat {α : Type} {l : List α} {r : Int} (h0 : 0 ≤ r) (h1 : r < l.length) : ∃ c, c ∈ l ∧ getI l r = some c := by
  have hr : r.toNat < l.length := by omega
  refine ⟨l[r.toNat], List.getElem_mem hr, ?_⟩
  unfold getI ixI
  rw [if_pos h0, if_pos h1]
  show l[r.toNat]? = _
  rw [List.getElem?_eq_getElem hr]
end F
end

section
set_option linter.all false
set_option autoImplicit false
set_option maxRecDepth 100000
/-! facts for running plain defs, for every law -/
namespace F
theorem int_int (i : Int) : intD [.int i] = some (.int i) := rfl
theorem int_bl (b : Bool) : intD [.bl b] = some (.int (if b then 1 else 0)) := rfl
theorem add_int (i j : Int) : addD (.int i) (.int j) = some (.int (i + j)) := rfl
theorem mod_ok (i j : Int) (h : 0 < j) : modD (.int i) (.int j) = some (.int (i % j)) := if_pos h
theorem mulOk_r (i j : Int) (h : -18446744073709551616 < j) (h2 : j < 18446744073709551616) : mulD (.int i) (.int j) = some (.int (i * j)) := if_pos (by simp [mulOk, h, h2])
theorem mulOk_l (i j : Int) (h : -18446744073709551616 < i) (h2 : i < 18446744073709551616) : mulD (.int i) (.int j) = some (.int (i * j)) := if_pos (by simp [mulOk, h, h2])
theorem lt_int (i j : Int) : ltD (.int i) (.int j) = some (.bl (decide (i < j))) := rfl
theorem gt_int (i j : Int) : gtD (.int i) (.int j) = some (.bl (decide (j < i))) := rfl
theorem ge_int (i j : Int) : geD (.int i) (.int j) = some (.bl (decide (j ≤ i))) := rfl
theorem abs_int (i : Int) : absD [.int i] = some (.int (if i < 0 then -i else i)) := rfl
theorem pow18 : powD (.int 10) (.int 18) = some (.int 1000000000000000000) := by rfl
theorem max_int (i j : Int) : max2D [.int i, .int j] = some (.int (if j > i then j else i)) := rfl
theorem min_int (i j : Int) : min2D [.int i, .int j] = some (.int (if j < i then j else i)) := rfl
theorem len_lst (l : List F.D) : lenD [.lst l] = some (.int (l.length : Nat)) := rfl
end F
end

section
set_option linter.all false
set_option autoImplicit false
set_option maxRecDepth 100000
set_option maxHeartbeats 2000000
/-! k01: draws -/
namespace F
local macro_rules | `(tactic| simp_arith [$ls,*] $[$loc]?) => `(tactic| simp only [runF, gdO, finR, endF, allO, sSeq, sSet, setR, sOf, leak, mNextS, andThen, mVar, mC, slot, peek, peeks, nrm, O.pk, O.frz, mIf, mTB, mTru, mAnd, mOr, mNot, mOp1, mOp2, mOl1, mOl2, mTup, mLst, mLks, mDct, mDvs, mBi, mBl, mRs, mSm0, mSm1, mSl, mSlL, mPt, mIt, mItZ, zipR, mCall, asArgs, asArg, back, ofRes, mergeO, ofO, ofOS, sIf, sRet, sRetN, sPass, sExp, sAug, sUnp, sPar, sAsg2, sSto, sBrk, sCnt, sFor, sDrop, sMatch, mtL, mOs, setAll, sPut, mItK, mMut0, mMut1, wipeE, unwipe, lcEnd, mLc, mYes, mItS, mItR, mChain, mStar, mLstD, sSlSto, mCallV, mGet2, zipS, mBad, sBad, mNotV, mAndV, mOrV, Tg.put, putAll, List.map_cons, List.map_nil, List.replicate, List.cons_append, List.nil_append, List.getElem?_cons_zero, List.getElem?_cons_succ, Option.bind_some, List.set_cons_zero, List.set_cons_succ, List.take_succ_cons, List.take_zero, List.headD_cons, List.headD_nil, List.tail_cons, List.tail_nil, Option.map_some, Option.map_none, if_true, if_false, Bool.false_eq_true, ite_true, ite_false, Bool.not_true, Bool.not_false, Bool.true_and, Bool.false_and, List.contains, List.elem, List.append_nil, List.length_cons, List.length_nil, Nat.zero_add, Nat.reduceAdd, Nat.reduceLeDiff, lim, Nat.reduceBEq, beq_self_eq_true, Bool.and_self, $ls,*] $[$loc]?)
abbrev bh (a m k : Int) : O := .fl [.int a, .int m, .int k]
theorem bx0 (a m k : Int) : ixD (.lst [.int a, .int m, .int k]) (.int 0) = some (.int a) := rfl
theorem bx1 (a m k : Int) : ixD (.lst [.int a, .int m, .int k]) (.int 1) = some (.int m) := rfl
theorem bx2 (a m k : Int) : ixD (.lst [.int a, .int m, .int k]) (.int 2) = some (.int k) := rfl
theorem ixI30 : ixI 3 0 = some 0 := rfl
theorem ixI31 : ixI 3 1 = some 1 := rfl
theorem ixI32 : ixI 3 2 = some 2 := rfl
theorem lset0 {α : Type} (a b c d : α) : [a, b, c].set 0 d = [d, b, c] := rfl
theorem lset1 {α : Type} (a b c d : α) : [a, b, c].set 1 d = [a, d, c] := rfl
theorem lset2 {α : Type} (a b c d : α) : [a, b, c].set 2 d = [a, b, d] := rfl
abbrev tE (n a m k f r : Int) : Env := [some (bh a m k), some (.sh (.int n)), none, some (.sh (.int f)), some (.sh (.int r)), none]
theorem step (n a m k f r : Int) (h0 : 0 ≤ k) (h1 : k ≤ 1000000) : ∃ m1 f1, b__law_take_0 (tE n a m k f r) = .nx (tE n a m1 (k + 1) f1 (r * 33554432)) := by
  have e0 := add_int k 1
  have e1 := mulOk_r m 40014 (by decide) (by decide)
  have e2 := mulOk_l 7919 (k + 1) (by decide) (by decide)
  have e3 := mulOk_r (7919 * (k + 1)) (k + 1) (by omega) (by omega)
  have e4 := add_int (m * 40014) (7919 * (k + 1) * (k + 1))
  have e5 := add_int (m * 40014 + 7919 * (k + 1) * (k + 1)) 83
  have e6 := mod_ok (m * 40014 + 7919 * (k + 1) * (k + 1) + 83) 2147483563 (by decide)
  have b1 := Int.emod_nonneg (m * 40014 + 7919 * (k + 1) * (k + 1) + 83) (show (2147483563 : Int) ≠ 0 by decide)
  have b2 := Int.emod_lt_of_pos (m * 40014 + 7919 * (k + 1) * (k + 1) + 83) (show (0 : Int) < 2147483563 by decide)
  generalize m * 40014 = x1 at *
  generalize 7919 * (k + 1) = x2 at *
  generalize x2 * (k + 1) = x3 at *
  generalize x1 + x3 = x4 at *
  generalize x4 + 83 = x5 at *
  generalize x5 % 2147483563 = m1 at *
  have g1 := divW_ok m1 7 (by decide) (by decide)
  have g2 := divW_ok m1 131 (by decide) (by decide)
  have g3 := add_int (m1 / 131) (k + 1)
  have g4 := mulOk_r (m1 / 7) (m1 / 131 + (k + 1)) (by omega) (by omega)
  have g5 := mod_ok (m1 / 7 * (m1 / 131 + (k + 1))) 2147483399 (by decide)
  have g6 := mulOk_r f 33554432 (by decide) (by decide)
  generalize m1 / 7 * (m1 / 131 + (k + 1)) % 2147483399 = y at *
  have g7 := divW_ok y 64 (by decide) (by decide)
  have g8 := mod_ok (y / 64) 33554432 (by decide)
  have g9 := add_int (f * 33554432) (y / 64 % 33554432)
  have g10 := mulOk_r r 33554432 (by decide) (by decide)
  refine ⟨m1, f * 33554432 + y / 64 % 33554432, ?_⟩
  generalize m1 / 7 * (m1 / 131 + (k + 1)) = y1 at *
  generalize m1 / 131 = y2 at *
  generalize m1 / 7 = y3 at *
  generalize y / 64 = y4 at *
  generalize y4 % 33554432 = y5 at *
  generalize y2 + (k + 1) = y6 at *
  generalize k + 1 = k1 at *
  simp_arith [b__law_take_0, tE, bh, bx0, bx1, bx2, ixI31, ixI32, lset1, lset2, int_int, e0, e1, e2, e3, e4, e5, e6, g1, g2, g3, g4, g5, g6, g7, g8, g9, g10]
theorem loop (n a : Int) : ∀ (t : Nat) (m k f r : Int), 0 ≤ k → k + t ≤ 1000000 → 0 < r → n ≤ r * 33554432 ^ t →
    ∃ m' k' f' r', whL (mTB (mOp2 ltD (mVar 4) (mVar 1))) b__law_take_0 (t + 1) (tE n a m k f r) = .nx (tE n a m' k' f' r') ∧ 0 ≤ k' ∧ k' ≤ k + t
  | t, m, k, f, r, h0, h1, h2, h3 => by
    have l := lt_int r n
    by_cases z : r < n
    · cases t with
      | zero => simp at h3; omega
      | succ t =>
        rw [decide_eq_true z] at l
        have c : mTB (mOp2 ltD (mVar 4) (mVar 1)) (tE n a m k f r) = .ok true (tE n a m k f r) := by simp_arith [tE, l]
        obtain ⟨m1, f1, s⟩ := step n a m k f r h0 (by omega)
        obtain ⟨m', k', f', r', w, b1, b2⟩ := loop n a t m1 (k + 1) f1 (r * 33554432) (by omega) (by push_cast at h1 ⊢; omega) (by omega) (by rw [Int.pow_succ] at h3; rw [Int.mul_assoc, Int.mul_comm 33554432]; exact h3)
        refine ⟨m', k', f', r', ?_, b1, by push_cast at b2 ⊢; omega⟩
        show (match mTB (mOp2 ltD (mVar 4) (mVar 1)) (tE n a m k f r) with | .ok true e1 => _ | .ok false e1 => _ | .ex k p e1 => _ | .bad => _) = _
        rw [c]
        show (match b__law_take_0 (tE n a m k f r) with | .nx e2 => whL (mTB (mOp2 ltD (mVar 4) (mVar 1))) b__law_take_0 (t + 1) e2 | .ct e2 => whL (mTB (mOp2 ltD (mVar 4) (mVar 1))) b__law_take_0 (t + 1) e2 | .bk e2 => .nx e2 | r => r) = _
        rw [s]
        exact w
    · rw [decide_eq_false z] at l
      have c : mTB (mOp2 ltD (mVar 4) (mVar 1)) (tE n a m k f r) = .ok false (tE n a m k f r) := by simp_arith [tE, l]
      refine ⟨m, k, f, r, ?_, h0, by omega⟩
      show (match mTB (mOp2 ltD (mVar 4) (mVar 1)) (tE n a m k f r) with | .ok true e1 => _ | .ok false e1 => _ | .ex k p e1 => _ | .bad => _) = _
      rw [c]
theorem z_take (a m k n : Int) (h0 : 0 < n) (h1 : n ≤ 10000000000000000000000000000000000000000) (k0 : 0 ≤ k) (k1 : k ≤ 1000) : ∃ a' m' k' r, Z__law_take [bh a m k, .sh (.int n)] = .rt (.sh (.int r)) [bh a' m' k', .sh (.int n)] ∧ 0 ≤ r ∧ r < n ∧ 0 ≤ k' ∧ k' ≤ k + 7 := by
  have g := gt_int a 0
  by_cases ha : 0 < a
  · rw [decide_eq_true ha] at g
    refine ⟨a / n, m, k, a % n, ?_, Int.emod_nonneg _ (by omega), Int.emod_lt_of_pos _ h0, k0, by omega⟩
    have e1 := mod_ok a n h0
    have e2 := divW_ok a n h0 (by omega)
    generalize a % n = r at *
    generalize a / n = q at *
    simp_arith [Z__law_take, m__law_take, bh, bx0, g, int_int, e1, e2, ixI30, lset0]
  · rw [decide_eq_false ha] at g
    have big : (1 : Int) * 33554432 ^ 7 = 47890485652059026823698344598447161988085597568237568 := by decide +kernel
    obtain ⟨m', k', f', r', w, b1, b2⟩ := loop n a 7 m k 0 1 k0 (by omega) (by decide) (by rw [big]; omega)
    refine ⟨a, m', k', f' % n, ?_, Int.emod_nonneg _ (by omega), Int.emod_lt_of_pos _ h0, b1, b2⟩
    have e1 := mod_ok f' n h0
    generalize f' % n = r at *
    simp only [tE, bh] at w
    simp_arith [Z__law_take, m__law_take, bh, sWhile, bx0, g, int_int, e1, w]
end F
end

section
set_option linter.all false
set_option autoImplicit false
set_option maxRecDepth 100000
set_option maxHeartbeats 2000000
/-! k01: values, errors -/
namespace F
local macro_rules | `(tactic| simp_arith [$ls,*] $[$loc]?) => `(tactic| simp only [runF, gdO, finR, endF, allO, sSeq, sSet, setR, sOf, leak, mNextS, andThen, mVar, mC, slot, peek, peeks, nrm, O.pk, O.frz, mIf, mTB, mTru, mAnd, mOr, mNot, mOp1, mOp2, mOl1, mOl2, mTup, mLst, mLks, mDct, mDvs, mBi, mBl, mRs, mSm0, mSm1, mSl, mSlL, mPt, mIt, mItZ, zipR, mCall, asArgs, asArg, back, ofRes, mergeO, ofO, ofOS, sIf, sRet, sRetN, sPass, sExp, sAug, sUnp, sPar, sAsg2, sSto, sBrk, sCnt, sFor, sDrop, sMatch, mtL, mOs, setAll, sPut, mItK, mMut0, mMut1, wipeE, unwipe, lcEnd, mLc, mYes, mItS, mItR, mChain, mStar, mLstD, sSlSto, mCallV, mGet2, zipS, mBad, sBad, mNotV, mAndV, mOrV, Tg.put, putAll, List.map_cons, List.map_nil, List.replicate, List.cons_append, List.nil_append, List.getElem?_cons_zero, List.getElem?_cons_succ, Option.bind_some, List.set_cons_zero, List.set_cons_succ, List.take_succ_cons, List.take_zero, List.headD_cons, List.headD_nil, List.tail_cons, List.tail_nil, Option.map_some, Option.map_none, if_true, if_false, Bool.false_eq_true, ite_true, ite_false, Bool.not_true, Bool.not_false, Bool.true_and, Bool.false_and, List.contains, List.elem, List.append_nil, List.length_cons, List.length_nil, Nat.zero_add, Nat.reduceAdd, Nat.reduceLeDiff, lim, Nat.reduceBEq, beq_self_eq_true, Bool.and_self, $ls,*] $[$loc]?)
open PySem
def vals : List F.D := [.non, .bl true, .int 0, .int (-1), .int 1000000000000000000000000000000, .str [], .str [119, 104, 111], .tup [.int 0, .int 5], .lst [.int 1, .lst [.int 2]], .dct [(.s [97], .int 1)], .tup [.str [109, 97, 114, 107], .int 3, .str [43]]]
theorem z_values : Z__law_values [] = .rt (.fl vals) [] := by kernel_rfl
/-- what is asked of a value -/
def rOk (d : F.D) : Bool := d.exs (fun _ => false) && (match reprZ [d] with | some (.str _) => true | _ => false)
theorem rOk_of {d : F.D} (h : rOk d = true) : d.exs (fun _ => false) = true ∧ ∃ s, reprZ [d] = some (.str s) := by
  obtain ⟨h1, h2⟩ := bAnd h
  refine ⟨h1, ?_⟩
  split at h2
  · exact ⟨_, by assumption⟩
  · cases h2
theorem vals_ok : vals.all rOk = true := by decide +kernel
theorem str_ok (x : List Nat) (hl : x.length ≤ 1000) (hc : ∀ c ∈ x, c < 16 ^ 8) : rOk (.str x) = true := by
  have hs : (PyData.str (sS x)).shown.cps.toList.length ≤ 10002 := by
    rw [PyData.shown_str]
    have b := StrLaws.reprText_len (sS x) (by simpa [sS] using hc)
    have e1 : (sS x).length = x.length := by simp [sS, Str.length]
    have e2 : (reprText (sS x)).cps.toList.length = (reprText (sS x)).length := by simp [Str.length]
    rw [e2]
    rw [e1] at b
    omega
  have q : reprZ [.str x] = some (.str (PyData.str (sS x)).shown.cps.toList) := if_pos ⟨rfl, by simp [PyData.showable], by simp [PyData.depth], Nat.le_trans hs (by decide)⟩
  show (true && _) = true
  rw [q]
  rfl
theorem int_ok (r : Int) (h0 : 0 ≤ r) (h1 : r < 10000000000000000000000000000000000000000) : rOk (.int r) = true := by
  have hs : (PyData.int r).shown.cps.toList.length ≤ 40 := by
    rw [PyData.shown_int]
    obtain ⟨n, rfl⟩ := Int.eq_ofNat_of_zero_le h0
    have e : ((toString (n : Int) : String) : Str).cps.toList.length = (Nat.toDigits 10 n).length := by
      show (Str.ofString (toString (Int.ofNat n))).cps.toList.length = _
      rw [PyProof.Rows.text_ofNat]
      simp
    rw [e]
    have p : (10 : Nat) ^ 40 = 10000000000000000000000000000000000000000 := by decide +kernel
    exact (Nat.length_toDigits_le_iff (by decide) (by decide)).mpr (by rw [p]; omega)
  have sh : (PyData.int r).showable = true := by
    have : r.natAbs.log2 < 1920 := by
      have b : r.natAbs < 2 ^ 200 := by
        have p : (2 : Nat) ^ 200 = 1606938044258990275541962092341162602522202993782792835301376 := by decide +kernel
        rw [p]
        omega
      by_cases z : r.natAbs = 0
      · rw [z]; decide
      · have := (Nat.log2_lt z).mpr b
        omega
    simpa [PyData.showable] using this
  have q : reprZ [.int r] = some (.str (PyData.int r).shown.cps.toList) := if_pos ⟨rfl, sh, by simp [PyData.depth], Nat.le_trans hs (by decide)⟩
  show (true && _) = true
  rw [q]
  rfl
/-! ### errors -/
def er (k : Nat) (v : F.D) : F.D := .ex 15 (.tup [.int (k : Nat), v])
def mades (v : F.D) : List F.D := (List.range 17).map fun k => .tup [er k v, .ex 1 (.int (k : Nat))]
theorem z_made (v : F.D) (h : v.exs (fun _ => false) = true) : Z__law_made [.sh v] = .rt (.fl (mades v)) [.sh v] := by
  have mk : ∀ (k : Nat) (e1 : Option O), mMkE k (mVar 0) [some (.sh v), e1] = .ok (.d (er k v)) [some (.sh v), e1] := fun k e1 => by
    show (if v.exs (fun _ => false) = true then Rs.ok (R.d (er k v)) [some (.sh v), e1] else .bad) = _
    rw [if_pos h]
  have ap : ∀ (k : Nat) (l : List F.D), l.length < 100 → (sExp (mMut1 1 appF (mTup [(mMkE k (mVar 0)), (mC (.ex 1 (.int (k : Nat))))]))) [some (.sh v), some (.fl l)] = .nx [some (.sh v), some (.fl (l ++ [.tup [er k v, .ex 1 (.int (k : Nat))]]))] := fun k l hl => by
    have a : appF l (.tup [er k v, .ex 1 (.int (k : Nat))]) = some (.non, l ++ [.tup [er k v, .ex 1 (.int (k : Nat))]]) := if_pos (show l.length < lim by unfold lim; omega)
    have mk := mk k (some (.fl l))
    generalize er k v = E at *
    simp_arith [mk, a]
  have st : (sSet 1 (mLst [(mTup [(mMkE 0 (mVar 0)), (mC (.ex 1 (.int (0 : Nat))))])])) [some (.sh v), none] = .nx [some (.sh v), some (.fl [.tup [er 0 v, .ex 1 (.int (0 : Nat))]])] := by
    simp_arith [mk]
  have body : m__law_made [some (.sh v), none] = .rt (.fl (mades v)) [some (.sh v), none] := by
    unfold m__law_made
    simp only [sSeq, st]
    repeat (rw [ap]; simp only [List.cons_append, List.nil_append])
    kernel_rfl
    all_goals simp
  generalize mades v = ms at *
  simp_arith [Z__law_made, body]
theorem fs_ok (v : F.D) : ∀ k < 17, Fs k [.sh (er k v)] = .rt (.sh v) [.sh (er k v)] := fun k hk => by
  match k, hk with
  | 0, _ => kernel_rfl
  | 1, _ => kernel_rfl
  | 2, _ => kernel_rfl
  | 3, _ => kernel_rfl
  | 4, _ => kernel_rfl
  | 5, _ => kernel_rfl
  | 6, _ => kernel_rfl
  | 7, _ => kernel_rfl
  | 8, _ => kernel_rfl
  | 9, _ => kernel_rfl
  | 10, _ => kernel_rfl
  | 11, _ => kernel_rfl
  | 12, _ => kernel_rfl
  | 13, _ => kernel_rfl
  | 14, _ => kernel_rfl
  | 15, _ => kernel_rfl
  | 16, _ => kernel_rfl
  | n + 17, h => exact absurd h (by omega)
/-! ### the classes -/
def pay (k : Nat) (v : F.D) : F.D := if k < 17 then v else .non
theorem cls_turn (v : F.D) (e0 e1 e2 e3 e4 e5 e8 : Option O) : ∀ k < 21, b_law_0 [e0, e1, e2, e3, e4, e5, some (.sh (.int (k : Nat))), some (.sh (er k v)), e8, none] = .nx [e0, e1, e2, e3, e4, e5, none, none, e8, none] := fun k hk => by
  match k, hk with
  | 0, _ => kernel_rfl
  | 1, _ => kernel_rfl
  | 2, _ => kernel_rfl
  | 3, _ => kernel_rfl
  | 4, _ => kernel_rfl
  | 5, _ => kernel_rfl
  | 6, _ => kernel_rfl
  | 7, _ => kernel_rfl
  | 8, _ => kernel_rfl
  | 9, _ => kernel_rfl
  | 10, _ => kernel_rfl
  | 11, _ => kernel_rfl
  | 12, _ => kernel_rfl
  | 13, _ => kernel_rfl
  | 14, _ => kernel_rfl
  | 15, _ => kernel_rfl
  | 16, _ => kernel_rfl
  | 17, _ => kernel_rfl
  | 18, _ => kernel_rfl
  | 19, _ => kernel_rfl
  | 20, _ => kernel_rfl
  | n + 21, h => exact absurd h (by omega)
end F
end

section
set_option linter.all false
set_option autoImplicit false
set_option maxRecDepth 100000
set_option maxHeartbeats 2000000
/-! k01: the law -/
namespace F
local macro_rules | `(tactic| simp_arith [$ls,*] $[$loc]?) => `(tactic| simp only [runF, gdO, finR, endF, allO, sSeq, sSet, setR, sOf, leak, mNextS, andThen, mVar, mC, slot, peek, peeks, nrm, O.pk, O.frz, mIf, mTB, mTru, mAnd, mOr, mNot, mOp1, mOp2, mOl1, mOl2, mTup, mLst, mLks, mDct, mDvs, mBi, mBl, mRs, mSm0, mSm1, mSl, mSlL, mPt, mIt, mItZ, zipR, mCall, asArgs, asArg, back, ofRes, mergeO, ofO, ofOS, sIf, sRet, sRetN, sPass, sExp, sAug, sUnp, sPar, sAsg2, sSto, sBrk, sCnt, sFor, sDrop, sMatch, mtL, mOs, setAll, sPut, mItK, mMut0, mMut1, wipeE, unwipe, lcEnd, mLc, mYes, mItS, mItR, mChain, mStar, mLstD, sSlSto, mCallV, mGet2, zipS, mBad, sBad, mNotV, mAndV, mOrV, Tg.put, putAll, List.map_cons, List.map_nil, List.replicate, List.cons_append, List.nil_append, List.getElem?_cons_zero, List.getElem?_cons_succ, Option.bind_some, List.set_cons_zero, List.set_cons_succ, List.take_succ_cons, List.take_zero, List.headD_cons, List.headD_nil, List.tail_cons, List.tail_nil, Option.map_some, Option.map_none, if_true, if_false, Bool.false_eq_true, ite_true, ite_false, Bool.not_true, Bool.not_false, Bool.true_and, Bool.false_and, List.contains, List.elem, List.append_nil, List.length_cons, List.length_nil, Nat.zero_add, Nat.reduceAdd, Nat.reduceLeDiff, lim, Nat.reduceBEq, beq_self_eq_true, Bool.and_self, $ls,*] $[$loc]?)
theorem z_bag1 (ns : List Int) (i : Int) (h0 : 0 ≤ i) : ∃ a m, Z__law_bag [.sh (.lst (ns.map .int)), .sh (.int i)] = .rt (bh a m 0) [.sh (.lst (ns.map .int)), .sh (.int i)] := by
  have hc : ∃ c : Int, (if (i : Int) < ((ns.map F.D.int).length : Nat) then ixD (.lst (ns.map .int)) (.int i) = some (.int c) else c = 0) := by
    by_cases hi : i < ((ns.map F.D.int).length : Nat)
    · obtain ⟨d, hd, hg⟩ := getI_nat h0 hi
      obtain ⟨c, _, rfl⟩ := List.mem_map.mp hd
      exact ⟨c, by rw [if_pos hi]; exact hg⟩
    · exact ⟨0, by rw [if_neg hi]⟩
  obtain ⟨c, hc⟩ := hc
  have ll := len_lst (ns.map F.D.int)
  have lt := lt_int i ((ns.map F.D.int).length : Nat)
  have ab := abs_int c
  have ge := ge_int (if c < 0 then -c else c) 1000000000000000000
  generalize (if c < 0 then -c else c) = ca at *
  have e3 := mod_ok c 2147483563 (by decide)
  have e4 := mulOk_l 30011 i (by decide) (by decide)
  have e5 := add_int (c % 2147483563) (30011 * i)
  have e6 := add_int (c % 2147483563 + 30011 * i) 71
  have e7 := int_bl (decide (1000000000000000000 ≤ ca))
  have e8 : ∀ b : Bool, mulD (.int ca) (.int (if b = true then 1 else 0)) = some (.int (ca * (if b = true then 1 else 0))) := fun b => by cases b <;> exact mulOk_r _ _ (by decide) (by decide)
  have e8 := e8 (decide (1000000000000000000 ≤ ca))
  generalize (if decide (1000000000000000000 ≤ ca) = true then (1 : Int) else 0) = kk at *
  generalize decide (1000000000000000000 ≤ ca) = kb at *
  refine ⟨ca * kk, c % 2147483563 + 30011 * i + 71, ?_⟩
  generalize ((ns.map F.D.int).length : Int) = L at *
  generalize ns.map F.D.int = S at *
  by_cases g1 : i < L
  · simp only [g1, if_true, decide_true] at hc lt
    simp_arith [Z__law_bag, m__law_bag, bh, ll, lt, hc, ab, e3, e4, e5, e6, e7, e8, pow18, ge, int_int]
  · rw [if_neg g1] at hc
    subst hc
    simp only [g1, if_false, decide_false] at lt
    simp_arith [Z__law_bag, m__law_bag, bh, ll, lt, ab, e3, e4, e5, e6, e7, e8, pow18, ge, int_int]
theorem z_of1 (a m k : Int) (l : List F.D) (h0 : 0 < l.length) (h1 : l.length < 1000) (k0 : 0 ≤ k) (k1 : k ≤ 900) : ∃ a' m' k' d, Z__law_of [bh a m k, .sh (.lst l)] = .rt (.sh d) [bh a' m' k', .sh (.lst l)] ∧ d ∈ l := by
  obtain ⟨a', m', k', r, z, r0, r1, _, _⟩ := z_take a m k (l.length : Nat) (by omega) (by omega) k0 (by omega)
  obtain ⟨d, hd, hx⟩ := getI_nat r0 r1
  have ll := len_lst l
  have hx : ixD (.lst l) (.int r) = some d := hx
  refine ⟨a', m', k', d, ?_, hd⟩
  generalize ((l.length : Nat) : Int) = L at *
  simp_arith [Z__law_of, m__law_of, bh, ll, z, hx]
theorem pow40 : powD (.int 10) (.int 40) = some (.int 10000000000000000000000000000000000000000) := by rfl
/-- the reprs that are told -/
theorem told_reprs (v : F.D) (s : List Nat) (hr : reprZ [v] = some (.str s)) (e0 e1 e2 e3 e9 : Option O) :
    mLc [7, 8] (.tp [(.nm 7), (.nm 8)]) (mIt itL (mVar 4)) mYes (mBi reprZ [(mCallV 8 Fs [(mVar 7)])]) [e0, e1, e2, e3, some (.fl (mades v)), none, none, none, none, e9] = .ok (.ow (.fl (List.replicate 17 (.str s)))) [e0, e1, e2, e3, some (.sh (.lst (mades v))), none, none, none, none, e9] := by
  have hi : mIt itL (mVar 4) [e0, e1, e2, e3, some (.fl (mades v)), none, none, none, none, e9] = .ok ((List.range 17).map fun k => F.D.tup [er k v, .ex 1 (.int (k : Nat))]) [e0, e1, e2, e3, some (.sh (.lst (mades v))), none, none, none, none, e9] := by
    show _ = Rs.ok (mades v) _
    generalize mades v = ms
    simp_arith [itL]
  have l := mlc_map (f := fun _ => F.D.str s) (enc := fun k : Nat => F.D.tup [er k v, .ex 1 (.int (k : Nat))]) (own := [7, 8]) (t := .tp [(.nm 7), (.nm 8)]) (c := mYes) (v := mBi reprZ [(mCallV 8 Fs [(mVar 7)])]) hi (by decide) (fun k hk => by
    have z := fs_ok v k (List.mem_range.mp hk)
    have tn : ((k : Nat) : Int).toNat = k := Int.toNat_natCast k
    generalize er k v = E at *
    simp_arith [lcOne, tn, z, hr])
  rw [l]
  rfl
theorem told_errs (v : F.D) (e0 e1 e2 e3 e9 : Option O) :
    mLc [7, 8] (.tp [(.nm 7), (.nm 8)]) (mIt itL (mVar 4)) mYes (mVar 7) [e0, e1, e2, e3, some (.sh (.lst (mades v))), none, none, none, none, e9] = .ok (.ow (.fl ((List.range 17).map fun k => er k v))) [e0, e1, e2, e3, some (.sh (.lst (mades v))), none, none, none, none, e9] := by
  have hi : mIt itL (mVar 4) [e0, e1, e2, e3, some (.sh (.lst (mades v))), none, none, none, none, e9] = .ok ((List.range 17).map fun k => F.D.tup [er k v, .ex 1 (.int (k : Nat))]) [e0, e1, e2, e3, some (.sh (.lst (mades v))), none, none, none, none, e9] := by
    show _ = Rs.ok (mades v) _
    generalize mades v = ms
    simp_arith [itL]
  have l := mlc_map (f := fun k => er k v) (enc := fun k : Nat => F.D.tup [er k v, .ex 1 (.int (k : Nat))]) (own := [7, 8]) (t := .tp [(.nm 7), (.nm 8)]) (c := mYes) (v := mVar 7) hi (by decide) (fun k hk => by
    generalize er k v = E at *
    simp_arith [lcOne])
  rw [l]
  rfl
def every (v : F.D) : List F.D := (List.range 17).map (fun k => er k v) ++ [er 17 .non, er 18 .non, er 19 .non, er 20 .non]
theorem every_en (v : F.D) : itEL (.lst (every v)) = some ((List.range 21).map fun k => F.D.tup [.int (k : Nat), er k (pay k v)]) := by kernel_rfl
theorem cls_loop (v : F.D) (e0 e1 e2 e3 e4 e5 e8 : Option O) : ∀ ks : List Nat, (∀ k ∈ ks, k < 21) →
    forL (.tp [(.nm 6), (.nm 7)]) b_law_0 (ks.map fun k => F.D.tup [.int (k : Nat), er k (pay k v)]) [e0, e1, e2, e3, e4, e5, none, none, e8, none] = .nx [e0, e1, e2, e3, e4, e5, none, none, e8, none]
  | [], _ => rfl
  | k :: ks, h => by
    rw [List.map_cons, for_cons (e1 := [e0, e1, e2, e3, e4, e5, some (.sh (.int (k : Nat))), some (.sh (er k (pay k v))), e8, none]) (by generalize er k (pay k v) = E; rfl) (cls_turn (pay k v) e0 e1 e2 e3 e4 e5 e8 k (h k (List.mem_cons_self ..)))]
    exact cls_loop v e0 e1 e2 e3 e4 e5 e8 ks fun j hj => h j (List.mem_cons_of_mem _ hj)
theorem repN_mem {l : List Nat} {c : Nat} : ∀ n, c ∈ repN l n → c ∈ l
  | 0, h => by cases h
  | n + 1, h => by
    rcases List.mem_append.mp h with h | h
    · exact h
    · exact repN_mem n h
theorem turn (ns : List Int) (i : Int) (hi : 0 ≤ i) : b_law_1 [some (.sh (.lst (ns.map .int))), some (.sh (.int i)), none, none, none, none, none, none, none, none] = .nx [some (.sh (.lst (ns.map .int))), none, none, none, none, none, none, none, none, none] := by
  obtain ⟨a0, m0, zb⟩ := z_bag1 ns i hi
  obtain ⟨a1, m1, k1, r1, z1, p1, q1, b1, c1⟩ := z_take a0 m0 0 10000000000000000000000000000000000000000 (by decide) (by decide) (by decide) (by decide)
  obtain ⟨a2, m2, k2, r2, z2, p2, q2, b2, c2⟩ := z_take a1 m1 k1 300 (by decide) (by decide) b1 (by omega)
  have rs : repS (.str [120]) (.int r2) = some (.str (repN [120] r2.toNat)) := if_pos ⟨by omega, by omega, by simp [lim]; omega⟩
  have rl : (repN [120] r2.toNat).length ≤ 1000 := by rw [repN_len]; simp; omega
  have ok2 : rOk (.str (repN [120] r2.toNat)) = true := str_ok _ rl fun c hc => by
    have := repN_mem _ hc
    simp at this
    omega
  have ct : catL (.lst vals) (.lst [.int r1, .str (repN [120] r2.toNat)]) = some (vals ++ [.int r1, .str (repN [120] r2.toNat)]) := rfl
  obtain ⟨a3, m3, k3, v, z3, hv⟩ := z_of1 a2 m2 k2 (vals ++ [.int r1, .str (repN [120] r2.toNat)]) (by simp [vals]) (by simp [vals]) b2 (by omega)
  have ok : rOk v = true := by
    rcases List.mem_append.mp hv with h | h
    · exact List.all_eq_true.mp vals_ok v h
    · rcases List.mem_cons.mp h with h | h
      · rw [h]; exact int_ok r1 p1 q1
      · rw [List.mem_singleton.mp h]; exact ok2
  obtain ⟨hx, s, hr⟩ := rOk_of ok
  have zm := z_made v hx
  have zv := z_values
  generalize vals ++ [.int r1, .str (repN [120] r2.toNat)] = VL at *
  generalize repN [120] r2.toNat = X at *
  generalize vals = V0 at *
  generalize ns.map F.D.int = S at *
  have t1 := told_reprs v s hr (some (.sh (.lst S))) (some (.sh (.int i))) (some (bh a3 m3 k3)) (some (.sh v)) none
  have t2 := told_errs v (some (.sh (.lst S))) (some (.sh (.int i))) (some (bh a3 m3 k3)) (some (.sh v)) none
  have t3 := cls_loop v (some (.sh (.lst S))) (some (.sh (.int i))) (some (bh a3 m3 k3)) (some (.sh v)) (some (.sh (.lst (mades v)))) (some (.sh (.lst (every v)))) none (List.range 21) (fun k hk => List.mem_range.mp hk)
  have rp : repL (.lst [.str s]) (.int 17) = some (List.replicate 17 (.str s)) := by kernel_rfl
  have ne : neD (.lst (List.replicate 17 (.str s))) (.lst (List.replicate 17 (.str s))) = some (.bl false) := ne_refl (by rfl) (Nat.le_of_ble_eq_true rfl)
  have ev : catL (.lst ((List.range 17).map fun k => er k v)) (.lst [er 17 .non, er 18 .non, er 19 .non, er 20 .non]) = some (every v) := rfl
  have en := every_en v
  have k17 : ∀ e, mMkE0 17 e = .ok (.d (er 17 .non)) e := fun _ => rfl
  have k18 : ∀ e, mMkE0 18 e = .ok (.d (er 18 .non)) e := fun _ => rfl
  have k19 : ∀ e, mMkE0 19 e = .ok (.d (er 19 .non)) e := fun _ => rfl
  have k20 : ∀ e, mMkE0 20 e = .ok (.d (er 20 .non)) e := fun _ => rfl
  generalize (List.range 21).map (fun k => F.D.tup [.int (k : Nat), er k (pay k v)]) = items at *
  generalize (List.range 17).map (fun k => er k v) = es at *
  generalize every v = EV at *
  generalize mades v = MV at *
  generalize List.replicate 17 (F.D.str s) = RP at *
  generalize er 17 .non = E17 at *
  generalize er 18 .non = E18 at *
  generalize er 19 .non = E19 at *
  generalize er 20 .non = E20 at *
  unfold b_law_1
  generalize mLc [7, 8] (.tp [(.nm 7), (.nm 8)]) (mIt itL (mVar 4)) mYes (mBi reprZ [(mCallV 8 Fs [(mVar 7)])]) = L1 at *
  generalize mLc [7, 8] (.tp [(.nm 7), (.nm 8)]) (mIt itL (mVar 4)) mYes (mVar 7) = L2 at *
  simp only [bh] at *
  simp_arith [zb, zv, z1, z2, pow40, rs, ct, z3, zm, hr, t1, rp, ne, t2, k17, k18, k19, k20, ev, en, t3]
theorem plain (ns : List Int) (h : ns.length ≤ 63) : ∃ os, Z_law [.sh (.lst (ns.map .int))] = .rt (.sh (.bl true)) os := by
  have ll := len_lst (ns.map F.D.int)
  have mi := min_int 4 ((ns.map F.D.int).length : Nat)
  have ma := max_int 2 (if ((ns.map F.D.int).length : Int) < 4 then ((ns.map F.D.int).length : Int) else 4)
  have hb : 0 ≤ (if (if ((ns.map F.D.int).length : Int) < 4 then ((ns.map F.D.int).length : Int) else 4) > 2 then (if ((ns.map F.D.int).length : Int) < 4 then ((ns.map F.D.int).length : Int) else 4) else 2) ∧ (if (if ((ns.map F.D.int).length : Int) < 4 then ((ns.map F.D.int).length : Int) else 4) > 2 then (if ((ns.map F.D.int).length : Int) < 4 then ((ns.map F.D.int).length : Int) else 4) else 2) ≤ 4 := by
    constructor
    · repeat' split
      all_goals omega
    · repeat' split
      all_goals omega
  generalize (if (if ((ns.map F.D.int).length : Int) < 4 then ((ns.map F.D.int).length : Int) else 4) > 2 then (if ((ns.map F.D.int).length : Int) < 4 then ((ns.map F.D.int).length : Int) else 4) else 2) = n at *
  generalize (if ((ns.map F.D.int).length : Int) < 4 then ((ns.map F.D.int).length : Int) else 4) = n1 at *
  have it : itR1 (.int n) = some (rngF 0 n.toNat) := if_pos ⟨by omega, by omega⟩
  have lp : ∀ (ds : List F.D), (∀ d ∈ ds, ∃ i : Int, 0 ≤ i ∧ d = .int i) → forL (.nm 1) b_law_1 ds [some (.sh (.lst (ns.map .int))), none, none, none, none, none, none, none, none, none] = .nx [some (.sh (.lst (ns.map .int))), none, none, none, none, none, none, none, none, none] := by
    intro ds
    induction ds with
    | nil => exact fun _ => rfl
    | cons d ds ih =>
      intro hd
      obtain ⟨i, hi, rfl⟩ := hd d (List.mem_cons_self ..)
      rw [for_cons rfl (turn ns i hi)]
      exact ih fun d hd' => hd d (List.mem_cons_of_mem _ hd')
  have lp := lp (rngF 0 n.toNat) (fun d hd => by
    rw [rngF_map] at hd
    obtain ⟨i, _, rfl⟩ := List.mem_map.mp hd
    exact ⟨_, by omega, rfl⟩)
  generalize rngF 0 n.toNat = R at *
  generalize ((ns.map F.D.int).length : Int) = Ln at *
  generalize ns.map F.D.int = S at *
  refine ⟨[.sh (.lst S)], ?_⟩
  simp_arith [Z_law, m_law, ll, mi, ma, it, lp]
  try kernel_rfl
end F
end

section
set_option Elab.async false
set_option linter.all false
set_option autoImplicit false
set_option maxRecDepth 100000
set_option maxHeartbeats 0
namespace F
open PySem PySem.Spec PyProof.Rows L2
theorem facts {P : Program} {w : World} {K : PySem.W.Frag} {h : Heap} {mg : Str → Option Value} {f : Addr} (X : K.In h) (G : h.Ns mainGlobals mg) (hfa : mg ("law" : Str) = some (.ref f)) (c : He.SaysX fa fn ts tf exB w h K) :
    ∃ fd : FuncData, (∀ (s : Shared) (v : Value), BindsTo s fd ⟨[v], []⟩ [("_law_script", v)]) ∧ ∀ base : Heap, K.In base → base.Ns mainGlobals mg → Bx K mg base → FnQ P w K mg base (L2.CX P w) 4 f fd ["_law_script"] (spF (tb K) ⟨K, (tb K).cls, (tb K).fld, (tb K).tabs, (tb K).ex, (tb K).exM, (tb K).exR⟩ Z_law 1) := by
  have F : Fx w K mg := ⟨h, X, G, c⟩
  have e := hfa.symm.trans (g_law F)
  cases e
  obtain ⟨fd, hf⟩ := fd_law F
  have b := FunD.bindsA (ps := ["_law_script"]) hf fun _ _ _ _ _ _ us hl => match us, hl with | [_], _ => rfl
  refine ⟨fd, fun s v => b s [v] rfl, fun base _ _ B => ?_⟩
  obtain ⟨fd', hf', h'⟩ := o_law (P := P) (base := base) F B
  rw [fd_uniq hf hf']
  exact h'
end F
open PySem PySem.W PySem.Calls PyProof.Rows
theorem PySem.Challenge.cw_holedlines_k01_errors_made_holds : PySem.Challenge.rw_holedlines_k01_errors_made.Holds := by
  w_on; o_law
  refine HandSHeadRun.head_any (r := F.RW) (q := view F.RW.prog [31]) (H := F.hk) (ob := F.ob) (M := 8000) (loose := F.names) (d := HandSHeadRun.topDef F.RW.prog 31) (kwd := []) F.ob_eq
    (by kernel_rfl) (fun s => by kernel_rfl) F.run (by kernel_rfl) (by kernel_rfl) (by kernel_rfl) (by rfl) (by first | assumption | decide +kernel) (by decide +kernel) ⟨rfl, rfl, rfl, rfl, rfl, by decide +kernel⟩ ?hw ?hc
  case hw => w_witness2
  case hc =>
    refine F.walk_q (l := PySem.Challenge.rw_holedlines_k01_errors_made) (n := 63) (k := 4) (x := "_law_script") (CX := fun w => L2.CX PySem.Challenge.rw_holedlines_k01_errors_made.prog w) rfl (by decide) (by kernel_rfl) ⟨rfl, by decide, by decide⟩ ?F (fun _ => F.no_exc)
    intro w mg fa h Y G hmg0
    obtain ⟨K, KX, c⟩ := Y
    have hmg : mg ("law" : PySem.Str) = some (.ref fa) := by
      have e : (HandSHeadRun.topDef F.RW.prog 31).name = ("law" : PySem.Str) := by kernel_rfl
      rw [← e]
      exact hmg0
    obtain ⟨fd, hb, hF⟩ := F.facts (P := PySem.Challenge.rw_holedlines_k01_errors_made.prog) (w := w) KX G hmg c
    refine ⟨K, KX, fd, F.tf.map (He.cT K), _, ⟨?_, ?_, ?_⟩, hb, fun H a ns hl _ hT hS => F.law_end (t := F.tb K) F.plain H a ns hl (fun p hp => ?_) hS, fun base hK hG hB => hF base hK hG fun p hp => hB _ (List.mem_map.mpr ⟨p, hp, rfl⟩)⟩
    · intro p hp
      obtain ⟨q, hq, e⟩ := List.mem_map.mp hp
      rw [← e]
      exact c.empty q hq
    · intro p hp
      obtain ⟨q, hq, e⟩ := List.mem_map.mp hp
      rw [← e]
      exact c.out q hq
    · intro p hp
      obtain ⟨q, hq, e⟩ := List.mem_map.mp hp
      rw [← e]
      exact codeHd_of_K KX (c.hd q hq)
    · obtain ⟨q, hq, e⟩ := List.mem_map.mp hp
      rw [← e]
      exact hT _ (List.mem_map.mpr ⟨_, F.tf_of q hq, rfl⟩)
end

