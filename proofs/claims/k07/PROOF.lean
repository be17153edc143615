import PyProof.Rows.All
import Wide.All
import OpenK.AllK
import Wide.FinOn
import HandS.ForMost
import HandS.ForExc
import HandS.TryMany
import HandS.DictComp
import HandS.Defaults
import HandS.Deep
import HandS.TupAny
import HandS.Wide
import HandS.Style
import HandS.HeadHook1
import HandS.ExcCtx
import HandS.ExcInitHot
import HandS.RaiseFrom
import HandS.ExcInit
import HandS.ExcOwn
import HandS.IsInst
import HandS.WordsDict
import HandS.TupLen
import HandS.Conv
import HandS.Iter
import HandS.Zip
import HandS.Sort
import KE.SortData
import HandS.Set
import HandS.RaiseMore
import HandS.SetBool
import KE.GoesMore
import KE.DataMinMax
import HandS.TupSets
import HandS.SortKw
import HandS.ExcField
import HandS.HeadHook4
import KE.KExcIs
import HandS.CallSlots
import HandS.Strs
import KE.KDictPairs
import HandS.More
import HandS.Flow
import HandS.Small
import PyProof.DictUpdate
import KE.GoesEnumKw
import PyProof.EqKinds
import PyProof.NeKinds
import PyProof.P3Eq
import PyProof.FactsAll.dict_1
import PyProof.FactsAll.dict_2
import KE.KItemsList
import HandS.ListItems
import PyProof.DictValues
import HandS.FStr
import HandS.ExcValue
import KE.KDictSum
import PyProof.ReprRoads
import HandS.HeadEnd
import HandS.Text
import HandS.DictEq
import HandS.OwnEq
import PyProof.StrWalks
import PyProof.CollectIter
import KE.KDictZip
import KE.DataCmp
import HandS.SuiteRaise
import HandS.IntHex
import HandS.WideBits
import HandS.Replace
import KE.KTryMore
import HandS.TupMul
import PyProof.Rows.FactsExc_KeyError
import PyProof.ExcBaseAll.LookupError
import HandS.Head0
import HandS.Head1
import HandS.Head2
import HandS.HeadHook2
import PySem.Challenge.RW_shutnames_k07_refusals_made
set_option Elab.async false
set_option linter.all false
set_option maxRecDepth 100000
set_option maxHeartbeats 0
set_option exponentiation.threshold 3000
section
namespace DL
open PySem PySem.Spec PyProof.Rows L2
def oexB (K : PySem.W.Frag) (C : Addr) : Bool := (match K.lookup C with
 | some ⟨.type t, _, .cls cd, sl⟩ => decide (t = "type") && (match cd.mro, sl.toList with
  | .ref D :: bm, [_, _, _, _, some (.builtin n), _] => decide (D = C) && (decide (n = "ValueError.__new__") && (!cd.hasDel && (cd.hasDict && HandSPX.refsVE bm)))
  | _, _ => false)
 | _ => false) && (decide (PySem.W.findIn K (.ref C) "__setattr__" = some (some (.builtin "object.__setattr__"))) && (decide (PySem.W.subIn K (.ref C) (.type "BaseException") = some true) && (decide (PySem.W.typeIn K (.ref C) = some (.type "type")) && PySem.W.keepIn K (.ref C))))
def oekB (K : PySem.W.Frag) (C : Addr) : Bool := (match K.lookup C with
 | some ⟨.type t, _, .cls cd, sl⟩ => decide (t = "type") && (match cd.mro, sl.toList with
  | .ref D :: bm, [_, _, _, _, some (.builtin n), _] => decide (D = C) && (decide (n = "LookupError.__new__") && (!cd.hasDel && (cd.hasDict && bm == [.type "KeyError", .type "LookupError", .type "Exception", .type "BaseException", .type "object"])))
  | _, _ => false)
 | _ => false) && (decide (PySem.W.findIn K (.ref C) "__setattr__" = some (some (.builtin "object.__setattr__"))) && (decide (PySem.W.subIn K (.ref C) (.type "BaseException") = some true) && (decide (PySem.W.typeIn K (.ref C) = some (.type "type")) && PySem.W.keepIn K (.ref C))))
def xbB (K : PySem.W.Frag) (S : Addr) : Bool := decide (PySem.W.specialIn K (.ref S) "__getattribute__" = some (some (.builtin "type.__getattribute__"))) && (PySem.W.readsIn K S (.type "type") &&
 (match PySem.W.findCls K (.ref S) (.type "type") "__init__" with
 | some (.val (.builtin n)) => decide (n = "ValueError.__init__")
 | _ => false))
def etB (K : PySem.W.Frag) (a : Addr) : Bool := match K.lookup a with
 | some ⟨.type t, none, .seq its _, _⟩ => decide (t = "tuple") && its.toList.isEmpty
 | _ => false
def kwAt (f x : Str) (K : PySem.W.Frag) : Addr := match K.lookup (He.fAd K (f, none)) with
 | some ⟨_, _, .func fd, _⟩ => (match fd.kwdefaults with
  | .ref D => (match PySem.W.nsIn K D x with
   | some (some (.ref b)) => b
   | _ => 0)
  | _ => 0)
 | _ => 0
def ecB (K : PySem.W.Frag) (C : Addr) : Bool := (PySem.W.clsIn K C).isSome && (decide (PySem.W.findIn K (.ref C) "__getattribute__" = some (some (.builtin "BaseException.__getattribute__"))) && (decide (PySem.W.findIn K (.ref C) "__getattr__" = some none) && (decide (PySem.W.subIn K (.ref C) (.type "BaseException") = some true) &&
 (decide (PySem.W.findIn K (.ref C) "__class__" = some (some (.builtin "object.__class__"))) && (decide (PySem.W.specialIn K (.builtin "object.__class__") "__get__" = some (some (.builtin "getset_descriptor.__get__"))) && (decide (PySem.W.takesIn K (.builtin "object.__class__") = some true) && (decide (PySem.W.mroIn K C (.type "object") = some true) && PySem.W.hasDictIn K C)))))))
def ioB (K : PySem.W.Frag) (C : Addr) : Bool := decide (PySem.W.findIn K (.ref C) "__class__" = some (some (.builtin "object.__class__"))) && (decide (PySem.W.specialIn K (.builtin "object.__class__") "__get__" = some (some (.builtin "getset_descriptor.__get__"))) && (decide (PySem.W.takesIn K (.builtin "object.__class__") = some true) &&
 (decide (PySem.W.mroIn K C (.type "object") = some true) && decide (PySem.W.kitOne K (.ref C) (.ref C) = some true))))
inductive Fx where
 | oex (x : Str) | xb (x : Str) | xf (x : Str) | et (f : Str) (i : Nat) | ek (f x : Str) | xk (y : Str) | ki (y x : Str) (b : Bool) | kb (y : Str) (n : String) (b : Bool) | kn (x : Str) | io (x : Str) | oek (x : Str)
def Fx.ok (K : PySem.W.Frag) : Fx → Bool
 | .oex x => oexB K (He.ga K x)
 | .xb x => xbB K (He.ga K x)
 | .xf x => xfB K (He.ga K x)
 | .et f i => etB K (He.dflAt (f, none) i K)
 | .ek f x => etB K (kwAt f x K)
 | .xk y => ecB K (He.ga K y)
 | .ki y x b => decide (PySem.W.kitOne K (.ref (He.ga K y)) (.ref (He.ga K x)) = some b)
 | .kb y n b => decide (PySem.W.kitOne K (.ref (He.ga K y)) (.type n) = some b)
 | .kn x => decide (PySem.W.kitOne K (.type "NoneType") (.ref (He.ga K x)) = some false)
 | .io x => ioB K (He.ga K x)
 | .oek x => oekB K (He.ga K x)
def fxB (l : List Fx) (K : PySem.W.Frag) : Bool := l.all fun f => f.ok K
def meth (s : Stmt) (j : Nat) : Stmt := match s with
 | .ClassDef _ _ _ b _ _ _ _ _ _ _ => b.getD j (.Pass ⟨0, 0, 0, 0⟩)
 | _ => .Pass ⟨0, 0, 0, 0⟩
abbrev AlZ : Type := He.AlD × Bool
def obsZ (n : Nat) (xs : List Addr) (fa : List He.Fa) (fn : List He.DefD) (fx : List Fx) (g : Addr → Option Obj) : AlZ := (He.obsD fa fn (He.frG g (He.asD g n ++ xs)), fxB fx (He.frG g (He.asD g n ++ xs)))
def hookZ (n : Nat) (xs : List Addr) (fa : List He.Fa) (fn : List He.DefD) (fx : List Fx) : PySem.W.Hook where
 α := AlZ
 obs := fun s => obsZ n xs fa fn fx s.heap.get?
 val := fun _ => (He.valD fn, true)
 says := fun _ h => ∃ K : PySem.W.Frag, K.In h ∧ He.SaysD fa fn K ∧ fxB fx K = true
 of := fun _ _ e => ⟨_, He.frG_in, congrArg (fun z : AlZ => z.1) e, congrArg (fun z : AlZ => z.2) e⟩
 keeps := fun _ _ _ ⟨K, hK, c⟩ k => ⟨K, PySem.W.Frag.In.keeps hK k, c⟩
end DL
end
section
namespace K07
open PySem PySem.Spec PyProof.Rows L2 DL
abbrev P : Program := PySem.Challenge.pw_shutnames_k07_refusals_made
def top (i : Nat) : Stmt := P.main.body.getD i (.Pass ⟨0, 0, 0, 0⟩)
abbrev s__law_mixed : Stmt := top 24
abbrev s__law_pile : Stmt := top 25
abbrev s__law_take : Stmt := top 26
abbrev s__law_name : Stmt := top 27
abbrev s__law_words : Stmt := top 28
abbrev s__law_plain : Stmt := top 29
abbrev s__law_fields : Stmt := top 30
abbrev s__law_right : Stmt := top 31
abbrev s__law_taken : Stmt := top 32
abbrev s_law : Stmt := top 33
abbrev si_BadStep : Stmt := meth (top 16) 0
abbrev si_Clash : Stmt := meth (top 17) 0
abbrev si_Missing : Stmt := meth (top 22) 0
abbrev si_NoPlace : Stmt := meth (top 15) 0
abbrev si_NoText : Stmt := meth (top 21) 0
abbrev si_NotClosed : Stmt := meth (top 18) 0
abbrev si_NotGood : Stmt := meth (top 20) 0
abbrev si_TooLong : Stmt := meth (top 19) 0
open PySem PySem.Spec PyProof.Rows L2 DL
def dd__law_mixed : He.DefD := ⟨("_law_mixed", none), "_law_mixed", "_law_mixed", defArgs s__law_mixed, defBody s__law_mixed, defScope s__law_mixed, [], []⟩
def dd__law_pile : He.DefD := ⟨("_law_pile", none), "_law_pile", "_law_pile", defArgs s__law_pile, defBody s__law_pile, defScope s__law_pile, [], []⟩
def dd__law_take : He.DefD := ⟨("_law_take", none), "_law_take", "_law_take", defArgs s__law_take, defBody s__law_take, defScope s__law_take, [], []⟩
def dd__law_name : He.DefD := ⟨("_law_name", none), "_law_name", "_law_name", defArgs s__law_name, defBody s__law_name, defScope s__law_name, [], []⟩
def dd__law_words : He.DefD := ⟨("_law_words", none), "_law_words", "_law_words", defArgs s__law_words, defBody s__law_words, defScope s__law_words, [], []⟩
def dd__law_plain : He.DefD := ⟨("_law_plain", none), "_law_plain", "_law_plain", defArgs s__law_plain, defBody s__law_plain, defScope s__law_plain, [], []⟩
def dd__law_fields : He.DefD := ⟨("_law_fields", none), "_law_fields", "_law_fields", defArgs s__law_fields, defBody s__law_fields, defScope s__law_fields, [], []⟩
def dd__law_right : He.DefD := ⟨("_law_right", none), "_law_right", "_law_right", defArgs s__law_right, defBody s__law_right, defScope s__law_right, [], []⟩
def dd__law_taken : He.DefD := ⟨("_law_taken", none), "_law_taken", "_law_taken", defArgs s__law_taken, defBody s__law_taken, defScope s__law_taken, [], []⟩
def dd_law : He.DefD := ⟨("law", none), "law", "law", defArgs s_law, defBody s_law, defScope s_law, [], []⟩
def ddi_BadStep : He.DefD := ⟨("BadStep", some "__init__"), "__init__", "BadStep.__init__", defArgs si_BadStep, defBody si_BadStep, defScope si_BadStep, [], []⟩
def ddi_Clash : He.DefD := ⟨("Clash", some "__init__"), "__init__", "Clash.__init__", defArgs si_Clash, defBody si_Clash, defScope si_Clash, [], []⟩
def ddi_Missing : He.DefD := ⟨("Missing", some "__init__"), "__init__", "Missing.__init__", defArgs si_Missing, defBody si_Missing, defScope si_Missing, [], []⟩
def ddi_NoPlace : He.DefD := ⟨("NoPlace", some "__init__"), "__init__", "NoPlace.__init__", defArgs si_NoPlace, defBody si_NoPlace, defScope si_NoPlace, [], []⟩
def ddi_NoText : He.DefD := ⟨("NoText", some "__init__"), "__init__", "NoText.__init__", defArgs si_NoText, defBody si_NoText, defScope si_NoText, [], []⟩
def ddi_NotClosed : He.DefD := ⟨("NotClosed", some "__init__"), "__init__", "NotClosed.__init__", defArgs si_NotClosed, defBody si_NotClosed, defScope si_NotClosed, [], []⟩
def ddi_NotGood : He.DefD := ⟨("NotGood", some "__init__"), "__init__", "NotGood.__init__", defArgs si_NotGood, defBody si_NotGood, defScope si_NotGood, [], []⟩
def ddi_TooLong : He.DefD := ⟨("TooLong", some "__init__"), "__init__", "TooLong.__init__", defArgs si_TooLong, defBody si_TooLong, defScope si_TooLong, [], []⟩
def fnL : List He.DefD := [dd__law_mixed, dd__law_pile, dd__law_take, dd__law_name, dd__law_words, dd__law_plain, dd__law_fields, dd__law_right, dd__law_taken, dd_law, ddi_BadStep, ddi_Clash, ddi_Missing, ddi_NoPlace, ddi_NoText, ddi_NotClosed, ddi_NotGood, ddi_TooLong]
def fa0 : List He.Fa := [.glo "_law_mixed", .glo "_law_pile", .glo "_law_take", .glo "_law_name", .glo "_law_words", .glo "_law_plain", .glo "_law_fields", .glo "_law_right", .glo "_law_taken", .glo "law", .free "KeyError", .free "ValueError", .free "abs", .free "enumerate", .free "int", .free "isinstance", .free "len", .free "range", .free "str", .free "tuple", .glo "BadStep", .glo "Clash", .glo "HasHoles", .glo "Missing", .glo "NoAsk", .glo "NoFacts", .glo "NoFilling", .glo "NoLine", .glo "NoName", .glo "NoPaper"]
def fa1 : List He.Fa := [.glo "NoPlace", .glo "NoRule", .glo "NoTerm", .glo "NoText", .glo "NoTurn", .glo "NoUndo", .glo "NoWeighing", .glo "NotApart", .glo "NotClosed", .glo "NotGood", .glo "ShutError", .glo "TooLong", .exc "HasHoles", .exc "NoAsk", .exc "NoFacts", .exc "NoFilling", .exc "NoLine", .exc "NoName", .exc "NoPaper", .exc "NoRule", .exc "NoTerm", .exc "NoTurn", .exc "NoUndo", .exc "NoWeighing", .exc "NotApart", .exc "ShutError", .exm "NotClosed" "ShutError" true, .exm "TooLong" "ShutError" true, .noat "BadStep" "at", .noat "Clash" "lot"]
def fa2 : List He.Fa := [.noat "Missing" "number", .noat "NoPlace" "place", .noat "NoText" "at", .noat "NotClosed" "hole", .noat "NotClosed" "name", .noat "NotGood" "verdict", .noat "TooLong" "most", .meth "BadStep" "__init__", .meth "Clash" "__init__", .meth "Missing" "__init__", .meth "NoPlace" "__init__", .meth "NoText" "__init__", .meth "NotClosed" "__init__", .meth "NotGood" "__init__", .meth "TooLong" "__init__"]
def faL : List He.Fa := fa0 ++ fa1 ++ fa2
def fxL : List Fx := [.xb "ShutError", .xf "BadStep", .xf "Clash", .xf "Missing", .xf "NoPlace", .xf "NoText", .xf "NotClosed", .xf "NotGood", .xf "TooLong", .xk "BadStep", .xk "Clash", .xk "HasHoles", .xk "Missing", .xk "NoAsk", .xk "NoFacts", .xk "NoFilling", .xk "NoLine", .xk "NoName", .xk "NoPaper", .xk "NoPlace", .xk "NoRule", .xk "NoTerm", .xk "NoText", .xk "NoTurn", .xk "NoUndo", .xk "NoWeighing", .xk "NotApart", .xk "NotClosed", .xk "NotGood", .xk "ShutError", .xk "TooLong", .ki "BadStep" "BadStep" true, .ki "BadStep" "Clash" false, .ki "BadStep" "HasHoles" false, .ki "BadStep" "Missing" false, .ki "BadStep" "NoAsk" false, .ki "BadStep" "NoFacts" false, .ki "BadStep" "NoFilling" false, .ki "BadStep" "NoLine" false, .ki "BadStep" "NoName" false, .ki "BadStep" "NoPaper" false, .ki "BadStep" "NoPlace" false, .ki "BadStep" "NoRule" false, .ki "BadStep" "NoTerm" false, .ki "BadStep" "NoText" false, .ki "BadStep" "NoTurn" false, .ki "BadStep" "NoUndo" false, .ki "BadStep" "NoWeighing" false, .ki "BadStep" "NotApart" false, .ki "BadStep" "NotClosed" false, .ki "BadStep" "NotGood" false, .ki "BadStep" "ShutError" true, .ki "BadStep" "TooLong" false, .ki "Clash" "BadStep" false, .ki "Clash" "Clash" true, .ki "Clash" "HasHoles" false, .ki "Clash" "Missing" false, .ki "Clash" "NoAsk" false, .ki "Clash" "NoFacts" false, .ki "Clash" "NoFilling" false, .ki "Clash" "NoLine" false, .ki "Clash" "NoName" false, .ki "Clash" "NoPaper" false, .ki "Clash" "NoPlace" false, .ki "Clash" "NoRule" false, .ki "Clash" "NoTerm" false, .ki "Clash" "NoText" false, .ki "Clash" "NoTurn" false, .ki "Clash" "NoUndo" false, .ki "Clash" "NoWeighing" false, .ki "Clash" "NotApart" false, .ki "Clash" "NotClosed" false, .ki "Clash" "NotGood" false, .ki "Clash" "ShutError" true, .ki "Clash" "TooLong" false, .ki "HasHoles" "BadStep" false, .ki "HasHoles" "Clash" false, .ki "HasHoles" "HasHoles" true, .ki "HasHoles" "Missing" false, .ki "HasHoles" "NoAsk" false, .ki "HasHoles" "NoFacts" false, .ki "HasHoles" "NoFilling" false, .ki "HasHoles" "NoLine" false, .ki "HasHoles" "NoName" false, .ki "HasHoles" "NoPaper" false, .ki "HasHoles" "NoPlace" false, .ki "HasHoles" "NoRule" false, .ki "HasHoles" "NoTerm" false, .ki "HasHoles" "NoText" false, .ki "HasHoles" "NoTurn" false, .ki "HasHoles" "NoUndo" false, .ki "HasHoles" "NoWeighing" false, .ki "HasHoles" "NotApart" false, .ki "HasHoles" "NotClosed" false, .ki "HasHoles" "NotGood" false, .ki "HasHoles" "ShutError" true, .ki "HasHoles" "TooLong" false, .ki "Missing" "BadStep" false, .ki "Missing" "Clash" false, .ki "Missing" "HasHoles" false, .ki "Missing" "Missing" true, .ki "Missing" "NoAsk" false, .ki "Missing" "NoFacts" false, .ki "Missing" "NoFilling" false, .ki "Missing" "NoLine" false, .ki "Missing" "NoName" false, .ki "Missing" "NoPaper" false, .ki "Missing" "NoPlace" false, .ki "Missing" "NoRule" false, .ki "Missing" "NoTerm" false, .ki "Missing" "NoText" false, .ki "Missing" "NoTurn" false, .ki "Missing" "NoUndo" false, .ki "Missing" "NoWeighing" false, .ki "Missing" "NotApart" false, .ki "Missing" "NotClosed" false, .ki "Missing" "NotGood" false, .ki "Missing" "ShutError" false, .ki "Missing" "TooLong" false, .ki "NoAsk" "BadStep" false, .ki "NoAsk" "Clash" false, .ki "NoAsk" "HasHoles" false, .ki "NoAsk" "Missing" false, .ki "NoAsk" "NoAsk" true, .ki "NoAsk" "NoFacts" false, .ki "NoAsk" "NoFilling" false, .ki "NoAsk" "NoLine" false, .ki "NoAsk" "NoName" false, .ki "NoAsk" "NoPaper" false, .ki "NoAsk" "NoPlace" false, .ki "NoAsk" "NoRule" false, .ki "NoAsk" "NoTerm" false, .ki "NoAsk" "NoText" false, .ki "NoAsk" "NoTurn" false, .ki "NoAsk" "NoUndo" false, .ki "NoAsk" "NoWeighing" false, .ki "NoAsk" "NotApart" false, .ki "NoAsk" "NotClosed" false, .ki "NoAsk" "NotGood" false, .ki "NoAsk" "ShutError" true, .ki "NoAsk" "TooLong" false, .ki "NoFacts" "BadStep" false, .ki "NoFacts" "Clash" false, .ki "NoFacts" "HasHoles" false, .ki "NoFacts" "Missing" false, .ki "NoFacts" "NoAsk" false, .ki "NoFacts" "NoFacts" true, .ki "NoFacts" "NoFilling" false, .ki "NoFacts" "NoLine" false, .ki "NoFacts" "NoName" false, .ki "NoFacts" "NoPaper" false, .ki "NoFacts" "NoPlace" false, .ki "NoFacts" "NoRule" false, .ki "NoFacts" "NoTerm" false, .ki "NoFacts" "NoText" false, .ki "NoFacts" "NoTurn" false, .ki "NoFacts" "NoUndo" false, .ki "NoFacts" "NoWeighing" false, .ki "NoFacts" "NotApart" false, .ki "NoFacts" "NotClosed" false, .ki "NoFacts" "NotGood" false, .ki "NoFacts" "ShutError" true, .ki "NoFacts" "TooLong" false, .ki "NoFilling" "BadStep" false, .ki "NoFilling" "Clash" false, .ki "NoFilling" "HasHoles" false, .ki "NoFilling" "Missing" false, .ki "NoFilling" "NoAsk" false, .ki "NoFilling" "NoFacts" false, .ki "NoFilling" "NoFilling" true, .ki "NoFilling" "NoLine" false, .ki "NoFilling" "NoName" false, .ki "NoFilling" "NoPaper" false, .ki "NoFilling" "NoPlace" false, .ki "NoFilling" "NoRule" false, .ki "NoFilling" "NoTerm" false, .ki "NoFilling" "NoText" false, .ki "NoFilling" "NoTurn" false, .ki "NoFilling" "NoUndo" false, .ki "NoFilling" "NoWeighing" false, .ki "NoFilling" "NotApart" false, .ki "NoFilling" "NotClosed" false, .ki "NoFilling" "NotGood" false, .ki "NoFilling" "ShutError" true, .ki "NoFilling" "TooLong" false, .ki "NoLine" "BadStep" false, .ki "NoLine" "Clash" false, .ki "NoLine" "HasHoles" false, .ki "NoLine" "Missing" false, .ki "NoLine" "NoAsk" false, .ki "NoLine" "NoFacts" false, .ki "NoLine" "NoFilling" false, .ki "NoLine" "NoLine" true, .ki "NoLine" "NoName" false, .ki "NoLine" "NoPaper" false, .ki "NoLine" "NoPlace" false, .ki "NoLine" "NoRule" false, .ki "NoLine" "NoTerm" false, .ki "NoLine" "NoText" false, .ki "NoLine" "NoTurn" false, .ki "NoLine" "NoUndo" false, .ki "NoLine" "NoWeighing" false, .ki "NoLine" "NotApart" false, .ki "NoLine" "NotClosed" false, .ki "NoLine" "NotGood" false, .ki "NoLine" "ShutError" true, .ki "NoLine" "TooLong" false, .ki "NoName" "BadStep" false, .ki "NoName" "Clash" false, .ki "NoName" "HasHoles" false, .ki "NoName" "Missing" false, .ki "NoName" "NoAsk" false, .ki "NoName" "NoFacts" false, .ki "NoName" "NoFilling" false, .ki "NoName" "NoLine" false, .ki "NoName" "NoName" true, .ki "NoName" "NoPaper" false, .ki "NoName" "NoPlace" false, .ki "NoName" "NoRule" false, .ki "NoName" "NoTerm" false, .ki "NoName" "NoText" false, .ki "NoName" "NoTurn" false, .ki "NoName" "NoUndo" false, .ki "NoName" "NoWeighing" false, .ki "NoName" "NotApart" false, .ki "NoName" "NotClosed" false, .ki "NoName" "NotGood" false, .ki "NoName" "ShutError" true, .ki "NoName" "TooLong" false, .ki "NoPaper" "BadStep" false, .ki "NoPaper" "Clash" false, .ki "NoPaper" "HasHoles" false, .ki "NoPaper" "Missing" false, .ki "NoPaper" "NoAsk" false, .ki "NoPaper" "NoFacts" false, .ki "NoPaper" "NoFilling" false, .ki "NoPaper" "NoLine" false, .ki "NoPaper" "NoName" false, .ki "NoPaper" "NoPaper" true, .ki "NoPaper" "NoPlace" false, .ki "NoPaper" "NoRule" false, .ki "NoPaper" "NoTerm" false, .ki "NoPaper" "NoText" false, .ki "NoPaper" "NoTurn" false, .ki "NoPaper" "NoUndo" false, .ki "NoPaper" "NoWeighing" false, .ki "NoPaper" "NotApart" false, .ki "NoPaper" "NotClosed" false, .ki "NoPaper" "NotGood" false, .ki "NoPaper" "ShutError" true, .ki "NoPaper" "TooLong" false, .ki "NoPlace" "BadStep" false, .ki "NoPlace" "Clash" false, .ki "NoPlace" "HasHoles" false, .ki "NoPlace" "Missing" false, .ki "NoPlace" "NoAsk" false, .ki "NoPlace" "NoFacts" false, .ki "NoPlace" "NoFilling" false, .ki "NoPlace" "NoLine" false, .ki "NoPlace" "NoName" false, .ki "NoPlace" "NoPaper" false, .ki "NoPlace" "NoPlace" true, .ki "NoPlace" "NoRule" false, .ki "NoPlace" "NoTerm" false, .ki "NoPlace" "NoText" false, .ki "NoPlace" "NoTurn" false, .ki "NoPlace" "NoUndo" false, .ki "NoPlace" "NoWeighing" false, .ki "NoPlace" "NotApart" false, .ki "NoPlace" "NotClosed" false, .ki "NoPlace" "NotGood" false, .ki "NoPlace" "ShutError" true, .ki "NoPlace" "TooLong" false, .ki "NoRule" "BadStep" false, .ki "NoRule" "Clash" false, .ki "NoRule" "HasHoles" false, .ki "NoRule" "Missing" false, .ki "NoRule" "NoAsk" false, .ki "NoRule" "NoFacts" false, .ki "NoRule" "NoFilling" false, .ki "NoRule" "NoLine" false, .ki "NoRule" "NoName" false, .ki "NoRule" "NoPaper" false, .ki "NoRule" "NoPlace" false, .ki "NoRule" "NoRule" true, .ki "NoRule" "NoTerm" false, .ki "NoRule" "NoText" false, .ki "NoRule" "NoTurn" false, .ki "NoRule" "NoUndo" false, .ki "NoRule" "NoWeighing" false, .ki "NoRule" "NotApart" false, .ki "NoRule" "NotClosed" false, .ki "NoRule" "NotGood" false, .ki "NoRule" "ShutError" true, .ki "NoRule" "TooLong" false, .ki "NoTerm" "BadStep" false, .ki "NoTerm" "Clash" false, .ki "NoTerm" "HasHoles" false, .ki "NoTerm" "Missing" false, .ki "NoTerm" "NoAsk" false, .ki "NoTerm" "NoFacts" false, .ki "NoTerm" "NoFilling" false, .ki "NoTerm" "NoLine" false, .ki "NoTerm" "NoName" false, .ki "NoTerm" "NoPaper" false, .ki "NoTerm" "NoPlace" false, .ki "NoTerm" "NoRule" false, .ki "NoTerm" "NoTerm" true, .ki "NoTerm" "NoText" false, .ki "NoTerm" "NoTurn" false, .ki "NoTerm" "NoUndo" false, .ki "NoTerm" "NoWeighing" false, .ki "NoTerm" "NotApart" false, .ki "NoTerm" "NotClosed" false, .ki "NoTerm" "NotGood" false, .ki "NoTerm" "ShutError" true, .ki "NoTerm" "TooLong" false, .ki "NoText" "BadStep" false, .ki "NoText" "Clash" false, .ki "NoText" "HasHoles" false, .ki "NoText" "Missing" false, .ki "NoText" "NoAsk" false, .ki "NoText" "NoFacts" false, .ki "NoText" "NoFilling" false, .ki "NoText" "NoLine" false, .ki "NoText" "NoName" false, .ki "NoText" "NoPaper" false, .ki "NoText" "NoPlace" false, .ki "NoText" "NoRule" false, .ki "NoText" "NoTerm" false, .ki "NoText" "NoText" true, .ki "NoText" "NoTurn" false, .ki "NoText" "NoUndo" false, .ki "NoText" "NoWeighing" false, .ki "NoText" "NotApart" false, .ki "NoText" "NotClosed" false, .ki "NoText" "NotGood" false, .ki "NoText" "ShutError" true, .ki "NoText" "TooLong" false, .ki "NoTurn" "BadStep" false, .ki "NoTurn" "Clash" false, .ki "NoTurn" "HasHoles" false, .ki "NoTurn" "Missing" false, .ki "NoTurn" "NoAsk" false, .ki "NoTurn" "NoFacts" false, .ki "NoTurn" "NoFilling" false, .ki "NoTurn" "NoLine" false, .ki "NoTurn" "NoName" false, .ki "NoTurn" "NoPaper" false, .ki "NoTurn" "NoPlace" false, .ki "NoTurn" "NoRule" false, .ki "NoTurn" "NoTerm" false, .ki "NoTurn" "NoText" false, .ki "NoTurn" "NoTurn" true, .ki "NoTurn" "NoUndo" false, .ki "NoTurn" "NoWeighing" false, .ki "NoTurn" "NotApart" false, .ki "NoTurn" "NotClosed" false, .ki "NoTurn" "NotGood" false, .ki "NoTurn" "ShutError" true, .ki "NoTurn" "TooLong" false, .ki "NoUndo" "BadStep" false, .ki "NoUndo" "Clash" false, .ki "NoUndo" "HasHoles" false, .ki "NoUndo" "Missing" false, .ki "NoUndo" "NoAsk" false, .ki "NoUndo" "NoFacts" false, .ki "NoUndo" "NoFilling" false, .ki "NoUndo" "NoLine" false, .ki "NoUndo" "NoName" false, .ki "NoUndo" "NoPaper" false, .ki "NoUndo" "NoPlace" false, .ki "NoUndo" "NoRule" false, .ki "NoUndo" "NoTerm" false, .ki "NoUndo" "NoText" false, .ki "NoUndo" "NoTurn" false, .ki "NoUndo" "NoUndo" true, .ki "NoUndo" "NoWeighing" false, .ki "NoUndo" "NotApart" false, .ki "NoUndo" "NotClosed" false, .ki "NoUndo" "NotGood" false, .ki "NoUndo" "ShutError" true, .ki "NoUndo" "TooLong" false, .ki "NoWeighing" "BadStep" false, .ki "NoWeighing" "Clash" false, .ki "NoWeighing" "HasHoles" false, .ki "NoWeighing" "Missing" false, .ki "NoWeighing" "NoAsk" false, .ki "NoWeighing" "NoFacts" false, .ki "NoWeighing" "NoFilling" false, .ki "NoWeighing" "NoLine" false, .ki "NoWeighing" "NoName" false, .ki "NoWeighing" "NoPaper" false, .ki "NoWeighing" "NoPlace" false, .ki "NoWeighing" "NoRule" false, .ki "NoWeighing" "NoTerm" false, .ki "NoWeighing" "NoText" false, .ki "NoWeighing" "NoTurn" false, .ki "NoWeighing" "NoUndo" false, .ki "NoWeighing" "NoWeighing" true, .ki "NoWeighing" "NotApart" false, .ki "NoWeighing" "NotClosed" false, .ki "NoWeighing" "NotGood" false, .ki "NoWeighing" "ShutError" true, .ki "NoWeighing" "TooLong" false, .ki "NotApart" "BadStep" false, .ki "NotApart" "Clash" false, .ki "NotApart" "HasHoles" false, .ki "NotApart" "Missing" false, .ki "NotApart" "NoAsk" false, .ki "NotApart" "NoFacts" false, .ki "NotApart" "NoFilling" false, .ki "NotApart" "NoLine" false, .ki "NotApart" "NoName" false, .ki "NotApart" "NoPaper" false, .ki "NotApart" "NoPlace" false, .ki "NotApart" "NoRule" false, .ki "NotApart" "NoTerm" false, .ki "NotApart" "NoText" false, .ki "NotApart" "NoTurn" false, .ki "NotApart" "NoUndo" false, .ki "NotApart" "NoWeighing" false, .ki "NotApart" "NotApart" true, .ki "NotApart" "NotClosed" false, .ki "NotApart" "NotGood" false, .ki "NotApart" "ShutError" true, .ki "NotApart" "TooLong" false, .ki "NotClosed" "BadStep" false, .ki "NotClosed" "Clash" false, .ki "NotClosed" "HasHoles" false, .ki "NotClosed" "Missing" false, .ki "NotClosed" "NoAsk" false, .ki "NotClosed" "NoFacts" false, .ki "NotClosed" "NoFilling" false, .ki "NotClosed" "NoLine" false, .ki "NotClosed" "NoName" false, .ki "NotClosed" "NoPaper" false, .ki "NotClosed" "NoPlace" false, .ki "NotClosed" "NoRule" false, .ki "NotClosed" "NoTerm" false, .ki "NotClosed" "NoText" false, .ki "NotClosed" "NoTurn" false, .ki "NotClosed" "NoUndo" false, .ki "NotClosed" "NoWeighing" false, .ki "NotClosed" "NotApart" false, .ki "NotClosed" "NotClosed" true, .ki "NotClosed" "NotGood" false, .ki "NotClosed" "ShutError" true, .ki "NotClosed" "TooLong" false, .ki "NotGood" "BadStep" false, .ki "NotGood" "Clash" false, .ki "NotGood" "HasHoles" false, .ki "NotGood" "Missing" false, .ki "NotGood" "NoAsk" false, .ki "NotGood" "NoFacts" false, .ki "NotGood" "NoFilling" false, .ki "NotGood" "NoLine" false, .ki "NotGood" "NoName" false, .ki "NotGood" "NoPaper" false, .ki "NotGood" "NoPlace" false, .ki "NotGood" "NoRule" false, .ki "NotGood" "NoTerm" false, .ki "NotGood" "NoText" false, .ki "NotGood" "NoTurn" false, .ki "NotGood" "NoUndo" false, .ki "NotGood" "NoWeighing" false, .ki "NotGood" "NotApart" false, .ki "NotGood" "NotClosed" false, .ki "NotGood" "NotGood" true, .ki "NotGood" "ShutError" true, .ki "NotGood" "TooLong" false, .ki "ShutError" "BadStep" false, .ki "ShutError" "Clash" false, .ki "ShutError" "HasHoles" false, .ki "ShutError" "Missing" false, .ki "ShutError" "NoAsk" false, .ki "ShutError" "NoFacts" false, .ki "ShutError" "NoFilling" false, .ki "ShutError" "NoLine" false, .ki "ShutError" "NoName" false, .ki "ShutError" "NoPaper" false, .ki "ShutError" "NoPlace" false, .ki "ShutError" "NoRule" false, .ki "ShutError" "NoTerm" false, .ki "ShutError" "NoText" false, .ki "ShutError" "NoTurn" false, .ki "ShutError" "NoUndo" false, .ki "ShutError" "NoWeighing" false, .ki "ShutError" "NotApart" false, .ki "ShutError" "NotClosed" false, .ki "ShutError" "NotGood" false, .ki "ShutError" "ShutError" true, .ki "ShutError" "TooLong" false, .ki "TooLong" "BadStep" false, .ki "TooLong" "Clash" false, .ki "TooLong" "HasHoles" false, .ki "TooLong" "Missing" false, .ki "TooLong" "NoAsk" false, .ki "TooLong" "NoFacts" false, .ki "TooLong" "NoFilling" false, .ki "TooLong" "NoLine" false, .ki "TooLong" "NoName" false, .ki "TooLong" "NoPaper" false, .ki "TooLong" "NoPlace" false, .ki "TooLong" "NoRule" false, .ki "TooLong" "NoTerm" false, .ki "TooLong" "NoText" false, .ki "TooLong" "NoTurn" false, .ki "TooLong" "NoUndo" false, .ki "TooLong" "NoWeighing" false, .ki "TooLong" "NotApart" false, .ki "TooLong" "NotClosed" false, .ki "TooLong" "NotGood" false, .ki "TooLong" "ShutError" true, .ki "TooLong" "TooLong" true, .kb "BadStep" "ValueError" true, .kb "Clash" "ValueError" true, .kb "HasHoles" "ValueError" true, .kb "Missing" "KeyError" true, .kb "Missing" "ValueError" false, .kb "NoAsk" "ValueError" true, .kb "NoFacts" "ValueError" true, .kb "NoFilling" "ValueError" true, .kb "NoLine" "ValueError" true, .kb "NoName" "ValueError" true, .kb "NoPaper" "ValueError" true, .kb "NoPlace" "ValueError" true, .kb "NoRule" "ValueError" true, .kb "NoTerm" "ValueError" true, .kb "NoText" "ValueError" true, .kb "NoTurn" "ValueError" true, .kb "NoUndo" "ValueError" true, .kb "NoWeighing" "ValueError" true, .kb "NotApart" "ValueError" true, .kb "NotClosed" "ValueError" true, .kb "NotGood" "ValueError" true, .kb "ShutError" "ValueError" true, .kb "TooLong" "ValueError" true, .kn "BadStep", .kn "Clash", .kn "HasHoles", .kn "Missing", .kn "NoAsk", .kn "NoFacts", .kn "NoFilling", .kn "NoLine", .kn "NoName", .kn "NoPaper", .kn "NoPlace", .kn "NoRule", .kn "NoTerm", .kn "NoText", .kn "NoTurn", .kn "NoUndo", .kn "NoWeighing", .kn "NotApart", .kn "NotClosed", .kn "NotGood", .kn "ShutError", .kn "TooLong", .oex "BadStep", .oex "Clash", .oek "Missing", .oex "NoPlace", .oex "NoText", .oex "NotClosed", .oex "NotGood", .oex "TooLong"]
abbrev R : PySem.W.OpenRow := PySem.W.OpenLaw.row PySem.Challenge.rw_shutnames_k07_refusals_made
abbrev hk : PySem.W.Hook := hookZ 0 (List.range 1200) faL fnL fxL
def ob (s : PySem.W.SharedT) : AlZ := obsZ 0 (List.range 1200) faL fnL fxL (HandSHeadRun.getT s)
theorem ob_eq (s : PySem.W.SharedT) : ob s = hk.obs s.abs := by
 have e : HandSHeadRun.getT s = s.abs.heap.get? := funext (HandSHeadRun.getT_eq s)
 show obsZ 0 (List.range 1200) faL fnL fxL (HandSHeadRun.getT s) = _
 rw [e] <;> rfl
def lo0 : List Str := ["ShutError", "NoName", "NoTurn", "NoTerm", "HasHoles", "NoFilling", "NoFacts", "NoAsk", "NotApart", "NoRule", "NoWeighing", "NoPaper", "NoLine", "NoUndo", "NoPlace", "BadStep", "Clash", "NotClosed", "TooLong", "NotGood", "NoText", "Missing", "_law_mixed", "_law_pile", "_law_take", "_law_name", "_law_words", "_law_plain", "_law_fields", "_law_right"]
def lo1 : List Str := ["_law_taken"]
def loL : List Str := lo0 ++ lo1
theorem run (w : World) : HandSHeadRun.RunEq R (PySem.W.view R.prog [33]) hk ob 30000 loL w := by
 intro os
 kernel_rfl
end K07
end
section
namespace DL
open PySem PySem.Spec PyProof.Rows L2
def NewT (H : Hp) (Q : VK) (ys : List V) : Prop := ∀ (p : Addr) (ob : Obj), H p = none → ob.dict = none → Q (.ref p) (upd H p (.frz ob (.tup ys)))
section
variable {X : Cx}
theorem newT_at {pins : List (Addr × Obj)} {σ : L2.St} {H : Hp} {s : Shared} {Q : VK} {ys : List V} {its : List Value} (I : Inv X pins σ H s) (r : Vals ys its) (hz : ys.length ≤ sizeLine) (q : NewT H Q ys) :
  L2.EP X pins σ Q (.ref s.heap.objs.size) { s with heap := s.heap.push { cls := .type "tuple", data := .seq its.toArray } } := by
 have hn : H s.heap.objs.size = none := I.hok.fresh (Nat.le_refl _)
 have hp := Heap.get?_push_size s.heap (o := { cls := .type "tuple", data := .seq its.toArray }) rfl
 exact ⟨.ref s.heap.objs.size, _, I.laid (t' := s.toks) (o := .frz _ (.tup ys)) (fun b ob z => Heap.get?_push_of_some _ z) (Nat.le_refl _) ⟨hp, hz, its, r, _, hp, rfl, _, rfl⟩, rfl, q _ _ hn rfl⟩
def tTupF (t : TA) : TE := fun σ H Q => t σ H fun ys H1 => ys.length ≤ sizeLine ∧ NewT H1 Q ys
theorem pe_tupF {es : List Expr} {t : TA} {k : Nat} {pos : Pos} (h : PA X es t) : PE X (.Tuple es k pos) (tTupF t) :=
 ⟨fun pins s σ H Q I hq => wpAny_Tuple_spliced (thn (h.run pos pins s σ H _ I hq) fun us s1 ⟨ys, H1, I1, r, z, q⟩ => ⟨by rw [← r.length]; exact z, newT_at I1 r z q⟩)⟩
def rCatF (K : PySem.W.Frag) : R2 := fun x y H Q => ∃ a b us ws, x = .ref a ∧ y = .ref b ∧ SqT K H a us ∧ SqT K H b ws ∧ us.length + ws.length ≤ sizeLine ∧ (us = [] → Q (.ref b) H) ∧ (us ≠ [] → ws = [] → Q (.ref a) H) ∧ (us ≠ [] → ws ≠ [] → NewT H Q (us ++ ws))
theorem op_catF : OpR X (binaryOp .Add) (rCatF X.K) := fun pins s σ H x y v u Q I rx ry ⟨a, b, us, ws, ex, ey, ha, hb, hz, q0, q1, q2⟩ => by
 subst ex ey
 cases rx
 cases ry
 obtain ⟨its, r1, p1, _⟩ := I.tuple ha
 obtain ⟨jts, r2, p2, _⟩ := I.tuple hb
 by_cases hu : us = []
 ·have e : its = [] := r1.nil_iff.mpr hu
  subst e
  exact cat_tup0 p1 p2 ⟨.ref b, H, I, rfl, q0 hu⟩
 ·refine HT.cat_tup p1 p2 (fun z => hu (r1.nil_iff.mp z)) (fun z => ⟨.ref a, H, I, rfl, q1 hu (r2.nil_iff.mp z)⟩) (fun z => newT_at I (r1.append r2) (by rw [List.length_append]; exact hz) (q2 hu fun w => z (r2.nil_iff.mpr w))) ?_
  rw [← r1.length, ← r2.length]
  exact hz
theorem call_tupF : CallR X (.type "tuple") (fun xs H Q => ∃ p ys, xs = [.ref p] ∧ ((SqL X.K H p ys ∧ NewT H Q ys) ∨ (SqT X.K H p ys ∧ Q (.ref p) H))) := fun pins s σ H xs us Q I r ⟨p, ys, ex, h⟩ => by
 subst ex
 rcases h with ⟨hq, q⟩ | h
 ·obtain ⟨u, eu, rx⟩ := vals1 r
  subst eu
  cases rx
  obtain ⟨its, rv, pl, hz⟩ := I.list hq
  exact call_tuple_list pl.isList (fun h' kp => newT_at (s := { s with heap := h' }) (I.kept (t' := s.toks) kp) rv hz q) (by simp only [List.size_toArray]; rw [← rv.length]; exact hz)
 ·exact call_tuple_of pins s σ H _ us Q I r ⟨p, ys, rfl, .inr h⟩
end
end DL
end
section
namespace DL
class TheW where
 w : PySem.World
variable [TheW]
open PySem PySem.Spec PyProof.Rows L2
abbrev D := PyData
abbrev Frag := PySem.W.Frag
def kD : Key → D
 | .inl i => .int i
 | .inr x => .str x
def TupN (K : Frag) (F : Hp) (a : Addr) (xs : List V) : Prop := (∃ ob : Obj, F a = some (.frz ob (.tup xs)) ∧ ob.dict = none) ∨ (SqT K F a xs ∧ ∃ o, K.lookup a = some o ∧ o.cls = .type "tuple" ∧ o.dict = none)
theorem TupN.mono {K : Frag} {F F' : Hp} {a : Addr} {xs : List V} (e : Same F F') (h : TupN K F a xs) : TupN K F' a xs := h.elim (fun ⟨ob, h, q⟩ => .inl ⟨ob, e _ _ h, q⟩) fun ⟨h, q⟩ => .inr ⟨h.elim (fun h => .inl (h.elim (fun h => .inl (e _ _ h)) fun ⟨o, h⟩ => .inr ⟨o, e _ _ h⟩)) .inr, q⟩
theorem TupN.seq {K : Frag} {F : Hp} {a : Addr} {xs : List V} (h : TupN K F a xs) : SqT K F a xs := h.elim (fun ⟨ob, h, _⟩ => .inl (.inr ⟨ob, h⟩)) fun ⟨h, _⟩ => h
def ExX (cls : Value) (d : Option Addr) (a : Addr) : HO := .ext fun h => ∃ (oe : Obj) (vs : Array Value), h.get? a = some oe ∧ oe.cls = cls ∧ oe.dict = d ∧ oe.data = .fields vs
def excL (y : Str) (fs : List (Str × D)) : List D := .str y :: fs.map fun p => .tuple [.str p.1, p.2]
def excD (y : Str) (fs : List (Str × D)) : D := .dict [(.none, .list (excL y fs))]
def notE : List D → Bool
 | .str _ :: _ => false
 | .none :: _ => false
 | _ => true
def tdL (l : List (D × D)) : D := .dict [(.none, .list (.none :: l.map fun p => .tuple [p.1, p.2]))]
def ObX (ob : Obj) (a : Addr) : HO := .ext fun h => h.get? a = some ob
def hashT (ks : List Key) : Int := reduceHash (Builtin.Tuple.tupleHashOf (ks.map (keyH TheW.w)))
def TabT (K : Frag) (F : Hp) (a : Addr) (ob : Obj) (kvs : List (List Key × V)) : Prop := kvs.length ≤ sizeLine ∧ (a == sysModules) = false ∧
 ∃ (es : Array DictEntry) (ep : Nat) (xs : List (List Key × Addr × Value)), ob.ExactDict ∧ ob.data = .dict es ep ∧ es.toList = xs.map (fun x => ⟨hashT x.1, .ref x.2.1, x.2.2⟩) ∧ (xs.map (·.1)).Nodup ∧
  Paired (fun (p : List Key × V) (q : List Key × Addr × Value) => p.1 = q.1 ∧ TupN K F q.2.1 (p.1.map kV) ∧ RelV p.2 q.2.2) kvs xs
theorem TabT.mono {K : Frag} {F F' : Hp} {a : Addr} {ob : Obj} {kvs : List (List Key × V)} (e : Same F F') (h : TabT K F a ob kvs) : TabT K F' a ob kvs := by
 obtain ⟨z, y, es, ep, xs, h1, h2, h3, h4, h5⟩ := h
 exact ⟨z, y, es, ep, xs, h1, h2, h3, h4, Paired.mapP h5 fun p q z => ⟨z.1, z.2.1.mono e, z.2.2⟩⟩
mutual
inductive Rp (K : Frag) (F : Hp) : V → D → Prop
 | non : Rp K F .non .none
 | bl (b : Bool) : Rp K F (.bl b) (.bool b)
 | int (i : Int) : Rp K F (.int i) (.int i)
 | str (x : Str) : Rp K F (.str x) (.str x)
 | lst {a : Addr} {xs : List V} {ds : List D} : F a = some (.lst xs) → RpAll K F xs ds → Rp K F (.ref a) (.list ds)
 | scr {a : Addr} {xs : List V} {ds : List D} : notE ds = true → SqL K F a xs → RpAll K F xs ds → Rp K F (.ref a) (.dict [(.none, .list ds)])
 | tup {a : Addr} {xs : List V} {ds : List D} : TupN K F a xs → RpAll K F xs ds → Rp K F (.ref a) (.tuple ds)
 | dcK {a : Addr} {ob : Obj} {kvs : List (Key × V)} {ds : List D} : F a = some (.frz ob (.dK kvs)) → RpAll K F (kvs.map (·.2)) ds → Rp K F (.ref a) (.dict ((kvs.map fun p => kD p.1).zip ds))
 | dcT {a : Addr} {ob : Obj} {kvs : List (List Key × V)} {ds : List D} : F a = some (ObX ob a) → TabT K F a ob kvs → RpAll K F (kvs.map (·.2)) ds → Rp K F (.ref a) (tdL ((kvs.map fun p => PyData.tuple (p.1.map kD)).zip ds))
 | exc {a : Addr} {d : Option Addr} {y : Str} {fvs : List (Str × V)} {ds : List D} : F a = some (ExX (.ref (He.ga K y)) d a) → (fvs ≠ [] → ∃ dd, d = some dd ∧ F dd = some (.xd fvs)) → (fvs = [] → d = none) → RpAll K F (fvs.map (·.2)) ds → Rp K F (.ref a) (excD y ((fvs.map (·.1)).zip ds))
inductive RpAll (K : Frag) (F : Hp) : List V → List D → Prop
 | nil : RpAll K F [] []
 | cons {v : V} {vs : List V} {d : D} {ds : List D} : Rp K F v d → RpAll K F vs ds → RpAll K F (v :: vs) (d :: ds)
end
theorem sq_l {K : Frag} {F F' : Hp} {a : Addr} {xs : List V} (e : Same F F') (h : SqL K F a xs) : SqL K F' a xs := e.seq h
theorem sq_t {K : Frag} {F F' : Hp} {a : Addr} {xs : List V} (e : Same F F') (h : SqT K F a xs) : SqT K F' a xs := by
 rcases h with (h | ⟨o, h⟩) | h
 ·exact .inl (.inl (e _ _ h))
 ·exact .inl (.inr ⟨o, e _ _ h⟩)
 ·exact .inr h
mutual
theorem Rp.mono {K : Frag} {F F' : Hp} (e : Same F F') : ∀ {v : V} {d : D}, Rp K F v d → Rp K F' v d
 | _, _, .non => .non
 | _, _, .bl b => .bl b
 | _, _, .int i => .int i
 | _, _, .str x => .str x
 | _, _, .lst h r => .lst (e _ _ h) (RpAll.mono e r)
 | _, _, .scr n h r => .scr n (sq_l e h) (RpAll.mono e r)
 | _, _, .tup h r => .tup (h.mono e) (RpAll.mono e r)
 | _, _, .dcK h r => .dcK (e _ _ h) (RpAll.mono e r)
 | _, _, .dcT h t r => .dcT (e _ _ h) (t.mono e) (RpAll.mono e r)
 | _, _, .exc h1 h2 h3 r => .exc (e _ _ h1) (fun q => by obtain ⟨dd, e1, e2⟩ := h2 q; exact ⟨dd, e1, e _ _ e2⟩) h3 (RpAll.mono e r)
theorem RpAll.mono {K : Frag} {F F' : Hp} (e : Same F F') : ∀ {vs : List V} {ds : List D}, RpAll K F vs ds → RpAll K F' vs ds
 | _, _, .nil => .nil
 | _, _, .cons h r => .cons (Rp.mono e h) (RpAll.mono e r)
end
section
variable {K : Frag} {F : Hp}
theorem RpAll.length : ∀ {vs : List V} {ds : List D}, RpAll K F vs ds → vs.length = ds.length
 | _, _, .nil => rfl
 | _, _, .cons _ r => by rw [List.length_cons, List.length_cons, RpAll.length r]
theorem RpAll.getD : ∀ {vs : List V} {ds : List D} {i : Nat} {d : D}, RpAll K F vs ds → ds[i]? = some d → ∃ v, vs[i]? = some v ∧ Rp K F v d
 | _, _, _, _, .nil, e => by simp at e
 | _, _, 0, _, .cons h _, e => by simp at e; subst e; exact ⟨_, rfl, h⟩
 | _, _, i + 1, _, .cons _ r, e => by
  obtain ⟨d, h1, h2⟩ := RpAll.getD (i := i) r (by simpa using e)
  exact ⟨d, by simpa using h1, h2⟩
theorem RpAll.append : ∀ {vs ws : List V} {ds es : List D}, RpAll K F vs ds → RpAll K F ws es → RpAll K F (vs ++ ws) (ds ++ es)
 | _, _, _, _, .nil, s => s
 | _, _, _, _, .cons h r, s => .cons h (RpAll.append r s)
theorem RpAll.set {v : V} {d : D} (h : Rp K F v d) : ∀ {vs : List V} {ds : List D} (i : Nat), RpAll K F vs ds → RpAll K F (vs.set i v) (ds.set i d)
 | _, _, _, .nil => .nil
 | _, _, 0, .cons _ r => .cons h r
 | _, _, i + 1, .cons q r => .cons q (RpAll.set h i r)
theorem RpAll.one {v : V} {d : D} (h : Rp K F v d) : RpAll K F [v] [d] := .cons h .nil
end
inductive OV where
 | d (x : D)
 | lst (xs : List D)
 | dct (kvs : List (D × D))
 | dctT (kvs : List (D × D))
 | obj (c : Str) (fs : List (Str × OV))
 | tup (fs : List (Str × OV))
 | bag (fs : List (Str × OV))
mutual
/-- v stands for o: what is owned stands at O, not in the frozen part F -/
inductive OwR (K : Frag) (ca : Str → Addr) (F H : Hp) : V → OV → List Addr → Prop
 | d {v : V} {x : D} : Rp K F v x → OwR K ca F H v (.d x) []
 | lst {p : Addr} {vs : List V} {xs : List D} : H p = some (.lst vs) → RpAll K F vs xs → OwR K ca F H (.ref p) (.lst xs) [p]
 | dcK {p : Addr} {kvs : List (Key × V)} {ds : List D} : H p = some (.dK kvs) → RpAll K F (kvs.map (·.2)) ds → OwR K ca F H (.ref p) (.dct ((kvs.map fun q => kD q.1).zip ds)) [p]
 | dcT {p : Addr} {kvs : List (List Key × V)} {ds : List D} {ob : Obj} : H p = some (ObX ob p) → TabT K F p ob kvs → RpAll K F (kvs.map (·.2)) ds → OwR K ca F H (.ref p) (.dctT ((kvs.map fun q => PyData.tuple (q.1.map kD)).zip ds)) [p]
 | obj {p dx : Addr} {c : Str} {fvs : List (Str × V)} {fs : List (Str × OV)} {O : List Addr} : H p = some (.ins (ca c) dx fvs) → H dx = some (.own p) → OwF K ca F H fvs fs O → OwR K ca F H (.ref p) (.obj c fs) (p :: dx :: O)
 | tup {a : Addr} {fvs : List (Str × V)} {fs : List (Str × OV)} {O : List Addr} : TupN K F a (fvs.map (·.2)) → OwF K ca F H fvs fs O → OwR K ca F H (.ref a) (.tup fs) O
 | bag {p : Addr} {fvs : List (Str × V)} {fs : List (Str × OV)} {O : List Addr} : H p = some (.dK (fvs.map fun q => (Sum.inr q.1, q.2))) → OwF K ca F H fvs fs O → OwR K ca F H (.ref p) (.bag fs) (p :: O)
inductive OwF (K : Frag) (ca : Str → Addr) (F H : Hp) : List (Str × V) → List (Str × OV) → List Addr → Prop
 | nil : OwF K ca F H [] [] []
 | cons {x : Str} {v : V} {o : OV} {r : List (Str × V)} {s : List (Str × OV)} {A B : List Addr} : OwR K ca F H v o A → OwF K ca F H r s B → OwF K ca F H ((x, v) :: r) ((x, o) :: s) (A ++ B)
end
mutual
theorem OwR.mono {K : Frag} {ca : Str → Addr} {F F' H H' : Hp} (e : Same F F') : ∀ {v : V} {o : OV} {O : List Addr}, OwR K ca F H v o O → (∀ b ∈ O, H' b = H b) → OwR K ca F' H' v o O
 | _, _, _, .d r, _ => .d (r.mono e)
 | _, _, _, .lst h r, k => .lst ((k _ (List.mem_singleton_self _)).trans h) (r.mono e)
 | _, _, _, .dcK h r, k => .dcK ((k _ (List.mem_singleton_self _)).trans h) (r.mono e)
 | _, _, _, .dcT h t r, k => .dcT ((k _ (List.mem_singleton_self _)).trans h) (t.mono e) (r.mono e)
 | _, _, _, .obj h1 h2 r, k => .obj ((k _ (by simp)).trans h1) ((k _ (by simp)).trans h2) (OwF.mono e r fun b hb => k b (by simp [hb]))
 | _, _, _, .tup h r, k => .tup (h.mono e) (OwF.mono e r k)
 | _, _, _, .bag h r, k => .bag ((k _ (by simp)).trans h) (OwF.mono e r fun b hb => k b (by simp [hb]))
theorem OwF.mono {K : Frag} {ca : Str → Addr} {F F' H H' : Hp} (e : Same F F') : ∀ {fvs : List (Str × V)} {fs : List (Str × OV)} {O : List Addr}, OwF K ca F H fvs fs O → (∀ b ∈ O, H' b = H b) → OwF K ca F' H' fvs fs O
 | _, _, _, .nil, _ => .nil
 | _, _, _, .cons h r, k => .cons (OwR.mono e h fun b hb => k b (by simp [hb])) (OwF.mono e r fun b hb => k b (by simp [hb]))
end
mutual
theorem OwR.there {K : Frag} {ca : Str → Addr} {F H : Hp} : ∀ {v : V} {o : OV} {O : List Addr}, OwR K ca F H v o O → ∀ b ∈ O, H b ≠ none
 | _, _, _, .d _, b, hb => by simp at hb
 | _, _, _, .lst h _, b, hb => by rw [List.mem_singleton] at hb; rw [hb, h]; simp
 | _, _, _, .dcK h _, b, hb => by rw [List.mem_singleton] at hb; rw [hb, h]; simp
 | _, _, _, .dcT h _ _, b, hb => by rw [List.mem_singleton] at hb; rw [hb, h]; simp
 | _, _, _, .obj h1 h2 r, b, hb => by
  rcases List.mem_cons.mp hb with e | hb
  ·rw [e, h1]; simp
  ·rcases List.mem_cons.mp hb with e | hb
   ·rw [e, h2]; simp
   ·exact OwF.there r b hb
 | _, _, _, .tup _ r, b, hb => OwF.there r b hb
 | _, _, _, .bag h r, b, hb => by
  rcases List.mem_cons.mp hb with e | hb
  ·rw [e, h]; simp
  ·exact OwF.there r b hb
theorem OwF.there {K : Frag} {ca : Str → Addr} {F H : Hp} : ∀ {fvs : List (Str × V)} {fs : List (Str × OV)} {O : List Addr}, OwF K ca F H fvs fs O → ∀ b ∈ O, H b ≠ none
 | _, _, _, .nil, b, hb => by simp at hb
 | _, _, _, .cons h r, b, hb => by
  rcases List.mem_append.mp hb with hb | hb
  ·exact OwR.there h b hb
  ·exact OwF.there r b hb
end
inductive RpB (K : Frag) (F H : Hp) : V → D → Prop
 | d {v : V} {x : D} : Rp K F v x → RpB K F H v x
 | lst {p : Addr} {vs : List V} {xs : List D} : H p = some (.lst vs) → RpAll K F vs xs → RpB K F H (.ref p) (.list xs)
 | dcK {p : Addr} {kvs : List (Key × V)} {ds : List D} : Rd H p (.dK kvs) → RpAll K F (kvs.map (·.2)) ds → RpB K F H (.ref p) (.dict ((kvs.map fun q => kD q.1).zip ds))
 | dcT {p : Addr} {kvs : List (List Key × V)} {ds : List D} {ob : Obj} : H p = some (ObX ob p) → TabT K F p ob kvs → RpAll K F (kvs.map (·.2)) ds → RpB K F H (.ref p) (tdL ((kvs.map fun q => PyData.tuple (q.1.map kD)).zip ds))
theorem rd_mono {H H' : Hp} (k : Same H H') {a : Addr} {u : HO} (h : Rd H a u) : Rd H' a u := h.elim (fun h => .inl (k _ _ h)) fun ⟨o, h⟩ => .inr ⟨o, k _ _ h⟩
theorem RpB.mono {K : Frag} {F F' H H' : Hp} (e : Same F F') (k : Same H H') {v : V} {x : D} (h : RpB K F H v x) : RpB K F' H' v x := by
 cases h with
 | d r => exact .d (r.mono e)
 | lst h r => exact .lst (k _ _ h) (r.mono e)
 | dcK h r => exact .dcK (rd_mono k h) (r.mono e)
 | dcT h t r => exact .dcT (k _ _ h) (t.mono e) (r.mono e)
def OV.look : OV → Option D
 | .d x => some x
 | .lst xs => some (.list xs)
 | .dct kvs => some (.dict kvs)
 | .dctT kvs => some (tdL kvs)
 | _ => none
def OV.frz1 : OV → Option D
 | .d x => some x
 | .lst xs => some (.list xs)
 | _ => none
def frzL : List (Str × OV) → Option (List D)
 | [] => some []
 | (_, o) :: r => o.frz1.bind fun x => (frzL r).bind fun xs => some (x :: xs)
def OV.frz : OV → Option D
 | .d x => some x
 | .lst xs => some (.list xs)
 | .tup fs => (frzL fs).bind fun xs => some (.tuple xs)
 | _ => none
theorem OwR.look {K : Frag} {ca : Str → Addr} {F H : Hp} {v : V} {o : OV} {O : List Addr} {x : D} (h : OwR K ca F H v o O) (e : o.look = some x) : RpB K F H v x := by
 cases h with
 | d r => cases e; exact .d r
 | lst h r => cases e; exact .lst h r
 | dcK h r => cases e; exact .dcK (.inl h) r
 | dcT h t r => cases e; exact .dcT h t r
 | obj _ _ _ => cases e
 | tup _ _ => cases e
 | bag _ _ => cases e
abbrev Env := List (Option OV)
abbrev Sl := L2.St
inductive SlR (K : Frag) (ca : Str → Addr) (F H : Hp) : Sl → Env → List Addr → Prop
 | nil : SlR K ca F H [] [] []
 | no {v : Option V} {σ : Sl} {ρ : Env} {O : List Addr} : SlR K ca F H σ ρ O → SlR K ca F H (v :: σ) (none :: ρ) O
 | so {v : V} {o : OV} {A : List Addr} {σ : Sl} {ρ : Env} {O : List Addr} : OwR K ca F H v o A → SlR K ca F H σ ρ O → SlR K ca F H (some v :: σ) (some o :: ρ) (A ++ O)
section
variable {K : Frag} {ca : Str → Addr} {F F' H H' : Hp}
theorem SlR.length : ∀ {σ : Sl} {ρ : Env} {O : List Addr}, SlR K ca F H σ ρ O → σ.length = ρ.length
 | _, _, _, .nil => rfl
 | _, _, _, .no r => by rw [List.length_cons, List.length_cons, r.length]
 | _, _, _, .so _ r => by rw [List.length_cons, List.length_cons, r.length]
theorem SlR.mono (e : Same F F') : ∀ {σ : Sl} {ρ : Env} {O : List Addr}, SlR K ca F H σ ρ O → (∀ b ∈ O, H' b = H b) → SlR K ca F' H' σ ρ O
 | _, _, _, .nil, _ => .nil
 | _, _, _, .no r, k => .no (r.mono e k)
 | _, _, _, .so h r, k => .so (h.mono e fun b hb => k b (by simp [hb])) (r.mono e fun b hb => k b (by simp [hb]))
theorem SlR.there : ∀ {σ : Sl} {ρ : Env} {O : List Addr}, SlR K ca F H σ ρ O → ∀ b ∈ O, H b ≠ none
 | _, _, _, .nil, b, hb => by simp at hb
 | _, _, _, .no r, b, hb => r.there b hb
 | _, _, _, .so h r, b, hb => by
  rcases List.mem_append.mp hb with hb | hb
  ·exact h.there b hb
  ·exact r.there b hb
theorem SlR.at : ∀ {σ : Sl} {ρ : Env} {O : List Addr} {i : Nat} {o : OV}, SlR K ca F H σ ρ O → ρ[i]? = some (some o) →
  ∃ v A R, σ[i]? = some (some v) ∧ OwR K ca F H v o A ∧ O.Perm (A ++ R) ∧ ∀ F' H', Same F F' → (∀ b ∈ R, H' b = H b) →
   SlR K ca F' H' σ (ρ.set i none) R ∧ ∀ v' o' A', OwR K ca F' H' v' o' A' → ∃ O', SlR K ca F' H' (σ.set i (some v')) (ρ.set i (some o')) O' ∧ O'.Perm (A' ++ R)
 | _, _, _, _, _, .nil, e => by simp at e
 | v :: σ, none :: ρ, O, 0, o, .no r, e => by simp at e
 | v :: σ, none :: ρ, O, i + 1, o, .no r, e => by
  obtain ⟨w, A, R, h1, h2, h3, h4⟩ := SlR.at (i := i) r (by simpa using e)
  refine ⟨w, A, R, by simpa using h1, h2, h3, fun F' H' eF k => ?_⟩
  obtain ⟨k1, k2⟩ := h4 F' H' eF k
  refine ⟨.no k1, fun v' o' A' q => ?_⟩
  obtain ⟨O', q1, q2⟩ := k2 v' o' A' q
  exact ⟨O', .no q1, q2⟩
 | some v :: σ, some o' :: ρ, _, 0, o, .so (O := O) (A := A) h r, e => by
  have e' : o' = o := by simpa using e
  subst e'
  refine ⟨v, A, O, rfl, h, List.Perm.refl _, fun F' H' eF k => ⟨.no (r.mono eF k), fun v' o' A' q => ⟨A' ++ O, .so q (r.mono eF k), List.Perm.refl _⟩⟩⟩
 | some v :: σ, some o' :: ρ, _, i + 1, o, .so (O := O) (A := A) h r, e => by
  obtain ⟨w, A1, R, h1, h2, h3, h4⟩ := SlR.at (i := i) r (by simpa using e)
  refine ⟨w, A1, A ++ R, by simpa using h1, h2, ?_, fun F' H' eF k => ?_⟩
  ·refine (List.Perm.append_left A h3).trans ?_
   rw [← List.append_assoc, ← List.append_assoc]
   exact List.Perm.append_right R List.perm_append_comm
  ·obtain ⟨k1, k2⟩ := h4 F' H' eF fun b hb => k b (by simp [hb])
   refine ⟨.so (h.mono eF fun b hb => k b (by simp [hb])) k1, fun v' o' A' q => ?_⟩
   obtain ⟨O', q1, q2⟩ := k2 v' o' A' q
   refine ⟨A ++ O', .so (h.mono eF fun b hb => k b (by simp [hb])) q1, ?_⟩
   refine (List.Perm.append_left A q2).trans ?_
   rw [← List.append_assoc, ← List.append_assoc]
   exact List.Perm.append_right R List.perm_append_comm
theorem SlR.put : ∀ {σ : Sl} {ρ : Env} {O : List Addr} {i : Nat}, SlR K ca F H σ ρ O → i < σ.length →
  ∃ R, (∀ b ∈ R, b ∈ O) ∧ (O.Nodup → R.Nodup) ∧ (∀ x : Option V, SlR K ca F H (σ.set i x) (ρ.set i none) R) ∧ ∀ v o A, OwR K ca F H v o A → ∃ O', SlR K ca F H (σ.set i (some v)) (ρ.set i (some o)) O' ∧ O'.Perm (A ++ R)
 | _, _, _, _, .nil, e => by simp at e
 | v :: σ, none :: ρ, O, 0, .no r, e => ⟨O, fun _ h => h, fun h => h, fun x => .no r, fun v o A q => ⟨A ++ O, .so q r, List.Perm.refl _⟩⟩
 | v :: σ, none :: ρ, O, i + 1, .no r, e => by
  obtain ⟨R, h1, h2, h3, h4⟩ := SlR.put (i := i) r (by simpa using e)
  refine ⟨R, h1, h2, fun x => .no (h3 x), fun v o A q => ?_⟩
  obtain ⟨O', q1, q2⟩ := h4 v o A q
  exact ⟨O', .no q1, q2⟩
 | some v :: σ, some o' :: ρ, _, 0, .so (O := O) (A := A) h r, e => ⟨O, fun b hb => by simp [hb], fun n => (List.nodup_append.mp n).2.1, fun x => .no r, fun v o A q => ⟨A ++ O, .so q r, List.Perm.refl _⟩⟩
 | some v :: σ, some o' :: ρ, _, i + 1, .so (O := O) (A := A) h r, e => by
  obtain ⟨R, h1, h2, h3, h4⟩ := SlR.put (i := i) r (by simpa using e)
  refine ⟨A ++ R, fun b hb => ?_, fun n => ?_, fun x => .so h (h3 x), fun v o A1 q => ?_⟩
  ·rcases List.mem_append.mp hb with hb | hb
   ·simp [hb]
   ·simp [h1 b hb]
  ·obtain ⟨n1, n2, n3⟩ := List.nodup_append.mp n
   exact List.nodup_append.mpr ⟨n1, h2 n2, fun a ha b hb => n3 a ha b (h1 b hb)⟩
  ·obtain ⟨O', q1, q2⟩ := h4 v o A1 q
   refine ⟨A ++ O', .so h q1, ?_⟩
   refine (List.Perm.append_left A q2).trans ?_
   rw [← List.append_assoc, ← List.append_assoc]
   exact List.Perm.append_right R List.perm_append_comm
end
end DL
end
section
namespace DL
open PySem PySem.Spec PyProof.Rows L2 PySem.HandSPX
section
variable {X : Cx} {CX : CXT} {y : Str} {C g : Addr} {lv : Nat} {fd : FuncData} {ps : List Str} {sp : Sp}
theorem made_start {pins : List (Addr × Obj)} {σ : L2.St} {H : Hp} {B : Heap} {gs : Array GenState} {dr : Drawn} {tk : Nat} {os : OsState} {us : List Value} (J : Inv X pins σ H ⟨B, gs, dr, tk, os⟩) :
  Inv X pins σ (upd H (B.objs.size + 1) (exo (B.objs.size + 1) C none)) ⟨(B.push (PySem.W.kdv_tup us)).push (excO C B.objs.size), gs, dr, tk, os⟩ := by
 have at' : ((B.push (PySem.W.kdv_tup us)).push (excO C B.objs.size)).get? (B.objs.size + 1) = some (excO C B.objs.size) := by heap_get
 exact J.laid (t' := tk) (fun b u z => Heap.get?_push_of_some _ (Heap.get?_push_of_some _ z)) (Nat.le_add_right _ 1) (exo_ok at')
theorem made_end {pins : List (Addr × Obj)} {σ : L2.St} {H : Hp} {B : Heap} {gs : Array GenState} {dr : Drawn} {tk : Nat} {os : OsState} {us : List Value} {Q : XK} {s' : Shared} (T : OexC X.K C) (J : Inv X pins σ H ⟨B, gs, dr, tk, os⟩)
  (un : Un (frs X.stack) [] (upd H (B.objs.size + 1) (exo (B.objs.size + 1) C none)) (H2 : Hp) ((B.push (PySem.W.kdv_tup us)).push (excO C B.objs.size)) s'.heap) (hok : HOk X.prog X.w H2 s'.heap) (eo : s'.os = os) (eb : AllBare s'.gens)
  {d : Addr} {fs : List (Str × V)} (ea : H2 (B.objs.size + 1) = some (exo (B.objs.size + 1) C (some d))) (ed : H2 d = some (exd d fs)) (hd : H d = none) (q : Q (.ref C) (some d) (upd (del H2 (B.objs.size + 1)) d (.xd fs))) :
  L2N.MkP X pins σ Q (.ref (B.objs.size + 1)) s' := by
 have kept : ∀ b u, B.get? b = some u → ((B.push (PySem.W.kdv_tup us)).push (excO C B.objs.size)).get? b = some u := fun b u z => Heap.get?_push_of_some _ (Heap.get?_push_of_some _ z)
 obtain ⟨t, G, J2, g1, g2, g3, g4⟩ := mk_end0 (d2 := s'.drawn) (t2 := s'.toks) J (Nat.le_add_right _ 1) kept un hok eo eb ea ed hd
 have ctx : PXN.CtxN ({ cls := .ref C, dict := some d, data := .fields #[.ref t, .none, .none, .none, .bool false, .none] } : Obj) := fun vs e => by
  injection e with e
  rw [← e]; rfl
 exact ⟨_, _, _, _, _, _, some d, rfl, J2, g1, g2, g3, ⟨rfl, rfl, ctx⟩, rfl, rfl, g4, rfl, eb, raises_own T.exC T.tyC, q⟩
variable {e : Expr} {es : List Expr} {ta : TA} {p pos : Pos} {dvs : List V} {ds : List Value}
theorem pmk_oexN (T : OexC X.K C) (iC : PySem.W.findIn X.K (.ref C) "__init__" = some (some (.ref g))) (tI : PySem.W.typeIn X.K (.ref g) = some (.type "function")) (G : FnOk X.prog X.w X.K X.mg X.base CX lv g fd ps sp) (room : Room (lv + 1) X.A)
  (bd : Binds X.K fd ps ds) (vd : Vals dvs ds) (px : Passes CX X (fun _ _ _ => False)) (gl : Gl X y) (mC : X.mg y = some (.ref C)) (ha : PA X (e :: es) ta)
  (nd : (y == ("__debug__" : Str)) = false := by decide) (h1 : starEach (e :: es) X.env = (false, eval e X.env) :: starEach es X.env := by rfl) (h2 : (backTo pos (starEach es X.env)).any (·.1) = false := by rfl) :
  L2N.PMk X (.Call (.Name y p) (e :: es) [] pos) (tMkO C sp dvs ta) := fun pins s σ H Q I h => by
 obtain ⟨_, _, _, _, bm, _, _, _, _, _, _, _, _, _, _, atC, mroC⟩ := T.cls
 have args := ha.run pos pins s σ H _ I h
 refine wpAny_Call_Name_kw (ld_glob I gl mC (PySem.W.callWith_K (h₀ := X.base) I.ok.mod.kin T.kC (thn args ?_) h1 h2) nd)
 rintro us ⟨B, gs, dr, tk, os⟩ ⟨vs, H1, J, rv, few, told⟩
 refine ⟨J.kIn, ?_⟩
 show wpAny _ _ (call (.ref C) us) _ _ _
 have free : H1 (B.objs.size + 1) = none := J.hok.fresh (Nat.le_add_right _ 1)
 have due := told _ free
 have J2 := made_start (C := C) (us := us) J
 have all : Vals (V.ref (B.objs.size + 1) :: (vs ++ dvs)) (Value.ref (B.objs.size + 1) :: (us ++ ds)) := .cons rfl (rv.append vd)
 have size : (Value.ref (B.objs.size + 1) :: us ++ ds).length = ps.length := (G.len _ _ _ _ due ▸ all.length).symm
 have small : us.length ≤ sizeLine := by
  have := Paired.length rv
  rw [sizeLine_eq]
  omega
 have body := G.run _ X.stack _ _ ⟨Value.ref (B.objs.size + 1) :: us, []⟩ (Value.ref (B.objs.size + 1) :: (us ++ ds)) _ _ (fun _ _ _ => False) (room.make C us []) (J2.env0.make C us []) (bd _ (Value.ref (B.objs.size + 1) :: us) J2.kIn size) all due
 refine wpAny_call (call_own F.excBase_ValueError (fun Y => refsVE_contains Y bm mroC) (J.kIn _ _ atC) (PySem.W.looks_findIn J.kIn iC) (fun me => PySem.W.bind_fn J.kIn me tI) small (codeAny_mono body ?_))
 intro r s' z
 match r, z with
 | .error er, z => exact px pins σ _ _ er s' J2 z
 | .ok (.ret u), z =>
  obtain ⟨v, H2, eo, eb, un, hok, ru, ev, d, fs, ea, ed, hd, q⟩ := z
  subst ev
  exact ⟨ru, made_end T J un hok eo eb ea ed hd q⟩
 | .ok .next, z => exact False.elim z
 | .ok .brk, z => exact False.elim z
 | .ok .cont, z => exact False.elim z
end
end DL
end
section
namespace DL
open PySem PySem.Spec PyProof.Rows L2
def CXR (rg : Bool) : Program → World → CXT := match rg with
 | true => L2N.CX
 | false => L2.CX
def TakesR (rg : Bool) (X : Cx) (W : WX) : Prop := match rg with
 | true => L2N.Takes X W
 | false => L2.Takes X W
def ZR (rg : Bool) (cls : Value) (d : Option Addr) : Obj → Prop := match rg with
 | true => L2N.Zn cls d
 | false => L2.Zc cls d
section
variable {rg : Bool} {X : Cx} {W : WX} {cls : Value} {d : Option Addr} {o : Obj}
theorem ZR.zc (h : ZR rg cls d o) : L2.Zc cls d o := match rg, h with
 | true, h => L2N.Zn.zc h
 | false, h => h
theorem passAtR (tk : TakesR rg X W) (σ : L2.St) : PassesAt (CXR rg X.prog X.w) X σ (WE W σ) := match rg, tk with
 | true, tk => L2N.passAt tk σ
 | false, tk => L2.passAt tk σ
theorem takesR_of (h1 : X.stack = X.env :: X.outer) (h2 : X.env.frame = some X.env.locals) (h3 : X.ex = []) {E : XK} {E₁ : Value → Shared → Prop}
  (h4 : X.xe = fun e s => wpAny (model X.prog X.w) X.A (leaving X.env e) (fun _ s1 => CXR rg X.prog X.w X.outer X.H_0 X.s_0 E e s1) E₁ s) : TakesR rg X (fun c d _ H => E c d H) := match rg, h4 with
 | true, h4 => L2N.takes_of h1 h2 h3 h4
 | false, h4 => L2.takes_of h1 h2 h3 h4
theorem cxr_no {P : Program} {w : World} {l : List PySem.Env} {H : Hp} {s s' : Shared} {e : Value} (h : CXR rg P w l H s (fun _ _ _ => False) e s') : False := match rg, h with
 | true, ⟨_, _, _, _, _, _, _, _, _, _, _, _, z⟩ => z
 | false, ⟨_, _, _, _, _, _, _, _, _, _, _, _, z⟩ => z
theorem TakesR.at (tk : TakesR rg X W) {a : Addr} {B : Heap} {sI s' : Shared} {pins : List (Addr × Obj)} {σ : L2.St} {H : Hp} (I : Inv X pins σ H sI) (nb : ∀ b u, sI.heap.get? b = some u → b ∉ frs X.stack → B.get? b = some u) (up : sI.heap.UpToSlots s'.heap)
  (sky : Sky B X.stack a (ZR rg cls d) X.env.locals s'.heap) (na : H a = none) (os : s'.os = sI.os) (ag : AllBare s'.gens) (w : W cls d σ H) : X.xe (.ref a) s' := match rg, tk, sky with
 | true, tk, sky => tk _ _ ⟨a, B, sI, pins, σ, H, cls, d, rfl, I, nb, up, sky, na, os, ag, w⟩
 | false, tk, sky => tk _ _ ⟨a, B, sI, pins, σ, H, cls, d, rfl, I, nb, up, sky, na, os, ag, w⟩
theorem TakesR.mk (h : ∀ (a : Addr) (B : Heap) (sI s' : Shared) (pins : List (Addr × Obj)) (σ : L2.St) (H : Hp) (cls : Value) (d : Option Addr), Inv X pins σ H sI → (∀ b u, sI.heap.get? b = some u → b ∉ frs X.stack → B.get? b = some u) → sI.heap.UpToSlots s'.heap →
  Sky B X.stack a (ZR rg cls d) X.env.locals s'.heap → H a = none → s'.os = sI.os → AllBare s'.gens → W cls d σ H → X.xe (.ref a) s') : TakesR rg X W := match rg, h with
 | true, h => fun _ s' ⟨a, B, sI, pins, σ, H, cls, d, e, I, nb, up, sky, na, os, ag, w⟩ => e ▸ h a B sI s' pins σ H cls d I nb up sky na os ag w
 | false, h => fun _ s' ⟨a, B, sI, pins, σ, H, cls, d, e, I, nb, up, sky, na, os, ag, w⟩ => e ▸ h a B sI s' pins σ H cls d I nb up sky na os ag w
theorem landR {M : Model} {A : Around} {E₁ : Value → Shared → Prop} {env : PySem.Env} {outer : List PySem.Env} {L a : Addr} {B : Heap} {s : Shared} {Q : Unit → Shared → Prop} (h1 : A.frames = some (env :: outer)) (h2 : env.frame = some L) (x : Sky B (env :: outer) a (ZR rg cls d) L s.heap)
  (k : ∀ g, HandSPX.FlyingZ B (env :: outer) a (ZR rg cls d) g → s.heap.UpToSlots g → Q () { s with heap := g }) : wpAny M A (noteFrame (.ref a) env) (fun _ t => wpAny M A (setFlight (.ref a) none) Q E₁ t) E₁ s := match rg, x, k with
 | true, x, k => L2N.Sky.land L2N.Zn.steady h1 h2 x k
 | false, x, k => L2.Sky.land L2.Zc.steady h1 h2 x k
theorem ps_raise_oex {CX : CXT} {y : Str} {C g : Addr} {lv : Nat} {fd : FuncData} {ps : List Str} {sp : Sp} {e : Expr} {es : List Expr} {ta : TA} {p pos pos2 : Pos} {dvs : List V} {ds : List Value} (hc : X.calm = true) (tk : TakesR rg X W)
  (T : OexC X.K C) (iC : PySem.W.findIn X.K (.ref C) "__init__" = some (some (.ref g))) (tI : PySem.W.typeIn X.K (.ref g) = some (.type "function")) (G : FnOk X.prog X.w X.K X.mg X.base CX lv g fd ps sp) (room : Room (lv + 1) X.A)
  (bd : Binds X.K fd ps ds) (vd : Vals dvs ds) (px : Passes CX X (fun _ _ _ => False)) (gl : Gl X y) (mC : X.mg y = some (.ref C)) (ha : PA X (e :: es) ta)
  (nd : (y == ("__debug__" : Str)) = false := by decide) (h1 : starEach (e :: es) X.env = (false, eval e X.env) :: starEach es X.env := by rfl) (h2 : (backTo pos (starEach es X.env)).any (·.1) = false := by rfl) :
  PS X (.Raise (some (.Call (.Name y p) (e :: es) [] pos)) none pos2) (fun _ σ H => tMkO C sp dvs ta σ H fun cls d H1 => W cls d σ H1) := match rg, tk with
 | true, tk => L2N.ps_raise hc tk (pmk_oexN T iC tI G room bd vd px gl mC ha nd h1 h2)
 | false, tk => L2.ps_raise hc tk (L2.pmk_oex T iC tI G room bd vd px gl mC ha nd h1 h2)
end
end DL
end
section
namespace DL
variable [DL.TheW]
open PySem PySem.Spec PyProof.Rows L2
inductive ECls where
 | own (x : Str) | blt (n : String)
 deriving DecidableEq
structure Exc where
 c : ECls
 fs : List (Str × D)
inductive Res (α : Type) where
 | ok (a : α) (ρ : Env)
 | ex (ξ : Exc) (ρ : Env)
 | bad
abbrev M (α : Type) := Env → Res α
def Res.bind {α β : Type} : Res α → (α → Env → Res β) → Res β
 | .ok a ρ, k => k a ρ
 | .ex ξ ρ, _ => .ex ξ ρ
 | .bad, _ => .bad
def Res.post {α : Type} (r : Res α) (P : α → Env → Prop) (E : Exc → Env → Prop) : Prop := match r with
 | .ok a ρ => P a ρ
 | .ex ξ ρ => E ξ ρ
 | .bad => False
theorem Res.post_bind {α β : Type} {r : Res α} {k : α → Env → Res β} {P : β → Env → Prop} {E : Exc → Env → Prop} (h : (r.bind k).post P E) : r.post (fun a ρ => (k a ρ).post P E) E := by
 cases r <;> exact h
theorem Res.post_imp {α : Type} {r : Res α} {P P' : α → Env → Prop} {E E' : Exc → Env → Prop} (h : r.post P E) (p : ∀ a ρ, P a ρ → P' a ρ) (e : ∀ ξ ρ, E ξ ρ → E' ξ ρ) : r.post P' E' := by
 cases r with
 | ok a ρ => exact p a ρ h
 | ex ξ ρ => exact e ξ ρ h
 | bad => exact h
def ofO {α : Type} (o : Option α) (ρ : Env) : Res α := match o with
 | some a => .ok a ρ
 | none => .bad
theorem post_ofO {α : Type} {o : Option α} {ρ : Env} {P : α → Env → Prop} {E : Exc → Env → Prop} (h : (ofO o ρ).post P E) : ∃ a, o = some a ∧ P a ρ := by
 cases o with
 | none => exact h.elim
 | some a => exact ⟨a, rfl, h⟩
structure Ct where
 ca : Str → Addr
 F : Hp
 H : Hp
 O : List Addr
 fx : List Nat
 σ : Sl
 W : WX
abbrev Ct.nox (c : Ct) : Ct := { c with W := fun _ _ _ _ => False }
abbrev Ct.wish (c : Ct) (W : WX) : Ct := { c with W := W }
structure EnvR (K : Frag) (c : Ct) (F H : Hp) (σ : Sl) (ρ : Env) (O : List Addr) : Prop where
 sub : Same F H
 f0 : Same c.F F
 h0 : ∀ b o, c.H b = some o → b ∉ c.O → H b = some o
 n0 : ∀ b, c.H b ≠ none → b ∉ c.O → c.F b = none → F b = none
 sl : SlR K c.ca F H σ ρ O
 nd : O.Nodup
 ow : ∀ p ∈ O, F p = none ∧ (p ∈ c.O ∨ c.H p = none)
 fx : ∀ i ∈ c.fx, σ[i]? = c.σ[i]?
structure New (F H F' H' : Hp) : Prop where
 fF : Same F F'
 hH : Same H H'
 sub : Same F' H'
 nw : ∀ b, H b ≠ none → F b = none → F' b = none
theorem New.refl {F H : Hp} (h : Same F H) : New F H F H := ⟨Same.refl _, Same.refl _, h, fun _ _ h => h⟩
theorem New.trans {F H F1 H1 F2 H2 : Hp} (a : New F H F1 H1) (b : New F1 H1 F2 H2) : New F H F2 H2 :=
 ⟨a.fF.trans b.fF, a.hH.trans b.hH, b.sub, fun c h1 h2 => b.nw c (fun z => h1 (a.hH.free z)) (a.nw c h1 h2)⟩
theorem same_upd {F : Hp} {p : Addr} (h : F p = none) (o : HO) : Same F (upd F p o) := fun b u q => by rw [upd_ne (ne_of_none q h)]; exact q
theorem New.one {F H : Hp} (s : Same F H) {p : Addr} (h : H p = none) (o : HO) : New F H (upd F p o) (upd H p o) where
 fF := same_upd (s.free h) o
 hH := same_upd h o
 sub := fun b u q => by
  by_cases e : b = p
  ·subst e; rw [upd_same] at q ⊢; exact q
  ·rw [upd_ne e] at q ⊢; exact s _ _ q
 nw := fun b h1 h2 => by
  have e : b ≠ p := fun e => h1 (by rw [e]; exact h)
  rw [upd_ne e]; exact h2
theorem New.own {F H : Hp} (s : Same F H) {p : Addr} (h : H p = none) (o : HO) : New F H F (upd H p o) where
 fF := Same.refl _
 hH := same_upd h o
 sub := s.trans (same_upd h o)
 nw := fun b h1 h2 => h2
section
variable {K : Frag} {c : Ct} {F F' H H' : Hp} {σ : Sl} {ρ ρ' : Env} {O : List Addr}
theorem keep_of {H H' : Hp} (h : Same H H') {O : List Addr} (t : ∀ b ∈ O, H b ≠ none) : ∀ b ∈ O, H' b = H b := fun b hb => by
 cases e : H b with
 | none => exact absurd e (t b hb)
 | some o => exact h b o e
theorem EnvR.new (e : EnvR K c F H σ ρ O) (n : New F H F' H') : EnvR K c F' H' σ ρ O where
 sub := n.sub
 f0 := e.f0.trans n.fF
 h0 := fun b o q h => n.hH _ _ (e.h0 b o q h)
 n0 := fun b h1 h2 h3 => n.nw b (fun z => by
  cases q : c.H b with
  | none => exact h1 q
  | some o =>
   rw [e.h0 b o q h2] at z
   cases z) (e.n0 b h1 h2 h3)
 sl := e.sl.mono n.fF (keep_of n.hH e.sl.there)
 nd := e.nd
 ow := fun p hp => ⟨n.nw p (e.sl.there p hp) (e.ow p hp).1, (e.ow p hp).2⟩
 fx := e.fx
theorem EnvR.wish {W : WX} (e : EnvR K c F H σ ρ O) : EnvR K (c.wish W) F H σ ρ O := ⟨e.sub, e.f0, e.h0, e.n0, e.sl, e.nd, e.ow, e.fx⟩
theorem EnvR.unwish {W : WX} (e : EnvR K (c.wish W) F H σ ρ O) : EnvR K c F H σ ρ O := ⟨e.sub, e.f0, e.h0, e.n0, e.sl, e.nd, e.ow, e.fx⟩
end
def ecV (ca : Str → Addr) : ECls → Value
 | .own x => .ref (ca x)
 | .blt n => .type n
def XR (K : Frag) (ca : Str → Addr) (F H : Hp) (cls : Value) (d : Option Addr) (ξ : Exc) : Prop :=
 cls = ecV ca ξ.c ∧ (ξ.fs ≠ [] → ∃ dd fvs, d = some dd ∧ F dd = some (.xd fvs) ∧ fvs.map (·.1) = ξ.fs.map (·.1) ∧ RpAll K F (fvs.map (·.2)) (ξ.fs.map (·.2))) ∧ (ξ.fs = [] → d = none)
abbrev Val (K : Frag) (hk : Bool) (F H : Hp) (v : V) (x : D) : Prop := match hk with
 | true => RpB K F H v x
 | false => Rp K F v x
theorem Val.up {K : Frag} {hk pu : Bool} {F H F' H' : Hp} {v : V} {x : D} (h : Val K hk F H v x) (s : Same F F') (p : pu = true → Same H H') (k : hk = true → pu = true) : RpB K F' H' v x := by
 cases hk with
 | true => exact RpB.mono s (p (k rfl)) h
 | false => exact .d (Rp.mono s h)
theorem Val.up0 {K : Frag} {hk : Bool} {F H : Hp} {v : V} {x : D} (h : Val K hk F H v x) : RpB K F H v x := by
 cases hk with
 | true => exact h
 | false => exact .d h
structure Apart (c : Ct) (F : Hp) (A O : List Addr) : Prop where
 nd : (A ++ O).Nodup
 ow : ∀ p ∈ A, F p = none ∧ (p ∈ c.O ∨ c.H p = none)
def PV (K : Frag) (c : Ct) (hk pu : Bool) (F H : Hp) (σ : Sl) (Q : VK) (x : D) (ρ' : Env) : Prop :=
 ∀ F' H' O' v, EnvR K c F' H' σ ρ' O' → Same F F' → (pu = true → Same H H') → Val K hk F' H' v x → Q v H'
def PO (K : Frag) (c : Ct) (F H : Hp) (σ : Sl) (Q : VK) (o : OV) (ρ' : Env) : Prop :=
 ∀ F' H' O' A v, EnvR K c F' H' σ ρ' O' → Same F F' → OwR K c.ca F' H' v o A → Apart c F' A O' → Q v H'
def PB (K : Frag) (c : Ct) (pu : Bool) (F H : Hp) (σ : Sl) (Q : Bool → Hp → Prop) (b : Bool) (ρ' : Env) : Prop :=
 ∀ F' H' O', EnvR K c F' H' σ ρ' O' → Same F F' → (pu = true → Same H H') → Q b H'
def PX (K : Frag) (c : Ct) (σ : Sl) (ξ : Exc) (ρ' : Env) : Prop :=
 ∀ F' H' O' cls d, EnvR K c F' H' σ ρ' O' → XR K c.ca F' H' cls d ξ → c.W cls d σ H'
def te (K : Frag) (c : Ct) (hk pu : Bool) (m : M D) : TE := fun σ H Q => ∃ F ρ O, EnvR K c F H σ ρ O ∧ (m ρ).post (PV K c hk pu F H σ Q) (PX K c σ)
def to (K : Frag) (c : Ct) (m : M OV) : TE := fun σ H Q => ∃ F ρ O, EnvR K c F H σ ρ O ∧ (m ρ).post (PO K c F H σ Q) (PX K c σ)
def tt (K : Frag) (c : Ct) (pu : Bool) (m : M Bool) : TT := fun σ H Q => ∃ F ρ O, EnvR K c F H σ ρ O ∧ (m ρ).post (PB K c pu F H σ Q) (PX K c σ)
inductive Fl where
 | nx | bk | ct
 | rt (o : OV)
def PS' (K : Frag) (c : Ct) (D : Ends) (f : Fl) (ρ' : Env) : Prop := match f with
 | .nx => ∀ σ' F' H' O', EnvR K c F' H' σ' ρ' O' → D.nx σ' H'
 | .bk => ∀ σ' F' H' O', EnvR K c F' H' σ' ρ' O' → D.bk σ' H'
 | .ct => ∀ σ' F' H' O', EnvR K c F' H' σ' ρ' O' → D.ct σ' H'
 | .rt o => ∀ σ' F' H' O' A v, EnvR K c F' H' σ' ρ' O' → OwR K c.ca F' H' v o A → Apart c F' A O' → D.rt v H'
def PXs (K : Frag) (c : Ct) (ξ : Exc) (ρ' : Env) : Prop :=
 ∀ σ' F' H' O' cls d, EnvR K c F' H' σ' ρ' O' → XR K c.ca F' H' cls d ξ → c.W cls d σ' H'
def ts (K : Frag) (c : Ct) (m : M Fl) : TS := fun D σ H => ∃ F ρ O, EnvR K c F H σ ρ O ∧ (m ρ).post (PS' K c D) (PXs K c)
theorem _root_.L2.PE.imp {X : Cx} {e : Expr} {t t' : TE} (h : PE X e t) (k : ∀ σ H Q, t' σ H Q → t σ H Q) : PE X e t' := ⟨fun pins s σ H Q I q => h.run pins s σ H Q I (k σ H Q q)⟩
theorem _root_.L2.PT.imp {X : Cx} {e : Expr} {t t' : TT} (h : PT X e t) (k : ∀ σ H Q, t' σ H Q → t σ H Q) : PT X e t' := ⟨fun pins s σ H Q I q => h.run pins s σ H Q I (k σ H Q q)⟩
theorem _root_.L2.PA.imp {X : Cx} {e : List Expr} {t t' : TA} (h : PA X e t) (k : ∀ σ H Q, t' σ H Q → t σ H Q) : PA X e t' := ⟨fun pos pins s σ H Q I q => h.run pos pins s σ H Q I (k σ H Q q)⟩
theorem _root_.L2.PS.imp {X : Cx} {e : Stmt} {t t' : TS} (h : PS X e t) (k : ∀ D σ H, t' D σ H → t D σ H) : PS X e t' := ⟨fun pins s σ H Q I q => h.run pins s σ H Q I (k Q σ H q)⟩
theorem _root_.L2.PSs.imp {X : Cx} {e : List Stmt} {t t' : TS} (h : PSs X e t) (k : ∀ D σ H, t' D σ H → t D σ H) : PSs X e t' := ⟨fun pins s σ H Q I q => h.run pins s σ H Q I (k Q σ H q)⟩
section
variable {K : Frag} {c : Ct} {F H : Hp} {σ : Sl} {ρ : Env} {O : List Addr} {hk pu : Bool} {α : Type}
theorem te_step {m : M D} {k : D → Env → Res α} {P : α → Env → Prop} {Q : VK} (e : EnvR K c F H σ ρ O) (h : ((m ρ).bind k).post P (PX K c σ))
  (q : ∀ x ρ1 F1 H1 O1 v, (k x ρ1).post P (PX K c σ) → EnvR K c F1 H1 σ ρ1 O1 → Same F F1 → (pu = true → Same H H1) → Val K hk F1 H1 v x → Q v H1) : te K c hk pu m σ H Q :=
 ⟨F, ρ, O, e, Res.post_imp (Res.post_bind h) (fun x ρ1 h1 F1 H1 O1 v e1 s1 p1 r1 => q x ρ1 F1 H1 O1 v h1 e1 s1 p1 r1) fun _ _ h => h⟩
theorem to_step {m : M OV} {k : OV → Env → Res α} {P : α → Env → Prop} {Q : VK} (e : EnvR K c F H σ ρ O) (h : ((m ρ).bind k).post P (PX K c σ))
  (q : ∀ x ρ1 F1 H1 O1 A v, (k x ρ1).post P (PX K c σ) → EnvR K c F1 H1 σ ρ1 O1 → Same F F1 → OwR K c.ca F1 H1 v x A → Apart c F1 A O1 → Q v H1) : to K c m σ H Q :=
 ⟨F, ρ, O, e, Res.post_imp (Res.post_bind h) (fun x ρ1 h1 F1 H1 O1 A v e1 s1 r1 a1 => q x ρ1 F1 H1 O1 A v h1 e1 s1 r1 a1) fun _ _ h => h⟩
theorem tt_step {m : M Bool} {k : Bool → Env → Res α} {P : α → Env → Prop} {Q : Bool → Hp → Prop} (e : EnvR K c F H σ ρ O) (h : ((m ρ).bind k).post P (PX K c σ))
  (q : ∀ x ρ1 F1 H1 O1, (k x ρ1).post P (PX K c σ) → EnvR K c F1 H1 σ ρ1 O1 → Same F F1 → (pu = true → Same H H1) → Q x H1) : tt K c pu m σ H Q :=
 ⟨F, ρ, O, e, Res.post_imp (Res.post_bind h) (fun x ρ1 h1 F1 H1 O1 e1 s1 p1 => q x ρ1 F1 H1 O1 h1 e1 s1 p1) fun _ _ h => h⟩
theorem te_stepS {m : M D} {k : D → Env → Res α} {P : α → Env → Prop} {Q : VK} (e : EnvR K c F H σ ρ O) (h : ((m ρ).bind k).post P (PXs K c))
  (q : ∀ x ρ1 F1 H1 O1 v, (k x ρ1).post P (PXs K c) → EnvR K c F1 H1 σ ρ1 O1 → Same F F1 → (pu = true → Same H H1) → Val K hk F1 H1 v x → Q v H1) : te K c hk pu m σ H Q :=
 ⟨F, ρ, O, e, Res.post_imp (Res.post_bind h) (fun x ρ1 h1 F1 H1 O1 v e1 s1 p1 r1 => q x ρ1 F1 H1 O1 v h1 e1 s1 p1 r1) fun _ _ h F' H' O' cls d => h σ F' H' O' cls d⟩
theorem to_stepS {m : M OV} {k : OV → Env → Res α} {P : α → Env → Prop} {Q : VK} (e : EnvR K c F H σ ρ O) (h : ((m ρ).bind k).post P (PXs K c))
  (q : ∀ x ρ1 F1 H1 O1 A v, (k x ρ1).post P (PXs K c) → EnvR K c F1 H1 σ ρ1 O1 → Same F F1 → OwR K c.ca F1 H1 v x A → Apart c F1 A O1 → Q v H1) : to K c m σ H Q :=
 ⟨F, ρ, O, e, Res.post_imp (Res.post_bind h) (fun x ρ1 h1 F1 H1 O1 A v e1 s1 r1 a1 => q x ρ1 F1 H1 O1 A v h1 e1 s1 r1 a1) fun _ _ h F' H' O' cls d => h σ F' H' O' cls d⟩
theorem tt_stepS {m : M Bool} {k : Bool → Env → Res α} {P : α → Env → Prop} {Q : Bool → Hp → Prop} (e : EnvR K c F H σ ρ O) (h : ((m ρ).bind k).post P (PXs K c))
  (q : ∀ x ρ1 F1 H1 O1, (k x ρ1).post P (PXs K c) → EnvR K c F1 H1 σ ρ1 O1 → Same F F1 → (pu = true → Same H H1) → Q x H1) : tt K c pu m σ H Q :=
 ⟨F, ρ, O, e, Res.post_imp (Res.post_bind h) (fun x ρ1 h1 F1 H1 O1 e1 s1 p1 => q x ρ1 F1 H1 O1 h1 e1 s1 p1) fun _ _ h F' H' O' cls d => h σ F' H' O' cls d⟩
end
def mVar (i : Nat) : M D := fun ρ => match ρ[i]? with
 | some (some (.d x)) => .ok x ρ
 | _ => .bad
def mC (x : D) : M D := fun ρ => .ok x ρ
def mLook (i : Nat) : M D := fun ρ => match ρ[i]? with
 | some (some o) => ofO o.look ρ
 | _ => .bad
section
variable {X : Cx} {c : Ct} {pos : Pos}
theorem EnvR.var {K : Frag} {F H : Hp} {σ : Sl} {ρ : Env} {O : List Addr} {i : Nat} {o : OV} (e : EnvR K c F H σ ρ O) (h : ρ[i]? = some (some o)) : ∃ v A, σ[i]? = some (some v) ∧ OwR K c.ca F H v o A := by
 obtain ⟨v, A, R, h1, h2, _⟩ := e.sl.at h
 exact ⟨v, A, h1, h2⟩
theorem se_var (i : Nat) {x : Str} (hN : X.N[i]? = some x := by rfl) (hv : Vis X.env.scope x := by first | exact Or.inl rfl | exact Or.inr (Or.inl rfl) | exact Or.inr (Or.inr rfl)) (hd : (x == ("__debug__" : Str)) = false := by decide)
  (hcd : (x == ("__classdict__" : Str)) = false := by decide) : PE X (.Name x pos) (te X.K c false true (mVar i)) := (pe_var hN hv hd hcd).imp fun σ H Q ⟨F, ρ, O, e, h⟩ => by
 unfold mVar at h
 cases q : ρ[i]? with
 | none => rw [q] at h; exact h.elim
 | some w =>
  rw [q] at h
  cases w with
  | none => exact h.elim
  | some o =>
   cases o with
   | d y =>
    obtain ⟨v, A, h1, h2⟩ := e.var q
    cases h2 with
    | d r => exact ⟨v, h1, h F H O v e (Same.refl _) (fun _ => Same.refl _) r⟩
   | lst _ => exact h.elim
   | dct _ => exact h.elim
   | dctT _ => exact h.elim
   | obj _ _ => exact h.elim
   | tup _ => exact h.elim
   | bag _ => exact h.elim
theorem se_look (i : Nat) {x : Str} (hN : X.N[i]? = some x := by rfl) (hv : Vis X.env.scope x := by first | exact Or.inl rfl | exact Or.inr (Or.inl rfl) | exact Or.inr (Or.inr rfl)) (hd : (x == ("__debug__" : Str)) = false := by decide)
  (hcd : (x == ("__classdict__" : Str)) = false := by decide) : PE X (.Name x pos) (te X.K c true true (mLook i)) := (pe_var hN hv hd hcd).imp fun σ H Q ⟨F, ρ, O, e, h⟩ => by
 unfold mLook at h
 cases q : ρ[i]? with
 | none => rw [q] at h; exact h.elim
 | some w =>
  rw [q] at h
  cases w with
  | none => exact h.elim
  | some o =>
   obtain ⟨y, h1, h2⟩ := post_ofO h
   obtain ⟨v, A, h3, h4⟩ := e.var q
   exact ⟨v, h3, h2 F H O v e (Same.refl _) (fun _ => Same.refl _) (h4.look h1)⟩
theorem se_c {e : Expr} {v : V} {x : D} (h : PE X e (tC v)) (r : ∀ F, Rp X.K F v x) : PE X e (te X.K c false true (mC x)) := h.imp fun σ H Q ⟨F, ρ, O, e, h⟩ => h F H O v e (Same.refl _) (fun _ => Same.refl _) (r F)
theorem se_int {i j} : PE X (.Constant (.int i) j pos) (te X.K c false true (mC (.int i))) := se_c pe_int fun _ => .int i
theorem se_bl {b j} : PE X (.Constant (.bool b) j pos) (te X.K c false true (mC (.bool b))) := se_c pe_bl fun _ => .bl b
theorem se_non {j} : PE X (.Constant .none j pos) (te X.K c false true (mC .none)) := se_c pe_non fun _ => .non
theorem se_str {x j} : PE X (.Constant (.str x) j pos) (te X.K c false true (mC (.str x))) := se_c pe_str fun _ => .str x
end
def rD (K : Frag) (g : D → D → Option D) : R2 := fun v w H Q => ∃ F x y z, Same F H ∧ RpB K F H v x ∧ RpB K F H w y ∧ g x y = some z ∧ ∀ F' H' u, New F H F' H' → Rp K F' u z → Q u H'
def mBin (g : D → D → Option D) (a b : M D) : M D := fun ρ => (a ρ).bind fun x ρ1 => (b ρ1).bind fun y ρ2 => ofO (g x y) ρ2
section
variable {X : Cx} {c : Ct} {a b d : Expr} {pos : Pos} {ka kb kd pa pb pd : Bool} {ma mb md : M D} {g g' : D → D → Option D}
theorem bin_step {f : Value → Value → Sem Value} (hk : ka = true → pb = true) {σ : Sl} {H : Hp} {Q : VK} (h : te X.K c false (pa && pb) (mBin g ma mb) σ H Q) : tOp (rD X.K g) (te X.K c ka pa ma) (te X.K c kb pb mb) σ H Q := by
 obtain ⟨F, ρ, O, e, h⟩ := h
 refine te_step e h fun x ρ1 F1 H1 O1 v h1 e1 s1 p1 v1 => te_step e1 h1 fun y ρ2 F2 H2 O2 w h2 e2 s2 p2 v2 => ?_
 obtain ⟨z, hz, h3⟩ := post_ofO h2
 refine ⟨F2, x, y, z, e2.sub, v1.up s2 p2 hk, v2.up0, hz, fun F' H' u n r => h3 F' H' O2 u (e2.new n) ((s1.trans s2).trans n.fF) (fun hp => ?_) r⟩
 obtain ⟨h4, h5⟩ := Bool.and_eq_true_iff.mp hp
 exact ((p1 h4).trans (p2 h5)).trans n.hH
theorem se_bin {op : Operator} (ho : OpR X (binaryOp op) (rD X.K g)) (ha : PE X a (te X.K c ka pa ma)) (hb : PE X b (te X.K c kb pb mb)) (hk : ka = true → pb = true := by decide) :
  PE X (.BinOp a op b pos) (te X.K c false (pa && pb) (mBin g ma mb)) := (pe_op ho ha hb).imp fun σ H Q h => bin_step (f := binaryOp op) hk h
theorem se_cmp {op : CmpOp} (ho : OpR X (compareOp op) (rD X.K g)) (ha : PE X a (te X.K c ka pa ma)) (hb : PE X b (te X.K c kb pb mb)) (hk : ka = true → pb = true := by decide) (hm : behindInMarks op b = false := by first | exact nomark _ | rfl) :
  PE X (.Compare a [op] [b] pos) (te X.K c false (pa && pb) (mBin g ma mb)) := (pe_cmpR ho ha hb hm).imp fun σ H Q h => bin_step (f := compareOp op) hk h
def mB (m : M D) : M Bool := fun ρ => (m ρ).bind fun x ρ1 => match x with
 | .bool b => .ok b ρ1
 | _ => .bad
theorem tb_step {σ : Sl} {H : Hp} {Q : Bool → Hp → Prop} (h : tt X.K c pa (mB ma) σ H Q) : tTest (te X.K c ka pa ma) σ H Q := by
 obtain ⟨F, ρ, O, e, h⟩ := h
 refine te_step e h fun x ρ1 F1 H1 O1 v h1 e1 s1 p1 v1 => ?_
 cases x with
 | bool b =>
  have r := v1.up0
  cases r with
  | d r => cases r; exact ⟨b, rfl, h1 F1 H1 O1 e1 s1 p1⟩
 | _ => exact h1.elim
theorem st_cmp {op : CmpOp} (ho : OpR X (compareOp op) (rD X.K g)) (ha : PE X a (te X.K c ka pa ma)) (hb : PE X b (te X.K c kb pb mb)) (hk : ka = true → pb = true := by decide) (hm : behindInMarks op b = false := by first | exact nomark _ | rfl) :
  PT X (.Compare a [op] [b] pos) (tt X.K c (pa && pb) (mB (mBin g ma mb))) := (pt_cmpR ho ha hb hm).imp fun σ H Q h => by
 have q := tb_step (ka := false) h
 obtain ⟨F, ρ, O, e, q⟩ := q
 exact bin_step (f := compareOp op) hk ⟨F, ρ, O, e, q⟩
theorem st_val {e : Expr} (h : PE X e (te X.K c ka pa ma)) (he : ∀ whole, isTrue e X.env whole = (do let v ← whole; standAt e.pos; holding [v] (truthy v)) := by intro _; rfl) : PT X e (tt X.K c pa (mB ma)) :=
 (pt_val h he).imp fun σ H Q q => tb_step q
def mChain (g g' : D → D → Option D) (a b d : M D) : M D := fun ρ => (a ρ).bind fun x ρ1 => (b ρ1).bind fun y ρ2 => match g x y with
 | some (.bool true) => (d ρ2).bind fun z ρ3 => ofO (g' y z) ρ3
 | some (.bool false) => .ok (.bool false) ρ2
 | _ => .bad
end
def mAnd (a b : M Bool) : M Bool := fun ρ => (a ρ).bind fun x ρ1 => if x = true then b ρ1 else .ok false ρ1
def mOr (a b : M Bool) : M Bool := fun ρ => (a ρ).bind fun x ρ1 => if x = true then .ok true ρ1 else b ρ1
def mNot (a : M Bool) : M Bool := fun ρ => (a ρ).bind fun x ρ1 => .ok (!x) ρ1
def mV (a : M Bool) : M D := fun ρ => (a ρ).bind fun x ρ1 => .ok (.bool x) ρ1
def mAndV (a b : M D) : M D := fun ρ => (a ρ).bind fun x ρ1 => match x with
 | .bool true => b ρ1
 | .bool false => .ok (.bool false) ρ1
 | _ => .bad
def mOrV (a b : M D) : M D := fun ρ => (a ρ).bind fun x ρ1 => match x with
 | .bool true => .ok (.bool true) ρ1
 | .bool false => b ρ1
 | _ => .bad
def mNotV (a : M D) : M D := fun ρ => (a ρ).bind fun x ρ1 => match x with
 | .bool b => .ok (.bool (!b)) ρ1
 | _ => .bad
def mIf {α : Type} (t : M Bool) (a b : M α) : M α := fun ρ => (t ρ).bind fun x ρ1 => if x = true then a ρ1 else b ρ1
section
variable {X : Cx} {c : Ct} {a b d : Expr} {rest : List Expr} {pos : Pos} {ka kb kd pa pb pd : Bool} {ma mb md : M D} {ta tb' : M Bool}
theorem st_or1 (ha : PT X a (tt X.K c pa ta)) : PW X (.BoolOp .Or [a] pos) (tt X.K c pa ta) := pw_or1 ha
theorem _root_.L2.PW.imp {X : Cx} {e : Expr} {t t' : TT} (h : PW X e t) (k : ∀ σ H Q, t' σ H Q → t σ H Q) : PW X e t' := ⟨fun wh pins s σ H Q I q => h.run wh pins s σ H Q I (k σ H Q q)⟩
theorem and_p {p q : Bool} {H H1 H2 : Hp} (p1 : p = true → Same H H1) (p2 : q = true → Same H1 H2) (h : (p && q) = true) : Same H H2 := by
 obtain ⟨h4, h5⟩ := Bool.and_eq_true_iff.mp h
 exact (p1 h4).trans (p2 h5)
theorem st_or (ha : PT X a (tt X.K c pa ta)) (hb : PW X (.BoolOp .Or (b :: rest) pos) (tt X.K c pb tb')) : PW X (.BoolOp .Or (a :: b :: rest) pos) (tt X.K c (pa && pb) (mOr ta tb')) := (pw_or ha hb).imp fun σ H Q ⟨F, ρ, O, e, h⟩ => by
 refine tt_step e h fun x ρ1 F1 H1 O1 h1 e1 s1 p1 => ?_
 cases x with
 | true =>
  rw [if_pos rfl] at h1 ⊢
  exact h1 F1 H1 O1 e1 s1 fun hp => p1 (Bool.and_eq_true_iff.mp hp).1
 | false =>
  rw [if_neg Bool.false_ne_true] at h1 ⊢
  exact ⟨F1, ρ1, O1, e1, Res.post_imp h1 (fun b ρ2 h2 F2 H2 O2 e2 s2 p2 => h2 F2 H2 O2 e2 (s1.trans s2) (and_p p1 p2)) fun _ _ h => h⟩
theorem st_not (ha : PT X a (tt X.K c pa ta)) : PT X (.UnaryOp .Not a pos) (tt X.K c pa (mNot ta)) := (pt_not ha).imp fun σ H Q ⟨F, ρ, O, e, h⟩ =>
 tt_step e h fun x ρ1 F1 H1 O1 h1 e1 s1 p1 => h1 F1 H1 O1 e1 s1 p1
theorem bval {K : Frag} {k : Bool} {F H : Hp} {v : V} {b : Bool} (h : Val K k F H v (.bool b)) : v = .bl b := by
 have r := h.up0
 cases r with
 | d r => cases r; rfl
theorem se_and (ha : PE X a (te X.K c ka pa ma)) (hb : PE X (.BoolOp .And (b :: rest) pos) (te X.K c false pb mb)) : PE X (.BoolOp .And (a :: b :: rest) pos) (te X.K c false (pa && pb) (mAndV ma mb)) := (pe_and ha hb).imp fun σ H Q ⟨F, ρ, O, e, h⟩ => by
 refine te_step e h fun x ρ1 F1 H1 O1 v h1 e1 s1 p1 v1 => ?_
 cases x with
 | bool k =>
  refine ⟨k, bval v1, ?_⟩
  cases k with
  | true =>
   rw [if_pos rfl]
   exact ⟨F1, ρ1, O1, e1, Res.post_imp h1 (fun b ρ2 h2 F2 H2 O2 v2 e2 s2 p2 => h2 F2 H2 O2 v2 e2 (s1.trans s2) (and_p p1 p2)) fun _ _ h => h⟩
  | false =>
   rw [if_neg Bool.false_ne_true]
   exact h1 F1 H1 O1 _ e1 s1 (fun hp => p1 (Bool.and_eq_true_iff.mp hp).1) (.bl false)
 | _ => exact h1.elim
theorem se_one {op} (ha : PE X a (te X.K c false pa ma)) : PE X (.BoolOp op [a] pos) (te X.K c false pa ma) := pe_one ha
end
end DL
end
section
namespace DL
variable [DL.TheW]
open PySem PySem.Spec PyProof.Rows L2
def PAs (K : Frag) (c : Ct) (pu : Bool) (F H : Hp) (σ : Sl) (Q : List V → Hp → Prop) (xs : List D) (ρ' : Env) : Prop :=
 ∀ F' H' O' vs, EnvR K c F' H' σ ρ' O' → Same F F' → (pu = true → Same H H') → RpAll K F' vs xs → Q vs H'
def ta (K : Frag) (c : Ct) (pu : Bool) (m : M (List D)) : TA := fun σ H Q => ∃ F ρ O, EnvR K c F H σ ρ O ∧ (m ρ).post (PAs K c pu F H σ Q) (PX K c σ)
def mNil : M (List D) := fun ρ => .ok [] ρ
def mCons (a : M D) (r : M (List D)) : M (List D) := fun ρ => (a ρ).bind fun x ρ1 => (r ρ1).bind fun xs ρ2 => .ok (x :: xs) ρ2
structure SA (X : Cx) (c : Ct) (es : List Expr) (pu : Bool) (m : M (List D)) : Prop where
 pa : PA X es (ta X.K c pu m)
 len : ∀ ρ xs ρ', m ρ = .ok xs ρ' → xs.length = es.length
section
variable {X : Cx} {c : Ct} {e : Expr} {es : List Expr} {pos : Pos} {p1 p2 pu : Bool} {me : M D} {ms : M (List D)}
theorem sa_nil : SA X c [] true mNil := ⟨pa_nil.imp fun σ H Q ⟨F, ρ, O, e, h⟩ => h F H O [] e (Same.refl _) (fun _ => Same.refl _) .nil, fun ρ xs ρ' h => by cases h; rfl⟩
theorem ta_step {K : Frag} {α : Type} {F H : Hp} {σ : Sl} {ρ : Env} {O : List Addr} {m : M (List D)} {k : List D → Env → Res α} {P : α → Env → Prop} {Q : List V → Hp → Prop} (e : EnvR K c F H σ ρ O) (h : ((m ρ).bind k).post P (PX K c σ))
  (q : ∀ x ρ1 F1 H1 O1 v, m ρ = .ok x ρ1 → (k x ρ1).post P (PX K c σ) → EnvR K c F1 H1 σ ρ1 O1 → Same F F1 → (pu = true → Same H H1) → RpAll K F1 v x → Q v H1) : ta K c pu m σ H Q := by
 refine ⟨F, ρ, O, e, ?_⟩
 have z := Res.post_bind h
 cases r : m ρ with
 | ok x ρ1 => rw [r] at z; exact fun F1 H1 O1 v e1 s1 p1 r1 => q x ρ1 F1 H1 O1 v r z e1 s1 p1 r1
 | ex ξ ρ1 => rw [r] at z; exact z
 | bad => rw [r] at z; exact z
theorem sa_cons (ha : PE X e (te X.K c false p1 me)) (hr : SA X c es p2 ms) (hs : starEach (e :: es) X.env = (false, eval e X.env) :: starEach es X.env := by rfl) : SA X c (e :: es) (p1 && p2) (mCons me ms) := by
 refine ⟨(pa_cons ha hr.pa hs).imp fun σ H Q ⟨F, ρ, O, e, h⟩ => te_step e h fun x ρ1 F1 H1 O1 v h1 e1 s1 q1 v1 => ?_, fun ρ xs ρ' h => ?_⟩
 ·refine ta_step e1 h1 fun xs ρ2 F2 H2 O2 vs _ h2 e2 s2 q2 v2 => ?_
  exact h2 F2 H2 O2 _ e2 (s1.trans s2) (and_p q1 q2) (.cons (Rp.mono s2 v1) v2)
 ·unfold mCons at h
  cases h1 : me ρ with
  | ok x ρ1 =>
   rw [h1] at h
   have h : ((ms ρ1).bind fun xs ρ2 => .ok (x :: xs) ρ2) = .ok xs ρ' := h
   cases h2 : ms ρ1 with
   | ok ys ρ2 =>
    rw [h2] at h
    have h : Res.ok (x :: ys) ρ2 = .ok xs ρ' := h
    cases h
    rw [List.length_cons, List.length_cons, hr.len _ _ _ h2]
   | ex _ _ => rw [h2] at h; cases h
   | bad => rw [h2] at h; cases h
  | ex _ _ => rw [h1] at h; cases h
  | bad => rw [h1] at h; cases h
end
theorem few {es : List Expr} (h : es.length ≤ 1000) : es.length ≤ sizeLine := Nat.le_of_lt (small1000 h)
def mTup (m : M (List D)) : M D := fun ρ => (m ρ).bind fun xs ρ1 => .ok (.tuple xs) ρ1
def mLst (m : M (List D)) : M OV := fun ρ => (m ρ).bind fun xs ρ1 => .ok (.lst xs) ρ1
section
variable {X : Cx} {c : Ct} {e : Expr} {es : List Expr} {pos : Pos} {p1 p2 pu : Bool} {me : M D} {ms : M (List D)} {mo : M OV}
theorem EnvR.apart {K : Frag} {F H : Hp} {σ : Sl} {ρ : Env} {O : List Addr} (e : EnvR K c F H σ ρ O) {p : Addr} (h : H p = none) : Apart c F [p] O := by
 refine ⟨?_, fun q hq => ?_⟩
 ·rw [List.singleton_append, List.nodup_cons]
  exact ⟨fun hm => e.sl.there p hm h, e.nd⟩
 ·rw [List.mem_singleton] at hq
  subst hq
  refine ⟨e.sub.free h, ?_⟩
  by_cases hc : q ∈ c.O
  ·exact .inl hc
  ·refine .inr ?_
   cases z : c.H q with
   | none => rfl
   | some o => rw [e.h0 q o z hc] at h; cases h
theorem se_tup {k : Nat} (h : SA X c es pu ms) (hl : es.length ≤ 1000 := by exact Nat.le_of_ble_eq_true rfl) : PE X (.Tuple es k pos) (te X.K c false pu (mTup ms)) := (pe_tupF h.pa).imp fun σ H Q ⟨F, ρ, O, e, h1⟩ => by
 refine ta_step e h1 fun xs ρ1 F1 H1 O1 vs hm h2 e1 s1 p1 v1 => ⟨by rw [v1.length, h.len _ _ _ hm]; exact few hl, fun p ob hp hob => ?_⟩
 have n := New.one e1.sub hp (.frz ob (.tup vs))
 exact h2 _ _ O1 _ (e1.new n) (s1.trans n.fF) (fun q => (p1 q).trans n.hH) (.tup (.inl ⟨ob, upd_same, hob⟩) (v1.mono n.fF))
end
def mLstF (m : M (List D)) : M D := fun ρ => (m ρ).bind fun xs ρ1 => .ok (.list xs) ρ1
def frzF (F H : Hp) (A : List Addr) : Hp := fun b => if b ∈ A then H b else F b
theorem frz_in {F H : Hp} {A : List Addr} {b : Addr} (h : b ∈ A) : frzF F H A b = H b := if_pos h
theorem frz_out {F H : Hp} {A : List Addr} {b : Addr} (h : b ∉ A) : frzF F H A b = F b := if_neg h
section
variable {K : Frag} {c : Ct} {F H : Hp} {σ : Sl} {ρ : Env} {O A : List Addr}
theorem frz_same (h : ∀ p ∈ A, F p = none) : Same F (frzF F H A) := fun b u q => by
 by_cases hb : b ∈ A
 ·rw [h b hb] at q; cases q
 ·rw [frz_out hb]; exact q
theorem EnvR.frz (e : EnvR K c F H σ ρ O) (a : Apart c F A O) : EnvR K c (frzF F H A) H σ ρ O where
 sub := fun b u q => by
  by_cases hb : b ∈ A
  ·rw [frz_in hb] at q; exact q
  ·rw [frz_out hb] at q; exact e.sub b u q
 f0 := e.f0.trans (frz_same fun p hp => (a.ow p hp).1)
 h0 := e.h0
 n0 := fun b h1 h2 h3 => by
  by_cases hb : b ∈ A
  ·rcases (a.ow b hb).2 with z | z
   ·exact absurd z h2
   ·exact absurd z h1
  ·rw [frz_out hb]; exact e.n0 b h1 h2 h3
 sl := e.sl.mono (frz_same fun p hp => (a.ow p hp).1) fun _ _ => rfl
 nd := e.nd
 ow := fun p hp => by
  have hb : p ∉ A := fun z => (List.nodup_append.mp a.nd).2.2 p z p hp rfl
  rw [frz_out hb]
  exact e.ow p hp
 fx := e.fx
theorem OwF.frzL {K : Frag} {ca : Str → Addr} {F H F1 : Hp} (e : Same F F1) : ∀ {fvs : List (Str × V)} {fs : List (Str × OV)} {A : List Addr} {ds : List D}, OwF K ca F H fvs fs A → DL.frzL fs = some ds → (∀ p ∈ A, F1 p = H p) → RpAll K F1 (fvs.map (·.2)) ds ∧ ∀ p ∈ A, ∃ ws, H p = some (.lst ws)
 | _, _, _, _, .nil, h, _ => by cases h; exact ⟨.nil, fun p hp => by cases hp⟩
 | _, _, _, _, .cons (o := o) h r, q, k => by
  unfold DL.frzL at q
  obtain ⟨x, q1, q2⟩ := Option.bind_eq_some_iff.mp q
  obtain ⟨xs, q3, q4⟩ := Option.bind_eq_some_iff.mp q2
  cases q4
  obtain ⟨g1, g2⟩ := r.frzL e q3 fun p hp => k p (List.mem_append_right _ hp)
  cases h with
  | d r0 => cases q1; exact ⟨.cons (r0.mono e) g1, g2⟩
  | lst h r0 =>
   cases q1
   refine ⟨.cons (.lst ((k _ (List.mem_append_left _ (List.mem_singleton_self _))).trans h) (r0.mono e)) g1, fun p hp => ?_⟩
   rcases List.mem_append.mp hp with hp | hp
   ·rw [List.mem_singleton.mp hp]; exact ⟨_, h⟩
   ·exact g2 p hp
  | dcK _ _ => cases q1
  | dcT _ _ => cases q1
  | obj _ _ _ => cases q1
  | tup _ _ => cases q1
  | bag _ _ => cases q1
theorem OwR.frz {v : V} {o : OV} {x : D} (h : OwR K c.ca F H v o A) (e : o.frz = some x) (hA : ∀ p ∈ A, F p = none) : Rp K (frzF F H A) v x := by
 have s : Same F (frzF F H A) := frz_same hA
 cases h with
 | d r => cases e; exact r.mono s
 | lst h r => cases e; exact .lst ((frz_in (List.mem_singleton_self _)).trans h) (r.mono s)
 | dcK h r => cases e
 | dcT h r => cases e
 | obj _ _ _ => cases e
 | bag _ _ => cases e
 | tup hT hF =>
  unfold OV.frz at e
  obtain ⟨ds, e1, e2⟩ := Option.bind_eq_some_iff.mp e
  cases e2
  exact .tup (hT.mono s) (hF.frzL s e1 fun p hp => frz_in hp).1
end
def mFrz (m : M OV) : M D := fun ρ => (m ρ).bind fun o ρ1 => ofO o.frz ρ1
def mFrzV (i : Nat) : M D := fun ρ => match ρ[i]? with
 | some (some o) => match o.frz with
  | some x => .ok x (ρ.set i (some (.d x)))
  | none => .bad
 | _ => .bad
def mMove (i : Nat) : M OV := fun ρ => match ρ[i]? with
 | some (some o) => .ok o (ρ.set i none)
 | _ => .bad
def mD (m : M D) : M OV := fun ρ => (m ρ).bind fun x ρ1 => .ok (.d x) ρ1
section
variable {X : Cx} {c : Ct} {e : Expr} {pos : Pos} {pu : Bool} {me : M D} {mo : M OV}
theorem se_frz (h : PE X e (to X.K c mo)) : PE X e (te X.K c false false (mFrz mo)) := h.imp fun σ H Q ⟨F, ρ, O, e, h1⟩ => by
 refine to_step e h1 fun o ρ1 F1 H1 O1 A v h2 e1 s1 r1 a1 => ?_
 obtain ⟨x, h3, h4⟩ := post_ofO h2
 exact h4 _ _ O1 v (e1.frz a1) (s1.trans (frz_same fun p hp => (a1.ow p hp).1)) (fun q => nomatch q) (r1.frz h3 fun p hp => (a1.ow p hp).1)
theorem so_d (h : PE X e (te X.K c false pu me)) : PE X e (to X.K c (mD me)) := h.imp fun σ H Q ⟨F, ρ, O, e, h1⟩ =>
 te_step e h1 fun x ρ1 F1 H1 O1 v h2 e1 s1 p1 v1 => h2 F1 H1 O1 [] v e1 s1 (.d v1) ⟨e1.nd, fun _ hp => by simp at hp⟩
theorem set_self {α : Type} : ∀ {l : List α} {i : Nat} {x : α}, l[i]? = some x → l.set i x = l
 | [], _, _, h => by simp at h
 | a :: l, 0, x, h => by simp at h; subst h; rfl
 | a :: l, i + 1, x, h => by rw [List.set_cons_succ, set_self (l := l) (by simpa using h)]
theorem EnvR.take {K : Frag} {F H : Hp} {σ : Sl} {ρ : Env} {O : List Addr} {i : Nat} {o : OV} (e : EnvR K c F H σ ρ O) (h : ρ[i]? = some (some o)) :
  ∃ v A R, σ[i]? = some (some v) ∧ OwR K c.ca F H v o A ∧ Apart c F A R ∧ EnvR K c F H σ (ρ.set i none) R ∧ (∀ p ∈ A ++ R, p ∈ O) := by
 obtain ⟨v, A, R, h1, h2, h3, h4⟩ := e.sl.at h
 obtain ⟨k1, k2⟩ := h4 F H (Same.refl _) fun _ _ => rfl
 have mem : ∀ p ∈ A ++ R, p ∈ O := fun p hp => h3.mem_iff.mpr hp
 have nd : (A ++ R).Nodup := h3.nodup_iff.mp e.nd
 exact ⟨v, A, R, h1, h2, ⟨nd, fun p hp => e.ow p (mem p (by simp [hp]))⟩, ⟨e.sub, e.f0, e.h0, e.n0, k1, (List.nodup_append.mp nd).2.1, fun p hp => e.ow p (mem p (by simp [hp])), e.fx⟩, mem⟩
theorem so_move (i : Nat) {x : Str} (hN : X.N[i]? = some x := by rfl) (hv : Vis X.env.scope x := by first | exact Or.inl rfl | exact Or.inr (Or.inl rfl) | exact Or.inr (Or.inr rfl)) (hd : (x == ("__debug__" : Str)) = false := by decide)
  (hcd : (x == ("__classdict__" : Str)) = false := by decide) : PE X (.Name x pos) (to X.K c (mMove i)) := (pe_var hN hv hd hcd).imp fun σ H Q ⟨F, ρ, O, e, h⟩ => by
 unfold mMove at h
 cases q : ρ[i]? with
 | none => rw [q] at h; exact h.elim
 | some w =>
  rw [q] at h
  cases w with
  | none => exact h.elim
  | some o =>
   obtain ⟨v, A, R, h1, h2, h3, h4, _⟩ := e.take q
   exact ⟨v, h1, h F H R A v h4 (Same.refl _) h2 h3⟩
theorem EnvR.put {K : Frag} {F H : Hp} {σ : Sl} {ρ : Env} {O A : List Addr} {i : Nat} {o : OV} {v : V} (e : EnvR K c F H σ ρ O) (r : OwR K c.ca F H v o A) (a : Apart c F A O) (hi : i < σ.length) (hf : (c.fx.all fun j => j != i) = true) :
  ∃ O', EnvR K c F H (σ.set i (some v)) (ρ.set i (some o)) O' := by
 obtain ⟨R, h1, h2, _, h4⟩ := e.sl.put (i := i) hi
 obtain ⟨O', k1, k2⟩ := h4 v o A r
 obtain ⟨n1, n2, n3⟩ := List.nodup_append.mp a.nd
 have nd : (A ++ R).Nodup := List.nodup_append.mpr ⟨n1, h2 n2, fun x hx y hy => n3 x hx y (h1 y hy)⟩
 refine ⟨O', e.sub, e.f0, e.h0, e.n0, k1, k2.nodup_iff.mpr nd, fun p hp => ?_, fun j hj => ?_⟩
 ·rcases List.mem_append.mp (k2.mem_iff.mp hp) with z | z
  ·exact a.ow p z
  ·exact e.ow p (h1 p z)
 ·have z := List.all_eq_true.mp hf j hj
  have z : j ≠ i := by simpa using z
  rw [List.getElem?_set_ne (Ne.symm z)]
  exact e.fx j hj
theorem EnvR.putD {K : Frag} {F H : Hp} {σ : Sl} {ρ : Env} {O : List Addr} {i : Nat} {x : D} {v : V} (e : EnvR K c F H σ ρ O) (r : Rp K F v x) (hi : i < σ.length) (hf : (c.fx.all fun j => j != i) = true) :
  ∃ O', EnvR K c F H (σ.set i (some v)) (ρ.set i (some (.d x))) O' := e.put (.d r) ⟨e.nd, fun _ hp => by simp at hp⟩ hi hf
end
inductive Rf where
 | ok (r : OV) (outs : Env)
 | ex (ξ : Exc)
 | exS (ξ : Exc) (outs : Env)
 | bad
abbrev Fn := List OV → Rf
structure FnEnd (F H : Hp) (O : List Addr) (F' H' : Hp) : Prop where
 fF : Same F F'
 sub : Same F' H'
 hH : ∀ b o, H b = some o → b ∉ O → H' b = some o
 nw : ∀ b, H b ≠ none → b ∉ O → F b = none → F' b = none
def spF (K : Frag) (ca : Str → Addr) (f : Fn) : Sp := fun vs H Q E => ∃ F os O, Same F H ∧ SlR K ca F H (vs.map some) (os.map some) O ∧ O.Nodup ∧ (∀ p ∈ O, F p = none) ∧
 match f os with
 | .ok r outs => ∀ F' H' v A B, FnEnd F H O F' H' → SlR K ca F' H' (vs.map some) outs B → OwR K ca F' H' v r A → (A ++ B).Nodup → (∀ p ∈ A ++ B, F' p = none ∧ (p ∈ O ∨ H p = none)) → Q v H'
 | .ex ξ => ∀ F' H' cls d, FnEnd F H O F' H' → XR K ca F' H' cls d ξ → E cls d H'
 | .exS ξ outs => ∀ F' H' cls d B, FnEnd F H O F' H' → SlR K ca F' H' (vs.map some) outs B → B.Nodup → (∀ p ∈ B, F' p = none ∧ (p ∈ O ∨ H p = none)) → XR K ca F' H' cls d ξ → E cls d H'
 | .bad => False
inductive AV where
 | d (x : D) | o (i : Nat)
def gather : Env → List AV → Option (List OV × Env)
 | ρ, [] => some ([], ρ)
 | ρ, .d x :: r => (gather ρ r).map fun z => (.d x :: z.1, z.2)
 | ρ, .o i :: r => match ρ[i]? with
  | some (some o) => (gather (ρ.set i none) r).map fun z => (o :: z.1, z.2)
  | _ => none
def putBack : Env → List AV → Env → Env
 | ρ, .d _ :: r, _ :: s => putBack ρ r s
 | ρ, .o i :: r, o :: s => putBack (ρ.set i o) r s
 | ρ, _, _ => ρ
def callRf (avs : List AV) (ρ2 : Env) (r : Rf) : Res OV := match r with
 | .ok r outs => .ok r (putBack ρ2 avs outs)
 | .ex ξ => .ex ξ ρ2
 | .exS _ _ => .bad
 | .bad => .bad
def callEnd (f : Fn) (avs : List AV) (z : Option (List OV × Env)) : Res OV := match z with
 | none => .bad
 | some y => callRf avs y.2 (f y.1)
def mCall (f : Fn) (m : M (List AV)) : M OV := fun ρ => (m ρ).bind fun avs ρ1 => callEnd f avs (gather ρ1 avs)
inductive AvAll (K : Frag) (F : Hp) (σ : Sl) : List V → List AV → Prop where
 | nil : AvAll K F σ [] []
 | d {v : V} {x : D} {vs : List V} {as : List AV} : Rp K F v x → AvAll K F σ vs as → AvAll K F σ (v :: vs) (.d x :: as)
 | o {v : V} {i : Nat} {vs : List V} {as : List AV} : σ[i]? = some (some v) → AvAll K F σ vs as → AvAll K F σ (v :: vs) (.o i :: as)
theorem AvAll.mono {K : Frag} {F F' : Hp} {σ : Sl} (s : Same F F') : ∀ {vs : List V} {as : List AV}, AvAll K F σ vs as → AvAll K F' σ vs as
 | _, _, .nil => .nil
 | _, _, .d r h => .d (r.mono s) (h.mono s)
 | _, _, .o r h => .o r (h.mono s)
def PG' (K : Frag) (c : Ct) (F H : Hp) (σ : Sl) (Q : List V → Hp → Prop) (as : List AV) (ρ' : Env) : Prop :=
 ∀ F' H' O' vs, EnvR K c F' H' σ ρ' O' → Same F F' → AvAll K F' σ vs as → Q vs H'
def tg (K : Frag) (c : Ct) (m : M (List AV)) : TA := fun σ H Q => ∃ F ρ O, EnvR K c F H σ ρ O ∧ (m ρ).post (PG' K c F H σ Q) (PX K c σ)
def gNil : M (List AV) := fun ρ => .ok [] ρ
def gD (a : M D) (r : M (List AV)) : M (List AV) := fun ρ => (a ρ).bind fun x ρ1 => (r ρ1).bind fun xs ρ2 => .ok (.d x :: xs) ρ2
def gO (i : Nat) (r : M (List AV)) : M (List AV) := fun ρ => match ρ[i]? with
 | some (some _) => (r ρ).bind fun xs ρ2 => .ok (.o i :: xs) ρ2
 | _ => .bad
section
variable {K : Frag} {c : Ct} {F H : Hp} {σ : Sl}
theorem gather_ok : ∀ {as : List AV} {vs : List V} {ρ ρ2 : Env} {os : List OV} {O : List Addr}, gather ρ as = some (os, ρ2) → AvAll K F σ vs as → EnvR K c F H σ ρ O →
  ∃ A R, SlR K c.ca F H (vs.map some) (os.map some) A ∧ EnvR K c F H σ ρ2 R ∧ Apart c F A R ∧ (∀ p ∈ A ++ R, p ∈ O)
 | [], _, ρ, ρ2, os, O, h, .nil, e => by
  cases h
  exact ⟨[], O, .nil, e, ⟨e.nd, fun _ hp => by simp at hp⟩, fun p hp => hp⟩
 | .d x :: as, v :: vs, ρ, ρ2, os, O, h, .d r q, e => by
  have h1 : (gather ρ as).map (fun z => (OV.d x :: z.1, z.2)) = some (os, ρ2) := h
  obtain ⟨⟨os', ρ'⟩, h2, h3⟩ := Option.map_eq_some_iff.mp h1
  cases h3
  obtain ⟨A, R, k1, k2, k3, k4⟩ := gather_ok h2 q e
  exact ⟨A, R, .so (.d r) k1, k2, k3, k4⟩
 | .o i :: as, v :: vs, ρ, ρ2, os, O, h, .o r q, e => by
  unfold gather at h
  split at h
  ·rename_i o ho
   obtain ⟨⟨os', ρ'⟩, h2, h3⟩ := Option.map_eq_some_iff.mp h
   cases h3
   obtain ⟨w, A1, R1, g1, g2, g3, g4, g5⟩ := e.take ho
   rw [r] at g1; cases g1
   obtain ⟨A, R, k1, k2, k3, k4⟩ := gather_ok h2 q g4
   refine ⟨A1 ++ A, R, .so g2 k1, k2, ⟨?_, fun p hp => ?_⟩, fun p hp => ?_⟩
   ·rw [List.append_assoc]
    obtain ⟨n1, n2, n3⟩ := List.nodup_append.mp g3.nd
    exact List.nodup_append.mpr ⟨n1, k3.nd, fun x hx y hy => n3 x hx y (k4 y hy)⟩
   ·rcases List.mem_append.mp hp with z | z
    ·exact g3.ow p z
    ·exact k3.ow p z
   ·rw [List.append_assoc] at hp
    rcases List.mem_append.mp hp with z | z
    ·exact g5 p (by simp [z])
    ·exact g5 p (by simp [k4 p z])
  ·cases h
theorem putBack_ok : ∀ {as : List AV} {vs : List V} {ρ outs : Env} {O B : List Addr}, SlR K c.ca F H (vs.map some) outs B → AvAll K F σ vs as → SlR K c.ca F H σ ρ O → (B ++ O).Nodup →
  ∃ O', SlR K c.ca F H σ (putBack ρ as outs) O' ∧ O'.Nodup ∧ ∀ p ∈ O', p ∈ B ++ O
 | [], _, ρ, outs, O, B, h, .nil, e, n => by
  cases h
  exact ⟨O, e, (List.nodup_append.mp n).2.1, fun p hp => by simp [hp]⟩
 | .d x :: as, v :: vs, ρ, none :: outs, O, B, .no h, .d r q, e, n => putBack_ok (as := as) h q e n
 | .d x :: as, v :: vs, ρ, some o :: outs, O, _, .so (A := A) (O := B) g h, .d r q, e, n => by
  rw [List.append_assoc] at n
  obtain ⟨O', k1, k2, k3⟩ := putBack_ok (as := as) h q e (List.nodup_append.mp n).2.1
  exact ⟨O', k1, k2, fun p hp => by rw [List.append_assoc]; exact List.mem_append_right _ (k3 p hp)⟩
 | .o i :: as, v :: vs, ρ, none :: outs, O, B, .no h, .o r q, e, n => by
  obtain ⟨R, h1, h2, h3, _⟩ := e.put (i := i) (List.getElem?_eq_some_iff.mp r).1
  have k := h3 (some v)
  rw [set_self r] at k
  obtain ⟨n1, n2, n3⟩ := List.nodup_append.mp n
  obtain ⟨O', k1, k2, k3⟩ := putBack_ok (as := as) (outs := outs) h q k (List.nodup_append.mpr ⟨n1, h2 n2, fun x hx y hy => n3 x hx y (h1 y hy)⟩)
  exact ⟨O', k1, k2, fun p hp => (List.mem_append.mp (k3 p hp)).elim (fun z => by simp [z]) fun z => by simp [h1 p z]⟩
 | .o i :: as, v :: vs, ρ, some o :: outs, O, _, .so (A := A) (O := B) g h, .o r q, e, n => by
  obtain ⟨R, h1, h2, _, h4⟩ := e.put (i := i) (List.getElem?_eq_some_iff.mp r).1
  obtain ⟨O1, k1, k2⟩ := h4 v o A g
  rw [set_self r] at k1
  rw [List.append_assoc] at n
  obtain ⟨n1, n2, n3⟩ := List.nodup_append.mp n
  obtain ⟨m1, m2, m3⟩ := List.nodup_append.mp n2
  have nd1 : (A ++ R).Nodup := List.nodup_append.mpr ⟨n1, h2 m2, fun x hx y hy => n3 x hx y (by simp [h1 y hy])⟩
  have nd2 : (B ++ O1).Nodup := List.nodup_append.mpr ⟨m1, k2.nodup_iff.mpr nd1, fun x hx y hy => by
   rcases List.mem_append.mp (k2.mem_iff.mp hy) with z | z
   ·exact (n3 y z x (by simp [hx])).symm
   ·exact m3 x hx y (h1 y z)⟩
  obtain ⟨O', j1, j2, j3⟩ := putBack_ok (as := as) h q k1 nd2
  refine ⟨O', j1, j2, fun p hp => ?_⟩
  rcases List.mem_append.mp (j3 p hp) with z | z
  ·simp [z]
  ·rcases List.mem_append.mp (k2.mem_iff.mp z) with z | z
   ·simp [z]
   ·simp [h1 p z]
end
section
variable {X : Cx} {c : Ct} {e : Expr} {es : List Expr} {pos : Pos} {p1 p2 pu : Bool} {me : M D} {ms : M (List AV)} {mo : M OV}
theorem sg_nil : PA X [] (tg X.K c gNil) := pa_nil.imp fun σ H Q ⟨F, ρ, O, e, h⟩ => h F H O [] e (Same.refl _) .nil
theorem tg_step {K : Frag} {α : Type} {F H : Hp} {σ : Sl} {ρ : Env} {O : List Addr} {m : M (List AV)} {k : List AV → Env → Res α} {P : α → Env → Prop} {Q : List V → Hp → Prop} (e : EnvR K c F H σ ρ O) (h : ((m ρ).bind k).post P (PX K c σ))
  (q : ∀ x ρ1 F1 H1 O1 v, (k x ρ1).post P (PX K c σ) → EnvR K c F1 H1 σ ρ1 O1 → Same F F1 → AvAll K F1 σ v x → Q v H1) : tg K c m σ H Q :=
 ⟨F, ρ, O, e, Res.post_imp (Res.post_bind h) (fun x ρ1 h1 F1 H1 O1 v e1 s1 r1 => q x ρ1 F1 H1 O1 v h1 e1 s1 r1) fun _ _ h => h⟩
theorem sg_d (ha : PE X e (te X.K c false p1 me)) (hr : PA X es (tg X.K c ms)) (hs : starEach (e :: es) X.env = (false, eval e X.env) :: starEach es X.env := by rfl) : PA X (e :: es) (tg X.K c (gD me ms)) :=
 (pa_cons ha hr hs).imp fun σ H Q ⟨F, ρ, O, e, h⟩ => te_step e h fun x ρ1 F1 H1 O1 v h1 e1 s1 q1 v1 => tg_step e1 h1 fun xs ρ2 F2 H2 O2 vs h2 e2 s2 v2 => h2 F2 H2 O2 _ e2 (s1.trans s2) (.d (Rp.mono s2 v1) v2)
theorem sg_o (i : Nat) {x : Str} {np : Pos} (hr : PA X es (tg X.K c ms)) (hN : X.N[i]? = some x := by rfl) (hv : Vis X.env.scope x := by first | exact Or.inl rfl | exact Or.inr (Or.inl rfl) | exact Or.inr (Or.inr rfl)) (hd : (x == ("__debug__" : Str)) = false := by decide)
  (hcd : (x == ("__classdict__" : Str)) = false := by decide) (hs : starEach (Expr.Name x np :: es) X.env = (false, eval (Expr.Name x np) X.env) :: starEach es X.env := by rfl) : PA X (.Name x np :: es) (tg X.K c (gO i ms)) :=
 (pa_cons (pe_var hN hv hd hcd) hr hs).imp fun σ H Q ⟨F, ρ, O, e, h⟩ => by
  unfold gO at h
  cases q : ρ[i]? with
  | none => rw [q] at h; exact h.elim
  | some w =>
   rw [q] at h
   cases w with
   | none => exact h.elim
   | some o =>
    obtain ⟨v, A, h1, h2⟩ := e.var q
    exact ⟨v, h1, tg_step e h fun xs ρ2 F2 H2 O2 vs h2 e2 s2 v2 => h2 F2 H2 O2 _ e2 s2 (.o h1 v2)⟩
theorem call_in {K : Frag} {f : Fn} {F H : Hp} {σ : Sl} {ρ : Env} {O : List Addr} {as : List AV} {vs : List V} {Q : VK} {P : OV → Env → Prop} (e : EnvR K c F H σ ρ O) (r : AvAll K F σ vs as)
  (h : (callEnd f as (gather ρ as)).post P (PX K c σ)) (hP : ∀ o ρ' F' H' O' A v, P o ρ' → EnvR K c F' H' σ ρ' O' → Same F F' → OwR K c.ca F' H' v o A → Apart c F' A O' → Q v H') : spF K c.ca f vs H Q (WE c.W σ) := by
 cases g : gather ρ as with
 | none => rw [g] at h; exact h.elim
 | some z =>
  obtain ⟨os, ρ2⟩ := z
  rw [g] at h
  have h : (callRf as ρ2 (f os)).post P (PX K c σ) := h
  obtain ⟨A, R, k1, k2, k3, k4⟩ := gather_ok g r e
  have ndA := (List.nodup_append.mp k3.nd).1
  refine ⟨F, os, A, e.sub, k1, ndA, fun p hp => (k3.ow p hp).1, ?_⟩
  -- what stands behind the call
  have back : ∀ {F' H' : Hp}, FnEnd F H A F' H' → EnvR K c F' H' σ ρ2 R ∧ ∀ p ∈ R, H p ≠ none ∧ p ∉ A := fun {F' H'} n => by
   have hRA : ∀ p ∈ R, p ∉ A := fun p hp hq => (List.nodup_append.mp k3.nd).2.2 p hq p hp rfl
   have hR : ∀ p ∈ R, H p ≠ none ∧ p ∉ A := fun p hp => ⟨k2.sl.there p hp, hRA p hp⟩
   refine ⟨⟨n.sub, k2.f0.trans n.fF, fun b o h1 h2 => ?_, fun b h1 h2 h3 => ?_, k2.sl.mono n.fF fun b hb => ?_, k2.nd, fun p hp => ⟨n.nw p (hR p hp).1 (hR p hp).2 (k2.ow p hp).1, (k2.ow p hp).2⟩, k2.fx⟩, hR⟩
   ·refine n.hH b o (k2.h0 b o h1 h2) fun hb => ?_
    rcases (k3.ow b hb).2 with z | z
    ·exact h2 z
    ·rw [h1] at z; cases z
   ·refine n.nw b ?_ (fun hb => ?_) (k2.n0 b h1 h2 h3)
    ·cases q : c.H b with
     | none => exact absurd q h1
     | some o => rw [k2.h0 b o q h2]; simp
    ·rcases (k3.ow b hb).2 with z | z
     ·exact h2 z
     ·exact h1 z
   ·obtain ⟨z1, z2⟩ := hR b hb
    cases q : H b with
    | none => exact absurd q z1
    | some o => exact n.hH b o q z2
  cases fo : f os with
  | bad => rw [fo] at h; exact h.elim
  | exS ξ w => rw [fo] at h; exact h.elim
  | ex ξ =>
   rw [fo] at h
   exact fun F' H' cls d n x => h F' H' R cls d (back n).1 x
  | ok r0 outs =>
   rw [fo] at h
   intro F' H' v A' B n sB ow ndB hB
   obtain ⟨e', hR⟩ := back n
   have cr : ∀ p ∈ A' ++ B, p ∈ c.O ∨ c.H p = none := fun p hp => by
    by_cases hc : p ∈ c.O
    ·exact .inl hc
    ·refine .inr ?_
     rcases (hB p hp).2 with z | z
     ·rcases (k3.ow p z).2 with z | z
      ·exact absurd z hc
      ·exact z
     ·cases q : c.H p with
      | none => rfl
      | some o => rw [e.h0 p o q hc] at z; cases z
   have dis : ∀ p ∈ A' ++ B, p ∉ R := fun p hp hr => by
    rcases (hB p hp).2 with z | z
    ·exact (hR p hr).2 z
    ·exact (hR p hr).1 z
   obtain ⟨nA, nB, nAB⟩ := List.nodup_append.mp ndB
   obtain ⟨O', j1, j2, j3⟩ := putBack_ok sB (r.mono n.fF) e'.sl (List.nodup_append.mpr ⟨nB, e'.nd, fun x hx y hy z => dis x (by simp [hx]) (z ▸ hy)⟩)
   refine hP r0 _ F' H' O' A' v h ⟨e'.sub, e'.f0, e'.h0, e'.n0, j1, j2, fun p hp => ?_, e'.fx⟩ n.fF ow ⟨List.nodup_append.mpr ⟨nA, j2, fun x hx y hy z => ?_⟩, fun p hp => ⟨(hB p (by simp [hp])).1, cr p (by simp [hp])⟩⟩
   ·rcases List.mem_append.mp (j3 p hp) with z | z
    ·exact ⟨(hB p (by simp [z])).1, cr p (by simp [z])⟩
    ·exact e'.ow p z
   ·subst z
    rcases List.mem_append.mp (j3 x hy) with z | z
    ·exact nAB x hx x z rfl
    ·exact dis x (by simp [hx]) z
variable {k : Nat} {f : Addr} {fd : FuncData} {ps : List Str} {fn : Fn} {x : Str} {p : Pos}
theorem call_step {σ : Sl} {H : Hp} {Q : VK} (h : to X.K c (mCall fn ms) σ H Q) : tCallS (spF X.K c.ca fn) (WE c.W) (tg X.K c ms) σ H Q := by
 obtain ⟨F, ρ, O, e, h⟩ := h
 refine tg_step e h fun as ρ1 F1 H1 O1 vs h1 e1 s1 r1 => ?_
 exact call_in e1 r1 h1 fun o ρ' F' H' O' A v hp e' s' ow ap => hp F' H' O' A v e' (s1.trans s') ow ap
theorem so_call (G : FnOk X.prog X.w X.K X.mg X.base (CXR rg X.prog X.w) k f fd ps (spF X.K c.ca fn)) (hr : Room k X.A) (hm : X.mg x = some (.ref f)) (hk : PySem.W.keepIn X.K (.ref f) = true) (hb : Binds X.K fd ps []) (tk : TakesR rg X c.W)
  (ha : PA X (e :: es) (tg X.K c ms)) (hg : Gl X x := by rfl) (hdb : (x == ("__debug__" : Str)) = false := by decide) (he : starEach (e :: es) X.env = (false, eval e X.env) :: starEach es X.env := by rfl) (hpl : (backTo pos (starEach es X.env)).any (·.1) = false := by rfl) :
  PE X (.Call (.Name x p) (e :: es) [] pos) (to X.K c (mCall fn ms)) := (pe_callS G hr hg hm hk hb (fun σ => passAtR tk σ) ha hdb he hpl).imp fun σ H Q h => call_step h
theorem so_call0 (G : FnOk X.prog X.w X.K X.mg X.base (CXR rg X.prog X.w) k f fd ps (spF X.K c.ca fn)) (hr : Room k X.A) (hm : X.mg x = some (.ref f)) (hk : PySem.W.keepIn X.K (.ref f) = true) (hb : Binds X.K fd ps []) (tk : TakesR rg X c.W)
  (hg : Gl X x := by rfl) (hdb : (x == ("__debug__" : Str)) = false := by decide) : PE X (.Call (.Name x p) [] [] pos) (to X.K c (mCall fn gNil)) := ⟨fun pins s σ H Q I h => by
 refine wpAny_Call_Name_kw (ld_glob I hg hm ?_ hdb)
 obtain ⟨F, ρ, O, e, h⟩ := h
 exact PySem.W.callWith_K0 I.kIn hk (run_fnS (us := []) (E := WE c.W) G hr hb (passAtR tk σ) I .nil (call_in (as := []) e .nil h fun o ρ' F' H' O' A v hp e' s' ow ap => hp F' H' O' A v e' s' ow ap))⟩
end
def sSeq (a b : M Fl) : M Fl := fun ρ => (a ρ).bind fun f ρ1 => match f with
 | .nx => b ρ1
 | f => .ok f ρ1
def sNil : M Fl := fun ρ => .ok .nx ρ
def sSet (i : Nat) (m : M D) : M Fl := fun ρ => (m ρ).bind fun x ρ1 => .ok .nx (ρ1.set i (some (.d x)))
def sSetO (i : Nat) (m : M OV) : M Fl := fun ρ => (m ρ).bind fun o ρ1 => .ok .nx (ρ1.set i (some o))
def sRet (m : M OV) : M Fl := fun ρ => (m ρ).bind fun o ρ1 => .ok (.rt o) ρ1
def sDrop (m : M OV) : M Fl := fun ρ => (m ρ).bind fun _ ρ1 => .ok .nx ρ1
section
variable {X : Cx} {c : Ct} {e d : Expr} {st : Stmt} {rest xs ys : List Stmt} {pos pos' : Pos} {p1 p2 pu : Bool} {me : M D} {mo : M OV} {a b : M Fl} {x : Str} {t : M Bool}
theorem ss_nil : PSs X [] (ts X.K c sNil) := pss_nil.imp fun D σ H ⟨F, ρ, O, e, h⟩ => h σ F H O e
theorem ts_next {K : Frag} {m : M Fl} {D : Ends} {b : M Fl} {F H : Hp} {σ : Sl} {ρ : Env} {O : List Addr} (e : EnvR K c F H σ ρ O) (h : (sSeq m b ρ).post (PS' K c D) (PXs K c)) : ts K c m { D with nx := ts K c b D } σ H := by
 refine ⟨F, ρ, O, e, Res.post_imp (Res.post_bind h) (fun f ρ1 h1 => ?_) fun _ _ h => h⟩
 cases f with
 | nx => exact fun σ' F' H' O' e' => ⟨F', ρ1, O', e', h1⟩
 | bk => exact h1
 | ct => exact h1
 | rt o => exact h1
theorem ss_cons (h1 : PS X st (ts X.K c a)) (h2 : PSs X rest (ts X.K c b)) : PSs X (st :: rest) (ts X.K c (sSeq a b)) := (pss_cons h1 h2).imp fun D σ H ⟨F, ρ, O, e, h⟩ => ts_next e h
theorem ss_one (h1 : PS X st (ts X.K c a)) : PSs X [st] (ts X.K c a) := pss_one h1
theorem sv_if (ht : PT X d (tt X.K c pu t)) (ha : PSs X xs (ts X.K c a)) (hb : PSs X ys (ts X.K c b)) : PS X (.If d xs ys pos) (ts X.K c (mIf t a b)) := (ps_if ht ha hb).imp fun D σ H ⟨F, ρ, O, e, h⟩ => by
 refine tt_stepS e h fun x ρ1 F1 H1 O1 h1 e1 s1 p1 => ?_
 cases x with
 | true =>
  rw [if_pos rfl] at h1 ⊢
  exact ⟨F1, ρ1, O1, e1, h1⟩
 | false =>
  rw [if_neg Bool.false_ne_true] at h1 ⊢
  exact ⟨F1, ρ1, O1, e1, h1⟩
theorem slen (hi : X.N[i]? = some x) {pins : List (Addr × Obj)} {σ : Sl} {H : Hp} {s : Shared} (I : Inv X pins σ H s) : i < σ.length := by rw [I.len]; exact (List.getElem?_eq_some_iff.mp hi).1
theorem sv_set {i : Nat} (hN : X.N.Nodup) (he : PE X e (te X.K c false pu me)) (hi : X.N[i]? = some x := by rfl) (hx : Loc X.env.scope x := by first | exact Or.inl rfl | exact Or.inr rfl) (hs : swapsWith e (some (.Name x pos')) pos.line X.env = pure false := by rfl)
  (hc : (c.fx.all fun j => j != i) = true := by rfl) (hf : X.fn x = true ∨ X.env.scope.names.lookup x = some .local := by first | exact .inl rfl | exact .inr rfl) : PS X (.Assign [.Name x pos'] e pos) (ts X.K c (sSet i me)) := ⟨fun pins s σ H D I h => by
 refine (ps_set hN hi hx he hs hf).run pins s σ H D I ?_
 obtain ⟨F, ρ, O, e, h⟩ := h
 refine te_stepS e h fun x ρ1 F1 H1 O1 v h1 e1 s1 q1 v1 => ?_
 obtain ⟨O', e'⟩ := e1.putD v1 (slen hi I) hc
 exact h1 _ F1 H1 O' e'⟩
theorem sv_setO {i : Nat} (hN : X.N.Nodup) (he : PE X e (to X.K c mo)) (hi : X.N[i]? = some x := by rfl) (hx : Loc X.env.scope x := by first | exact Or.inl rfl | exact Or.inr rfl) (hs : swapsWith e (some (.Name x pos')) pos.line X.env = pure false := by rfl)
  (hc : (c.fx.all fun j => j != i) = true := by rfl) (hf : X.fn x = true ∨ X.env.scope.names.lookup x = some .local := by first | exact .inl rfl | exact .inr rfl) : PS X (.Assign [.Name x pos'] e pos) (ts X.K c (sSetO i mo)) := ⟨fun pins s σ H D I h => by
 refine (ps_set hN hi hx he hs hf).run pins s σ H D I ?_
 obtain ⟨F, ρ, O, e, h⟩ := h
 refine to_stepS e h fun x ρ1 F1 H1 O1 A v h1 e1 s1 r1 a1 => ?_
 obtain ⟨O', e'⟩ := e1.put r1 a1 (slen hi I) hc
 exact h1 _ F1 H1 O' e'⟩
theorem sv_ret (he : PE X e (to X.K c mo)) : PS X (.Return (some e) pos) (ts X.K c (sRet mo)) := (ps_ret he).imp fun D σ H ⟨F, ρ, O, e, h⟩ =>
 to_stepS e h fun o ρ1 F1 H1 O1 A v h1 e1 s1 r1 a1 => h1 σ F1 H1 O1 A v e1 r1 a1
theorem sv_expr (he : PE X e (to X.K c mo)) (hs : swapsWith e none pos.line X.env = pure false := by rfl) : PS X (.Expr e pos) (ts X.K c (sDrop mo)) := (ps_expr he hs).imp fun D σ H ⟨F, ρ, O, e, h⟩ =>
 to_stepS e h fun o ρ1 F1 H1 O1 A v h1 e1 s1 r1 a1 => h1 σ F1 H1 O1 e1
end
def outsOf (fx : List Nat) (ρ' : Env) : Nat → List OV → Env
 | _, [] => []
 | i, o :: os => (if fx.contains i = true then (match ρ'[i]? with
  | some w => w
  | none => none) else match o with
  | .d x => some (.d x)
  | _ => none) :: outsOf fx ρ' (i + 1) os
def fnOf (n np : Nat) (fx : List Nat) (m : M Fl) : Fn := fun os => if os.length = np then (match m (os.map some ++ List.replicate (n - np) none) with
 | .ok (.rt o) ρ' => .ok o (outsOf fx ρ' 0 os)
 | .ok .nx ρ' => .ok (.d .none) (outsOf fx ρ' 0 os)
 | .ok _ _ => .bad
 | .ex ξ _ => .ex ξ
 | .bad => .bad) else .bad
section
variable {K : Frag} {ca : Str → Addr} {F H : Hp}
theorem SlR.none (K : Frag) (ca : Str → Addr) (F H : Hp) : ∀ σ : Sl, SlR K ca F H σ (List.replicate σ.length none) []
 | [] => .nil
 | _ :: σ => .no (SlR.none K ca F H σ)
theorem SlR.append : ∀ {σ τ : Sl} {ρ π : Env} {O B : List Addr}, SlR K ca F H σ ρ O → SlR K ca F H τ π B → SlR K ca F H (σ ++ τ) (ρ ++ π) (O ++ B)
 | _, _, _, _, _, _, .nil, s => s
 | _, _, _, _, _, _, .no r, s => .no (r.append s)
 | _, _, _, _, _, _, .so (A := A) (O := O) h r, s => by
  rw [List.append_assoc]
  exact .so h (r.append s)
theorem outs_ok {fx : List Nat} : ∀ {os : List OV} {vs : List V} {ρ' : Env} {σ' : Sl} {O B : List Addr} (i : Nat) (F0 H0 : Hp) (pre : Sl), SlR K ca F0 H0 (vs.map some) (os.map some) B → Same F0 F → SlR K ca F H σ' ρ' O → O.Nodup →
  (∀ j ∈ fx, i ≤ j → σ'[j]? = (vs.map some)[j - i]? ∨ (vs.map some)[j - i]? = Option.none) → ∃ B' R, SlR K ca F H (vs.map some) (outsOf fx ρ' i os) B' ∧ O.Perm (B' ++ R)
 | [], [], ρ', σ', O, B, i, F0, H0, pre, h, s, e, n, k => ⟨[], O, .nil, List.Perm.refl _⟩
 | [], v :: vs, _, _, _, _, _, _, _, _, h, _, _, _, _ => by cases h
 | o :: os, [], _, _, _, _, _, _, _, _, h, _, _, _, _ => by cases h
 | o :: os, v :: vs, ρ', σ', O, B, i, F0, H0, pre, h, s, e, n, k => by
  have h' : SlR K ca F0 H0 (some v :: vs.map some) (some o :: os.map some) B := h
  cases h' with
  | so g r =>
   have k' : ∀ j ∈ fx, i + 1 ≤ j → σ'[j]? = (vs.map some)[j - (i + 1)]? ∨ (vs.map some)[j - (i + 1)]? = Option.none := fun j hj hl => by
    have q := k j hj (by omega)
    have e1 : j - i = (j - (i + 1)) + 1 := by omega
    rw [e1, List.map_cons, List.getElem?_cons_succ] at q
    exact q
   by_cases hi : fx.contains i = true
   ·have q := k i (by simpa using hi) (Nat.le_refl _)
    rw [Nat.sub_self, List.map_cons, List.getElem?_cons_zero] at q
    have q : σ'[i]? = some (some v) := by
     rcases q with q | q
     ·exact q
     ·cases q
    cases w : ρ'[i]? with
    | none =>
     obtain ⟨B', R, z1, z2⟩ := outs_ok (os := os) (i + 1) F0 H0 pre r s e n k'
     refine ⟨B', R, ?_, z2⟩
     unfold outsOf
     rw [if_pos hi, w]
     exact .no z1
    | some w' =>
     cases w' with
     | none =>
      obtain ⟨B', R, z1, z2⟩ := outs_ok (os := os) (i + 1) F0 H0 pre r s e n k'
      refine ⟨B', R, ?_, z2⟩
      unfold outsOf
      rw [if_pos hi, w]
      exact .no z1
     | some o' =>
      obtain ⟨v', A, R, t1, t2, t3, t4⟩ := e.at w
      rw [q] at t1; cases t1
      obtain ⟨u1, _⟩ := t4 F H (Same.refl _) fun _ _ => rfl
      have nd := t3.nodup_iff.mp n
      -- the others' outs off the slots without i
      have oo : outsOf fx ρ' (i + 1) os = outsOf fx (ρ'.set i none) (i + 1) os := by
       have gen : ∀ (os : List OV) (j : Nat), i < j → outsOf fx ρ' j os = outsOf fx (ρ'.set i none) j os := by
        intro os
        induction os with
        | nil => intro j _; rfl
        | cons o os ih =>
         intro j hj
         unfold outsOf
         rw [ih (j + 1) (by omega), List.getElem?_set_ne (Nat.ne_of_lt hj)]
       exact gen os (i + 1) (Nat.lt_succ_self i)
      obtain ⟨B', R', z1, z2⟩ := outs_ok (os := os) (i + 1) F0 H0 pre r s u1 (List.nodup_append.mp nd).2.1 k'
      refine ⟨A ++ B', R', ?_, ?_⟩
      ·unfold outsOf
       rw [if_pos hi, w, oo]
       exact .so t2 z1
      ·rw [List.append_assoc]
       exact t3.trans (List.Perm.append_left A z2)
   ·obtain ⟨B', R, z1, z2⟩ := outs_ok (os := os) (i + 1) F0 H0 pre r s e n k'
    refine ⟨B', R, ?_, z2⟩
    unfold outsOf
    rw [if_neg hi]
    cases o with
    | d x =>
     cases g with
     | d g => exact .so (.d (g.mono s)) z1
    | lst _ => exact .no z1
    | dct _ => exact .no z1
    | dctT _ => exact .no z1
    | obj _ _ => exact .no z1
    | tup _ => exact .no z1
    | bag _ => exact .no z1
end
section
variable {P : Program} {w : World} {K : Frag} {mg : Str → Option Value} {base : Heap} {x qual : Str} {params : Arguments} {body : List Stmt} {scope : Scope} {dvs : List V} {kws : List (Str × V)} {f : Addr} {fd : FuncData} {N ps : List Str} {k : Nat}
theorem fn_rule {ca : Str → Addr} {m : M Fl} (fx : List Nat) (Fd : FunD K x qual params body scope dvs kws f fd) (S : FnScope N ps scope)
  (hb : ∀ (cdv : Value) (A : Around) (outer : List PySem.Env) (s : Shared) (H : Hp) (E : XK) (F : Hp) (O : List Addr) (σ : Sl), Room k (A.deeper (envOfC qual scope s.heap.objs.size f cdv)) →
   TakesR rg (cxOf (CXR rg P w) P w K mg base N qual scope f cdv A outer s H E) (fun cls d _ H' => E cls d H') →
   PSs (cxOf (CXR rg P w) P w K mg base N qual scope f cdv A outer s H E) body (ts K ⟨ca, F, H, O, fx, σ, fun cls d _ H' => E cls d H'⟩ m)) :
  FnOk P w K mg base (CXR rg P w) (k + 1) f fd ps (spF K ca (fnOf N.length ps.length fx m)) := by
 have lenO : ∀ {os : List OV} {vs : List V} {H : Hp} {F : Hp} {O : List Addr}, SlR K ca F H (vs.map some) (os.map some) O → vs.length = os.length := fun {os vs H F O} h => by
  have := h.length
  rwa [List.length_map, List.length_map] at this
 refine Fd.ok S (fun vs H Q E h => ?_) fun cdv A outer s H vs Q E hr h => ?_
 ·obtain ⟨F, os, O, h1, h2, h3, h4, h5⟩ := h
  rw [lenO h2]
  unfold fnOf at h5
  by_cases hl : os.length = ps.length
  ·exact hl
  ·rw [if_neg hl] at h5
   exact h5.elim
 ·obtain ⟨F, os, O, h1, h2, h3, h4, h5⟩ := h
  unfold fnOf at h5
  by_cases hl : os.length = ps.length
  ·rw [if_pos hl] at h5
   refine ⟨_, hb cdv A outer s H E F O (start N vs) hr (takesR_of rfl rfl rfl rfl), F, os.map some ++ List.replicate (N.length - ps.length) none, O, ?_, ?_⟩
   ·refine ⟨h1, Same.refl _, fun b o q _ => q, fun b _ _ q => q, ?_, h3, fun p hp => ⟨h4 p hp, .inl hp⟩, fun i _ => rfl⟩
    have z := h2.append (SlR.none K ca F H (List.replicate (N.length - vs.length) none))
    rw [List.append_nil, List.length_replicate, lenO h2, hl] at z
    unfold L2.start
    rw [lenO h2, hl]
    exact z
   ·-- the end
    have fin : ∀ {σ' : Sl} {F' H' : Hp} {O' : List Addr} {ρ' : Env}, EnvR K ⟨ca, F, H, O, fx, start N vs, fun cls d _ H' => E cls d H'⟩ F' H' σ' ρ' O' →
      FnEnd F H O F' H' ∧ ∃ B R, SlR K ca F' H' (vs.map some) (outsOf fx ρ' 0 os) B ∧ O'.Perm (B ++ R) := fun {σ' F' H' O' ρ'} e => by
     refine ⟨⟨e.f0, e.sub, e.h0, fun b h1 h2 h3 => e.n0 b h1 h2 h3⟩, ?_⟩
     refine outs_ok 0 F H σ' h2 e.f0 e.sl e.nd fun j hj _ => ?_
     have q := e.fx j hj
     rw [q, Nat.sub_zero]
     unfold L2.start
     by_cases hj2 : j < (vs.map some).length
     ·exact .inl (List.getElem?_append_left hj2)
     ·exact .inr (List.getElem?_eq_none (Nat.le_of_not_lt hj2))
    cases r : m (os.map some ++ List.replicate (N.length - ps.length) none) with
    | bad => rw [r] at h5; exact h5.elim
    | ex ξ ρ' =>
     rw [r] at h5
     exact fun σ' F' H' O' cls d e x => h5 F' H' cls d (fin e).1 x
    | ok fl ρ' =>
     rw [r] at h5
     cases fl with
     | bk => exact h5.elim
     | ct => exact h5.elim
     | nx =>
      intro σ' F' H' O' e
      obtain ⟨n, B, R, z1, z2⟩ := fin e
      have nd := z2.nodup_iff.mp e.nd
      exact h5 F' H' .non [] B n z1 (.d .non) (List.nodup_append.mp nd).1 fun p hp => e.ow p (z2.mem_iff.mpr (by simp at hp; simp [hp]))
     | rt o =>
      intro σ' F' H' O' A1 v e r1 a1
      obtain ⟨n, B, R, z1, z2⟩ := fin e
      have nd := z2.nodup_iff.mp e.nd
      obtain ⟨q1, q2, q3⟩ := List.nodup_append.mp a1.nd
      refine h5 F' H' v A1 B n z1 r1 (List.nodup_append.mpr ⟨q1, (List.nodup_append.mp nd).1, fun x hx y hy => q3 x hx y (z2.mem_iff.mpr (by simp [hy]))⟩) fun p hp => ?_
      rcases List.mem_append.mp hp with z | z
      ·exact a1.ow p z
      ·exact e.ow p (z2.mem_iff.mpr (by simp [z]))
  ·rw [if_neg hl] at h5
   exact h5.elim
end
end DL
end
section
namespace DL
variable [DL.TheW]
open PySem PySem.Spec PyProof.Rows L2
section
variable {K : Frag} {F H : Hp} {v : V}
theorem inv_int {i : Int} (h : RpB K F H v (.int i)) : v = .int i := by cases h with | d r => cases r; rfl
theorem inv_str {x : Str} (h : RpB K F H v (.str x)) : v = .str x := by cases h with | d r => cases r; rfl
theorem inv_bool {b : Bool} (h : RpB K F H v (.bool b)) : v = .bl b := by cases h with | d r => cases r; rfl
theorem inv_none (h : RpB K F H v .none) : v = .non := by cases h with | d r => cases r; rfl
theorem inv_list {ds : List D} (s : Same F H) (h : RpB K F H v (.list ds)) : ∃ p vs, v = .ref p ∧ H p = some (.lst vs) ∧ RpAll K F vs ds := by
 cases h with
 | d r => cases r with | lst h r => exact ⟨_, _, rfl, s _ _ h, r⟩
 | lst h r => exact ⟨_, _, rfl, h, r⟩
theorem inv_tup {ds : List D} (h : RpB K F H v (.tuple ds)) : ∃ p vs, v = .ref p ∧ TupN K F p vs ∧ RpAll K F vs ds := by
 cases h with
 | d r => cases r with | tup h r => exact ⟨_, _, rfl, h, r⟩
theorem zip_head {α β γ : Type} {f : α → γ} {kvs : List α} {ds : List β} {x : γ} {y : β} {r : List (γ × β)} (h : (kvs.map f).zip ds = (x, y) :: r) : ∃ a, a ∈ kvs ∧ f a = x := by
 cases kvs with
 | nil => simp at h
 | cons a kvs =>
  cases ds with
  | nil => simp at h
  | cons d ds =>
   simp at h
   exact ⟨a, List.mem_cons_self, h.1.1⟩
theorem inv_scr {ds : List D} (s : Same F H) (hE : notE ds = true) (h : RpB K F H v (.dict [(.none, .list ds)])) : ∃ p vs, v = .ref p ∧ SqL K H p vs ∧ RpAll K F vs ds := by
 have no : ∀ {k : Key}, kD k ≠ PyData.none := fun {k} e => by cases k <;> cases e
 generalize e : PyData.dict [(PyData.none, PyData.list ds)] = z at h
 cases h with
 | d r =>
  cases r with
  | scr _ h r =>
   cases e
   exact ⟨_, _, rfl, sq_l s h, r⟩
  | exc h1 h2 h3 r => unfold excD excL at e; cases e; cases hE
  | dcK h r =>
   obtain ⟨a, _, e2⟩ := zip_head (PyData.dict.inj e).symm
   exact absurd e2 no
  | dcT _ _ _ => unfold tdL at e; cases e; cases hE
  | _ => cases e
 | lst h r => cases e
 | dcK h r =>
  obtain ⟨a, _, e2⟩ := zip_head (PyData.dict.inj e).symm
  exact absurd e2 no
 | dcT _ _ _ => unfold tdL at e; cases e; cases hE
end
mutual
theorem Rp.dp {K : Frag} {F : Hp} : ∀ {v : V} {x : D}, Rp K F v x → x.canLay0 = true → Dp K F v x
 | _, _, .non, _ => .non
 | _, _, .bl b, _ => .bl b
 | _, _, .int i, _ => .int i
 | _, _, .str x, _ => .str x
 | _, _, .lst h r, q => .lst (.of h) (RpAll.dp r q)
 | _, _, .tup h r, q => .tup h.seq (RpAll.dp r q)
 | _, _, .scr _ _ _, q => by simp [PyData.canLay0] at q
 | _, _, .exc _ _ _ _, q => by simp [excD, PyData.canLay0] at q
 | _, _, .dcK _ _, q => by simp [PyData.canLay0] at q
 | _, _, .dcT _ _ _, q => by simp [tdL, PyData.canLay0] at q
theorem RpAll.dp {K : Frag} {F : Hp} : ∀ {vs : List V} {xs : List D}, RpAll K F vs xs → PyData.canLayAll0 xs = true → DpAll K F vs xs
 | _, _, .nil, _ => .nil
 | _, _, .cons h r, q => by
  obtain ⟨q1, q2⟩ : _ ∧ _ := by simpa [PyData.canLayAll0] using q
  exact .cons (Rp.dp h q1) (RpAll.dp r q2)
end
section
variable {X : Cx}
theorem opr_imp {f : Value → Value → Sem Value} {r r' : R2} (h : OpR X f r) (k : ∀ v w H Q, r' v w H Q → r v w H Q) : OpR X f r' := fun pins s σ H x y v u Q I rx ry q => h pins s σ H x y v u Q I rx ry (k x y H Q q)
def addD : D → D → Option D
 | .int i, .int j => some (.int (i + j))
 | .str x, .str y => if x.length + y.length ≤ sizeLine then some (.str (x ++ y)) else none
 | .tuple xs, .tuple ys => if xs.length + ys.length ≤ sizeLine then some (.tuple (xs ++ ys)) else none
 | .list xs, .list ys => if xs.length + ys.length ≤ sizeLine then some (.list (xs ++ ys)) else none
 | _, _ => none
theorem od_add : OpR X (binaryOp .Add) (rD X.K addD) := by
 refine opr_imp (op_add.or (op_add_str.or (op_catF.or op_cat))) fun v w H Q ⟨F, x, y, z, s, rv, rw', hz, q⟩ => ?_
 unfold addD at hz
 split at hz
 ·cases hz
  exact .inl ⟨_, _, inv_int rv, inv_int rw', q F H _ (New.refl s) (.int _)⟩
 ·split at hz
  ·rename_i hl
   cases hz
   exact .inr (.inl ⟨_, _, inv_str rv, inv_str rw', hl, q F H _ (New.refl s) (.str _)⟩)
  ·cases hz
 ·split at hz
  ·rename_i hl
   cases hz
   obtain ⟨a, vs, e1, h1, r1⟩ := inv_tup rv
   obtain ⟨b, ws, e2, h2, r2⟩ := inv_tup rw'
   refine .inr (.inr (.inl ⟨a, b, vs, ws, e1, e2, sq_t s h1.seq, sq_t s h2.seq, by rw [r1.length, r2.length]; exact hl, fun e => ?_, fun _ e => ?_, fun _ _ p ob hp hob => ?_⟩))
   ·subst e
    cases r1
    exact q F H _ (New.refl s) (.tup h2 r2)
   ·subst e
    cases r2
    rw [List.append_nil] at q
    exact q F H _ (New.refl s) (.tup h1 r1)
   ·have n := New.one s hp (.frz ob (.tup (vs ++ ws)))
    exact q _ _ _ n (.tup (.inl ⟨ob, upd_same, hob⟩) ((r1.append r2).mono n.fF))
  ·cases hz
 ·split at hz
  ·rename_i hl
   cases hz
   obtain ⟨a, vs, e1, h1, r1⟩ := inv_list s rv
   obtain ⟨b, ws, e2, h2, r2⟩ := inv_list s rw'
   refine .inr (.inr (.inr ⟨a, b, vs, ws, e1, e2, h1, h2, by rw [r1.length, r2.length]; exact hl, fun p hp => ?_⟩))
   have n := New.one s hp (.lst (vs ++ ws))
   exact q _ _ _ n (.lst upd_same ((r1.append r2).mono n.fF))
  ·cases hz
 ·cases hz
def subD : D → D → Option D
 | .int i, .int j => some (.int (i - j))
 | _, _ => none
theorem od_sub : OpR X (binaryOp .Sub) (rD X.K subD) := by
 refine opr_imp op_sub fun v w H Q ⟨F, x, y, z, s, rv, rw', hz, q⟩ => ?_
 unfold subD at hz
 split at hz
 ·cases hz
  exact ⟨_, _, inv_int rv, inv_int rw', q F H _ (New.refl s) (.int _)⟩
 ·cases hz
instance : DecidableRel CMulW := fun i j => inferInstanceAs (Decidable (i.natAbs.log2 + j.natAbs.log2 < 1000000))
instance : DecidableRel CDivW := fun _ j => inferInstanceAs (Decidable (0 < j ∧ j.natAbs.log2 < 9000))
theorem rep_size (c : Array Nat) : ∀ (n : Nat) (a : Array Nat), ((List.replicate n c).foldl (· ++ ·) a).size = a.size + n * c.size
 | 0, a => by simp
 | n + 1, a => by
  rw [List.replicate_succ, List.foldl_cons, rep_size c n, Array.size_append, Nat.succ_mul]
  omega
def repS (z : Str) (n : Nat) : Str := ⟨(List.replicate n z.cps).foldl (· ++ ·) #[]⟩
theorem op_mulS : OpR X (binaryOp .Mult) (fun x y H Q => ∃ z n, x = .str z ∧ y = .int n ∧ 1 < n ∧ n < 2 ^ 20 ∧ 0 < z.length ∧ z.length * n.toNat ≤ 4096 ∧ Q (.str (repS z n.toNat)) H) := by
 intro pins s σ H x y v u Q I rx ry h
 obtain ⟨z, n, rfl, rfl, h1, h2, h3, h4, q⟩ := h
 obtain ⟨t, rfl⟩ := rx
 obtain ⟨t', rfl⟩ := ry
 have c1 : ¬ n < 1 := by omega
 have c2 : (n == 1 || z.length == 0) = false := by
  have a : (n == 1) = false := beq_eq_false_iff_ne.mpr (by omega)
  have b : (z.length == 0) = false := beq_eq_false_iff_ne.mpr (by omega)
  rw [a, b]; rfl
 refine PySem.P.mul_str (by
  have a : ¬ n < -(2 ^ 63 : Int) := by omega
  have b : ¬ n ≥ 2 ^ 63 := by omega
  rw [decide_eq_false a, decide_eq_false b]; rfl) (fun _ _ => ?_) (fun _ _ => ?_) ?_
 ·have hz : (z.length : Int) ≤ 4096 := by
   have : z.length * 1 ≤ z.length * n.toNat := Nat.mul_le_mul_left _ (by omega)
   omega
  have : (4096 : Int) ≤ (2 ^ 63 - 1) / n := by
   refine (Int.le_ediv_iff_mul_le (by omega)).mpr ?_
   omega
  omega
 ·have : (4096 : Nat) ≤ sizeLine := by decide
  exact decide_eq_false (by omega)
 ·rw [if_neg c1, c2]
  refine ⟨?_, ⟨.str (repS z n.toNat), H, I.tok _, ⟨_, rfl⟩, q⟩⟩
  have : (4096 : Nat) ≤ sizeLine := by decide
  show ((List.replicate n.toNat z.cps).foldl (· ++ ·) #[]).size ≤ sizeLine
  rw [rep_size]
  have e : n.toNat * z.cps.size = z.length * n.toNat := Nat.mul_comm _ _
  rw [e]
  simp
  omega
def mulD : D → D → Option D
 | .str z, .int n => if 1 < n ∧ n < 2 ^ 20 ∧ 0 < z.length ∧ z.length * n.toNat ≤ 4096 then some (.str (repS z n.toNat)) else none
 | .int i, .int j => if CMulW i j then some (.int (i * j)) else none
 | .list xs, .int k => if -(2 ^ 63) ≤ k ∧ k < 2 ^ 63 ∧ xs.length * k.toNat ≤ sizeLine then some (.list (List.replicate k.toNat xs).flatten) else none
 | _, _ => none
theorem RpAll.rep {K : Frag} {F : Hp} {vs : List V} {xs : List D} (h : RpAll K F vs xs) : ∀ k : Nat, RpAll K F (List.replicate k vs).flatten (List.replicate k xs).flatten
 | 0 => .nil
 | k + 1 => by
  rw [List.replicate_succ, List.replicate_succ, List.flatten_cons, List.flatten_cons]
  exact h.append (RpAll.rep h k)
theorem od_mul : OpR X (binaryOp .Mult) (rD X.K mulD) := by
 refine opr_imp (op_mulS.or (op_mulW.or op_rep)) fun v w H Q ⟨F, x, y, z, s, rv, rw', hz, q⟩ => ?_
 unfold mulD at hz
 split at hz
 ·split at hz
  ·rename_i hc
   cases hz
   exact .inl ⟨_, _, inv_str rv, inv_int rw', hc.1, hc.2.1, hc.2.2.1, hc.2.2.2, q F H _ (New.refl s) (.str _)⟩
  ·cases hz
 ·split at hz
  ·rename_i hc
   cases hz
   exact .inr (.inl ⟨_, _, inv_int rv, inv_int rw', hc, q F H _ (New.refl s) (.int _)⟩)
  ·cases hz
 ·split at hz
  ·rename_i hc
   cases hz
   obtain ⟨a, vs, e1, h1, r1⟩ := inv_list s rv
   refine .inr (.inr ⟨a, _, vs, e1, inv_int rw', h1, hc.1, hc.2.1, by rw [r1.length]; exact hc.2.2, fun p hp => ?_⟩)
   exact q _ _ _ (New.one s hp _) (.lst upd_same ((r1.rep _).mono (New.one s hp _).fF))
  ·cases hz
 ·cases hz
def divD : D → D → Option D
 | .int i, .int j => if CDivW i j then some (.int (i / j)) else none
 | _, _ => none
theorem od_div : OpR X (binaryOp .FloorDiv) (rD X.K divD) := by
 refine opr_imp op_fdivW fun v w H Q ⟨F, x, y, z, s, rv, rw', hz, q⟩ => ?_
 unfold divD at hz
 split at hz
 ·split at hz
  ·rename_i hc
   cases hz
   exact ⟨_, _, inv_int rv, inv_int rw', hc, q F H _ (New.refl s) (.int _)⟩
  ·cases hz
 ·cases hz
def modD : D → D → Option D
 | .int i, .int j => if 0 < j then some (.int (i % j)) else none
 | _, _ => none
theorem od_mod : OpR X (binaryOp .Mod) (rD X.K modD) := by
 refine opr_imp op_mod fun v w H Q ⟨F, x, y, z, s, rv, rw', hz, q⟩ => ?_
 unfold modD at hz
 split at hz
 ·split at hz
  ·rename_i hc
   cases hz
   exact ⟨_, _, inv_int rv, inv_int rw', hc, q F H _ (New.refl s) (.int _)⟩
  ·cases hz
 ·cases hz
instance : DecidableRel CPow := fun i j => inferInstanceAs (Decidable (0 ≤ j ∧ j ≤ 1000000 ∧ i.natAbs < 2 ^ 64))
def powD : D → D → Option D
 | .int i, .int j => if CPow i j then some (.int (i ^ j.toNat)) else none
 | _, _ => none
theorem od_pow : OpR X (binaryOp .Pow) (rD X.K powD) := by
 refine opr_imp op_pow fun v w H Q ⟨F, x, y, z, s, rv, rw', hz, q⟩ => ?_
 unfold powD at hz
 split at hz
 ·split at hz
  ·rename_i hc
   cases hz
   exact ⟨_, _, inv_int rv, inv_int rw', hc, q F H _ (New.refl s) (.int _)⟩
  ·cases hz
 ·cases hz
def ltD : D → D → Option D
 | .int i, .int j => some (.bool (decide (i < j)))
 | _, _ => none
def leD : D → D → Option D
 | .int i, .int j => some (.bool (decide (i ≤ j)))
 | _, _ => none
def gtD : D → D → Option D
 | .int i, .int j => some (.bool (decide (j < i)))
 | _, _ => none
def geD : D → D → Option D
 | .int i, .int j => some (.bool (decide (j ≤ i)))
 | _, _ => none
theorem od_lt : OpR X (compareOp .Lt) (rD X.K ltD) := by
 refine opr_imp op_lt fun v w H Q ⟨F, x, y, z, s, rv, rw', hz, q⟩ => ?_
 unfold ltD at hz
 split at hz
 ·cases hz
  exact ⟨_, _, inv_int rv, inv_int rw', q F H _ (New.refl s) (.bl _)⟩
 ·cases hz
theorem od_gt : OpR X (compareOp .Gt) (rD X.K gtD) := by
 refine opr_imp op_gt fun v w H Q ⟨F, x, y, z, s, rv, rw', hz, q⟩ => ?_
 unfold gtD at hz
 split at hz
 ·cases hz
  exact ⟨_, _, inv_int rv, inv_int rw', q F H _ (New.refl s) (.bl _)⟩
 ·cases hz
theorem od_ge : OpR X (compareOp .GtE) (rD X.K geD) := by
 refine opr_imp op_ge fun v w H Q ⟨F, x, y, z, s, rv, rw', hz, q⟩ => ?_
 unfold geD at hz
 split at hz
 ·cases hz
  exact ⟨_, _, inv_int rv, inv_int rw', q F H _ (New.refl s) (.bl _)⟩
 ·cases hz
def eqD : D → D → Option D
 | .str x, .str y => some (.bool (decide (x = y)))
 | .list (_ :: _), .list [] => some (.bool false)
 | x, y => if SeqAt.shaped x = true ∧ SeqAt.shaped y = true then some (.bool (PyData.eqv x y)) else none
def neD : D → D → Option D
 | .str x, .str y => some (.bool (!decide (x = y)))
 | .list (_ :: _), .list [] => some (.bool true)
 | x, y => if SeqAt.shaped x = true ∧ SeqAt.shaped y = true then some (.bool (!PyData.eqv x y)) else none
theorem dec_vstr (x y : Str) : decide (V.str x = V.str y) = decide (x = y) := by
 by_cases h : x = y
 ·rw [decide_eq_true h, h, decide_eq_true rfl]
 ·rw [decide_eq_false h, decide_eq_false fun e => h (V.str.inj e)]
theorem dp_of {K : Frag} {F H : Hp} {v : V} {x : D} (s : Same F H) (h : RpB K F H v x) (q : SeqAt.shaped x = true) : Dp K H v x := by
 have q := SeqAt.canLay_of_shaped q
 cases h with
 | d r => exact (r.mono s).dp q
 | lst h r => exact .lst (.of h) (RpAll.dp (r.mono s) (by simpa [PyData.canLay0] using q))
 | dcK _ _ => simp [PyData.canLay0] at q
 | dcT _ _ _ => simp [tdL, PyData.canLay0] at q
theorem lst_of {K : Frag} {F H : Hp} {v : V} {ds : List D} (s : Same F H) (h : RpB K F H v (.list ds)) : ∃ a xs, v = .ref a ∧ SqL K H a xs ∧ xs.length = ds.length := by
 cases h with
 | d r => cases r with
  | lst h r => exact ⟨_, _, rfl, .of (s _ _ h), r.length⟩
 | lst h r => exact ⟨_, _, rfl, .of h, r.length⟩
def rLen (K : Frag) (b : Bool) : R2 := fun x y H Q => ∃ a c xs ys, x = .ref a ∧ y = .ref c ∧ SqL K H a xs ∧ SqL K H c ys ∧ xs.length ≠ ys.length ∧ Q (.bl b) H
theorem op_eqLen (hu : X.A.units + 64 < cLine) : OpR X (compareOp .Eq) (rLen X.K false) := by
 intro pins s σ H x y v u Q I rx ry h
 obtain ⟨a, b, xs, ys, rfl, rfl, ha, hb, hl, q⟩ := h
 cases (show v = Value.ref a from rx)
 cases (show u = Value.ref b from ry)
 obtain ⟨us, r1, p1, _⟩ := I.list ha
 obtain ⟨ws, r2, p2, _⟩ := I.list hb
 have hz : (us.toArray.size != ws.toArray.size) = true := by
  rw [List.size_toArray, List.size_toArray, ← r1.length, ← r2.length]
  simpa using hl
 exact SeqAt.RcAt.lists_lengths p1.isList p2.isList hz (by omega) X.prog X.w X.xe _ ⟨.bl false, H, I, rfl, q⟩
theorem op_neLen (hu : X.A.units + 64 < cLine) : OpR X (compareOp .NotEq) (rLen X.K true) := by
 intro pins s σ H x y v u Q I rx ry h
 obtain ⟨a, b, xs, ys, rfl, rfl, ha, hb, hl, q⟩ := h
 cases (show v = Value.ref a from rx)
 cases (show u = Value.ref b from ry)
 obtain ⟨us, r1, p1, _⟩ := I.list ha
 obtain ⟨ws, r2, p2, _⟩ := I.list hb
 have hz : (us.toArray.size != ws.toArray.size) = true := by
  rw [List.size_toArray, List.size_toArray, ← r1.length, ← r2.length]
  simpa using hl
 exact SeqAt.RcNeAt.lists_lengths p1.isList p2.isList hz (by omega) X.prog X.w X.xe _ ⟨.bl true, H, I, rfl, q⟩
theorem od_eq (hu : X.A.units + 64 < cLine) : OpR X (compareOp .Eq) (rD X.K eqD) := by
 refine opr_imp ((op_eq.or (op_eqD hu)).or (op_eqLen hu)) fun v w H Q ⟨F, x, y, z, s, rv, rw', hz, q⟩ => ?_
 unfold eqD at hz
 split at hz
 ·cases hz
  rw [inv_str rv, inv_str rw']
  refine .inl (.inl ⟨rfl, ?_⟩)
  rw [dec_vstr]
  exact q F H _ (New.refl s) (.bl _)
 ·cases hz
  obtain ⟨a, xs, rfl, h1, l1⟩ := lst_of s rv
  obtain ⟨b, ys, rfl, h2, l2⟩ := lst_of s rw'
  exact .inr ⟨a, b, xs, ys, rfl, rfl, h1, h2, by rw [l1, l2]; simp, q F H _ (New.refl s) (.bl _)⟩
 ·split at hz
  ·rename_i hc
   cases hz
   exact .inl (.inr ⟨_, _, dp_of s rv hc.1, dp_of s rw' hc.2, hc.1, hc.2, q F H _ (New.refl s) (.bl _)⟩)
  ·cases hz
theorem od_ne (hu : X.A.units + 64 < cLine) : OpR X (compareOp .NotEq) (rD X.K neD) := by
 refine opr_imp ((op_ne.or (op_neD hu)).or (op_neLen hu)) fun v w H Q ⟨F, x, y, z, s, rv, rw', hz, q⟩ => ?_
 unfold neD at hz
 split at hz
 ·cases hz
  rw [inv_str rv, inv_str rw']
  refine .inl (.inl ⟨rfl, ?_⟩)
  rw [dec_vstr]
  exact q F H _ (New.refl s) (.bl _)
 ·cases hz
  obtain ⟨a, xs, rfl, h1, l1⟩ := lst_of s rv
  obtain ⟨b, ys, rfl, h2, l2⟩ := lst_of s rw'
  exact .inr ⟨a, b, xs, ys, rfl, rfl, h1, h2, by rw [l1, l2]; simp, q F H _ (New.refl s) (.bl _)⟩
 ·split at hz
  ·rename_i hc
   cases hz
   exact .inl (.inr ⟨_, _, dp_of s rv hc.1, dp_of s rw' hc.2, hc.1, hc.2, q F H _ (New.refl s) (.bl _)⟩)
  ·cases hz
def allStr (xs : List D) : Option (List Str) := match xs with
 | [] => some []
 | .str x :: r => (allStr r).map fun l => x :: l
 | _ => none
def memD (x : D) (xs : List D) : Option Bool := match x, allStr xs with
 | .str z, some l => some (decide (z ∈ l))
 | _, _ => if SeqAt.shaped x = true ∧ SeqAt.shaped (.list xs) = true then some (xs.any fun y => PyData.eqv y x) else none
def strIn (x z : Str) : Bool := match x.cps.toList with
 | [c] => decide (c ∈ z.cps.toList)
 | _ => !(Builtin.Str.occurrences z x 0 z.length 1).isEmpty
def hasKD : List (D × D) → D → Option Bool
 | [], .str _ => some false
 | [], .int _ => some false
 | (.str s, _) :: r, .str t => if s = t then some true else hasKD r (.str t)
 | (.int i, _) :: r, .int j => if i = j then some true else hasKD r (.int j)
 | (.str _, _) :: r, .int j => hasKD r (.int j)
 | (.int _, _) :: r, .str t => hasKD r (.str t)
 | _, _ => none
def inB : D → D → Option Bool
 | .str x, .str z => some (strIn x z)
 | x, .list xs => memD x xs
 | x, .tuple xs => memD x xs
 | x, .dict kvs => hasKD kvs x
 | _, _ => none
def inD (x y : D) : Option D := (inB x y).map .bool
def ninD (x y : D) : Option D := (inB x y).map fun b => .bool (!b)
end
def lookKD : List (D × D) → D → Option D
 | (.str s, x) :: r, .str t => if s = t then some x else lookKD r (.str t)
 | (.int i, x) :: r, .int j => if i = j then some x else lookKD r (.int j)
 | (.str _, _) :: r, .int j => lookKD r (.int j)
 | (.int _, _) :: r, .str t => lookKD r (.str t)
 | _, _ => none
def getKD (kvs : List (D × D)) (y x : D) : Option D := (hasKD kvs y).bind fun b => if b = true then lookKD kvs y else some x
theorem valV_cons {α : Type} [DecidableEq α] {k k' : α} {v : V} {kvs : List (α × V)} : valV ((k, v) :: kvs) k' = if k = k' then some v else valV kvs k' := by
 unfold valV
 rw [List.find?_cons]
 by_cases e : k = k'
 ·rw [decide_eq_true e, if_pos e]; rfl
 ·rw [decide_eq_false e, if_neg e]
theorem look_ok {K : Frag} {F : Hp} {y x : D} : ∀ {kvs : List (Key × V)} {ds : List D}, RpAll K F (kvs.map (·.2)) ds → lookKD ((kvs.map fun p => kD p.1).zip ds) y = some x → ∃ k v, y = kD k ∧ valV kvs k = some v ∧ Rp K F v x
 | [], ds, _, h => by cases ds <;> cases h
 | (k, v) :: kvs, ds, r, h => by
  cases r with
  | @cons _ _ d ds r1 r2 =>
   have h : lookKD ((kD k, d) :: (kvs.map fun p => kD p.1).zip ds) y = some x := h
   have other : ∀ {z : D}, lookKD ((kvs.map fun p => kD p.1).zip ds) z = some x → kD k ≠ z → ∃ k2 v2, z = kD k2 ∧ valV ((k, v) :: kvs) k2 = some v2 ∧ Rp K F v2 x := fun {z} h hn => by
    obtain ⟨k2, v2, h1, h2, h3⟩ := look_ok r2 h
    refine ⟨k2, v2, h1, ?_, h3⟩
    rw [valV_cons, if_neg (fun q => hn (by rw [q, h1]))]
    exact h2
   cases k with
   | inl i =>
    cases y with
    | int j =>
     have h : (if i = j then some d else lookKD ((kvs.map fun p => kD p.1).zip ds) (.int j)) = some x := h
     by_cases e : i = j
     ·rw [if_pos e] at h
      cases h
      exact ⟨.inl j, v, rfl, by rw [valV_cons, if_pos (by rw [e])], r1⟩
     ·rw [if_neg e] at h
      exact other h fun q => e (PyData.int.inj q)
    | str t => exact other h fun q => nomatch q
    | _ => cases h
   | inr s =>
    cases y with
    | str t =>
     have h : (if s = t then some d else lookKD ((kvs.map fun p => kD p.1).zip ds) (.str t)) = some x := h
     by_cases e : s = t
     ·rw [if_pos e] at h
      cases h
      exact ⟨.inr t, v, rfl, by rw [valV_cons, if_pos (by rw [e])], r1⟩
     ·rw [if_neg e] at h
      exact other h fun q => e (PyData.str.inj q)
    | int j => exact other h fun q => nomatch q
    | _ => cases h
theorem key_val {K : Frag} {F H : Hp} {w : V} : ∀ {k : Key}, RpB K F H w (kD k) → w = kV k
 | .inl i, h => inv_int h
 | .inr s, h => inv_str h
section
variable {X : Cx}
end
end DL
end
section
namespace DL
variable [DL.TheW]
open PySem PySem.Spec PyProof.Rows L2
def PN (K : Frag) (c : Ct) (pu : Bool) (F H : Hp) (σ : Sl) (Q : VK) (xs : List D) (ρ' : Env) : Prop :=
 ∀ F' H' O' p vs, EnvR K c F' H' σ ρ' O' → Same F F' → (pu = true → Same H H') → H' p = some (.lst vs) → RpAll K F' vs xs → Apart c F' [p] O' → Q (.ref p) H'
def tn (K : Frag) (c : Ct) (pu : Bool) (m : M (List D)) : TE := fun σ H Q => ∃ F ρ O, EnvR K c F H σ ρ O ∧ (m ρ).post (PN K c pu F H σ Q) (PX K c σ)
section
variable {X : Cx} {c : Ct} {e : Expr} {pos : Pos} {pu : Bool} {ml : M (List D)}
theorem so_n (h : PE X e (tn X.K c pu ml)) : PE X e (to X.K c (mLst ml)) := h.imp fun σ H Q ⟨F, ρ, O, e, h1⟩ =>
 ⟨F, ρ, O, e, Res.post_imp (Res.post_bind h1) (fun xs ρ1 h2 F' H' O' p vs e' s' p' h3 h4 h5 => h2 F' H' O' [p] _ e' s' (.lst h3 h4) h5) fun _ _ h => h⟩
theorem se_n (h : PE X e (tn X.K c pu ml)) : PE X e (te X.K c false pu (mLstF ml)) := h.imp fun σ H Q ⟨F, ρ, O, e, h1⟩ =>
 ⟨F, ρ, O, e, Res.post_imp (Res.post_bind h1) (fun xs ρ1 h2 F' H' O' p vs e' s' p' h3 h4 h5 => by
  have s2 : Same F' (frzF F' H' [p]) := frz_same fun q hq => (h5.ow q hq).1
  exact h2 _ H' O' _ (e'.frz h5) (s'.trans s2) p' (.lst ((frz_in (List.mem_singleton_self _)).trans h3) (h4.mono s2))) fun _ _ h => h⟩
theorem n_lst {es : List Expr} {ms : M (List D)} (h : SA X c es pu ms) (hl : es.length ≤ 1000 := by exact Nat.le_of_ble_eq_true rfl) : PE X (.List es pos) (tn X.K c pu ms) := (pe_lst h.pa).imp fun σ H Q ⟨F, ρ, O, e, h1⟩ => by
 have h1' : ((ms ρ).bind fun xs ρ1 => .ok xs ρ1).post (PN X.K c pu F H σ Q) (PX X.K c σ) := by
  cases q : ms ρ <;> rw [q] at h1 <;> exact h1
 refine ta_step e h1' fun xs ρ1 F1 H1 O1 vs hm h2 e1 s1 p1 v1 => ⟨by rw [v1.length, h.len _ _ _ hm]; exact few hl, fun p hp => ?_⟩
 have n := New.own e1.sub hp (.lst vs)
 exact h2 _ _ O1 p vs (e1.new n) s1 (fun q => (p1 q).trans n.hH) upd_same v1 (e1.apart hp)
end
def rD1 (K : Frag) (g : D → Option D) : List V → Hp → VK → Prop := fun vs H Q => ∃ F v x z, vs = [v] ∧ Same F H ∧ RpB K F H v x ∧ g x = some z ∧ ∀ F' H' u, New F H F' H' → Rp K F' u z → Q u H'
def mF1 (g : D → Option D) (m : M D) : M D := fun ρ => (m ρ).bind fun x ρ1 => ofO (g x) ρ1
def mFN (g : D → Option (List D)) (m : M D) : M (List D) := fun ρ => (m ρ).bind fun x ρ1 => ofO (g x) ρ1
def PA1 (K : Frag) (c : Ct) (pu : Bool) (F H : Hp) (σ : Sl) (Q : List V → Hp → Prop) (x : D) (ρ' : Env) : Prop :=
 ∀ F' H' O' v, EnvR K c F' H' σ ρ' O' → Same F F' → (pu = true → Same H H') → RpB K F' H' v x → Q [v] H'
def ta1 (K : Frag) (c : Ct) (pu : Bool) (m : M D) : TA := fun σ H Q => ∃ F ρ O, EnvR K c F H σ ρ O ∧ (m ρ).post (PA1 K c pu F H σ Q) (PX K c σ)
section
variable {X : Cx} {c : Ct} {e : Expr} {pos p : Pos} {ka pu : Bool} {me : M D} {g : D → Option D} {gl : D → Option (List D)} {id T : String} {f : Value} {x : Str}
theorem call_imp {r r' : List V → Hp → VK → Prop} (h : CallR X f r) (k : ∀ vs H Q, r' vs H Q → r vs H Q) : CallR X f r' := fun pins s σ H xs us Q I rx q => h pins s σ H xs us Q I rx (k xs H Q q)
theorem sa_1 (ha : PE X e (te X.K c ka pu me)) (hs : starEach [e] X.env = (false, eval e X.env) :: starEach [] X.env := by rfl) : PA X [e] (ta1 X.K c pu me) := (pa_cons ha pa_nil hs).imp fun σ H Q ⟨F, ρ, O, e, h⟩ =>
 ⟨F, ρ, O, e, Res.post_imp h (fun x ρ1 h1 F1 H1 O1 v e1 s1 q1 v1 => h1 F1 H1 O1 v e1 s1 q1 v1.up0) fun _ _ h => h⟩
theorem ta1_d {σ : Sl} {H : Hp} {Q : VK} (h : te X.K c false pu (mF1 g me) σ H Q) : ta1 X.K c pu me σ H fun vs H1 => rD1 X.K g vs H1 Q := by
 obtain ⟨F, ρ, O, e, h⟩ := h
 refine ⟨F, ρ, O, e, Res.post_imp (Res.post_bind h) (fun x ρ1 h1 F1 H1 O1 v e1 s1 q1 v1 => ?_) fun _ _ h => h⟩
 obtain ⟨z, hz, h2⟩ := post_ofO h1
 exact ⟨F1, v, x, z, rfl, e1.sub, v1, hz, fun F' H' u n r => h2 F' H' O1 u (e1.new n) (s1.trans n.fF) (fun hp => (q1 hp).trans n.hH) r⟩
theorem se_b1 (hc : CallR X (.builtin id) (rD1 X.K g)) (hm : X.mg x = none) (ha : PE X e (te X.K c ka pu me)) (hg : Gl X x := by rfl) (hv : bootBuiltins x = some (.builtin id) := by decide +kernel) (hn : x ≠ "__name__" := by decide) (hdb : (x == ("__debug__" : Str)) = false := by decide)
  (hs : starEach [e] X.env = (false, eval e X.env) :: starEach [] X.env := by rfl) (hpl : (backTo pos (starEach [] X.env)).any (·.1) = false := by rfl) : PE X (.Call (.Name x p) [e] [] pos) (te X.K c false pu (mF1 g me)) :=
 (pe_callB hc hg hm hv (sa_1 ha hs) hn hdb hs hpl).imp fun σ H Q h => ta1_d h
theorem se_t1 (hc : CallR X (.type T) (rD1 X.K g)) (hm : X.mg x = none) (ha : PE X e (te X.K c ka pu me)) (hg : Gl X x := by rfl) (hv : bootBuiltins x = some (.type T) := by decide +kernel) (hn : x ≠ "__name__" := by decide) (hdb : (x == ("__debug__" : Str)) = false := by decide)
  (hs : starEach [e] X.env = (false, eval e X.env) :: starEach [] X.env := by rfl) (hpl : (backTo pos (starEach [] X.env)).any (·.1) = false := by rfl) : PE X (.Call (.Name x p) [e] [] pos) (te X.K c false pu (mF1 g me)) :=
 (pe_callTy hc hg hm hv (sa_1 ha hs) hn hdb hs hpl).imp fun σ H Q h => ta1_d h
end
theorem inv_dict {K : Frag} {F H : Hp} {v : V} {kvs : List (D × D)} (s : Same F H) (h : RpB K F H v (.dict kvs)) :
  (∃ p ds, v = .ref p ∧ kvs = [(.none, .list ds)] ∧ (notE ds = true → ∃ vs, SqL K H p vs ∧ RpAll K F vs ds)) ∨
  (∃ p kws ds, v = .ref p ∧ Rd H p (.dK kws) ∧ RpAll K F (kws.map (·.2)) ds ∧ kvs = (kws.map fun q => kD q.1).zip ds) := by
 generalize e : PyData.dict kvs = z at h
 cases h with
 | d r =>
  cases r with
  | scr _ h r => cases e; exact .inl ⟨_, _, rfl, rfl, fun _ => ⟨_, sq_l s h, r⟩⟩
  | exc _ _ _ _ => unfold excD at e; cases e; exact .inl ⟨_, _, rfl, rfl, fun q => by cases q⟩
  | dcK h r => cases e; exact .inr (⟨_, _, _, rfl, .inr ⟨_, s _ _ h⟩, r, rfl⟩)
  | dcT _ _ _ => unfold tdL at e; cases e; exact .inl ⟨_, _, rfl, rfl, fun q => by cases q⟩
  | _ => cases e
 | lst h r => cases e
 | dcK h r => cases e; exact .inr (⟨_, _, _, rfl, h, r, rfl⟩)
 | dcT _ _ _ => unfold tdL at e; cases e; exact .inl ⟨_, _, rfl, rfl, fun q => by cases q⟩
def cells (kvs : List (D × D)) : Option (List D) := match kvs with
 | [(.none, .list ds)] => some ds
 | _ => none
theorem cells_ok {kvs : List (D × D)} {ds : List D} (h : cells kvs = some ds) : kvs = [(.none, .list ds)] := by
 unfold cells at h
 split at h
 ·cases h; rfl
 ·cases h
theorem cells_no {α : Type} {f : α → D} (hf : ∀ a, f a ≠ .none) {kws : List α} {ds : List D} : cells ((kws.map f).zip ds) = none := by
 cases h : cells ((kws.map f).zip ds) with
 | none => rfl
 | some es =>
  obtain ⟨a, _, e2⟩ := zip_head (cells_ok h)
  exact absurd e2 (hf a)
theorem kD_no (k : Key) : kD k ≠ .none := fun e => by cases k <;> cases e
def lenD : D → Option D
 | .str x => if x.length ≤ sizeLine then some (.int x.length) else none
 | .list xs => some (.int xs.length)
 | .tuple xs => some (.int xs.length)
 | .dict kvs => match cells kvs with
  | some ds => if notE ds = true then some (.int ds.length) else none
  | none => some (.int kvs.length)
 | _ => none
theorem zip_len {α : Type} {kvs : List α} {f : α → D} {g : α → V} {K : Frag} {F : Hp} {ds : List D} (r : RpAll K F (kvs.map g) ds) : ((kvs.map f).zip ds).length = kvs.length := by
 have h := r.length
 rw [List.length_map] at h
 rw [List.length_zip, List.length_map, ← h, Nat.min_self]
theorem call_lenK {X : Cx} : CallR X (.builtin "len") (fun xs H Q => ∃ a kvs, xs = [V.ref a] ∧ Rd H a (.dK kvs) ∧ Q (.int kvs.length) H) := by
 intro pins s σ H xs us Q I r h
 obtain ⟨a, kvs, rfl, ha, q⟩ := h
 rw [Vals.ref1 r]
 exact d_len I ha fun t s' I' => ⟨.int kvs.length, H, I', ⟨_, rfl⟩, q⟩
theorem cd_len {X : Cx} : CallR X (.builtin "len") (rD1 X.K lenD) := by
 refine call_imp (CallR.or call_len call_lenK) fun vs H Q ⟨F, v, x, z, hv, s, rv, hz, q⟩ => ?_
 subst hv
 unfold lenD at hz
 split at hz
 ·split at hz
  ·rename_i hl
   cases hz
   exact .inl ⟨v, _, rfl, by rw [inv_str rv]; exact ⟨hl, rfl⟩, q F H _ (New.refl s) (.int _)⟩
  ·cases hz
 ·cases hz
  obtain ⟨p, ws, rfl, h1, r1⟩ := inv_list s rv
  exact .inl ⟨_, _, rfl, .inl ⟨ws, .of h1, r1.length.symm⟩, q F H _ (New.refl s) (.int _)⟩
 ·cases hz
  obtain ⟨p, ws, rfl, h1, r1⟩ := inv_tup rv
  exact .inl ⟨_, _, rfl, .inr ⟨ws, sq_t s h1.seq, r1.length.symm⟩, q F H _ (New.refl s) (.int _)⟩
 ·rename_i kvs
  rcases inv_dict s rv with ⟨p, ds, rfl, e1, h1⟩ | ⟨p, kws, ds, rfl, h1, r1, e1⟩
  ·subst e1
   have hz : (if notE ds = true then some (PyData.int ds.length) else none) = some z := hz
   split at hz
   case isFalse => cases hz
   rename_i hn
   obtain ⟨ws, h1, r1⟩ := h1 hn
   cases hz
   exact .inl ⟨_, _, rfl, .inl ⟨ws, h1, r1.length.symm⟩, q F H _ (New.refl s) (.int _)⟩
  ·subst e1
   rw [cells_no (f := fun q : Key × V => kD q.1) fun a => kD_no a.1] at hz
   simp only [Option.some.injEq] at hz
   subst hz
   refine .inr ⟨p, kws, rfl, h1, ?_⟩
   have z := q F H (.int ((((kws.map fun q => kD q.1).zip ds).length : Nat) : Int)) (New.refl s) (.int _)
   rw [zip_len r1] at z
   exact z
 ·cases hz
def intD : D → Option D
 | .int i => some (.int i)
 | .bool b => some (.int (if b then 1 else 0))
 | _ => none
theorem cd_int {X : Cx} : CallR X (.type "int") (rD1 X.K intD) := by
 refine call_imp call_int1 fun vs H Q ⟨F, v, x, z, hv, s, rv, hz, q⟩ => ?_
 subst hv
 unfold intD at hz
 split at hz
 ·cases hz; exact .inl ⟨_, by rw [inv_int rv], q F H _ (New.refl s) (.int _)⟩
 ·cases hz; exact .inr ⟨_, by rw [inv_bool rv], q F H _ (New.refl s) (.int _)⟩
 ·cases hz
def strD : D → Option D
 | .int i => if i.natAbs.log2 < 1920 then some (.str (toString i)) else none
 | _ => none
theorem cd_str {X : Cx} : CallR X (.type "str") (rD1 X.K strD) := by
 refine call_imp call_str_int fun vs H Q ⟨F, v, x, z, hv, s, rv, hz, q⟩ => ?_
 subst hv
 unfold strD at hz
 split at hz
 ·split at hz
  ·rename_i hl
   cases hz; exact ⟨_, by rw [inv_int rv], hl, q F H _ (New.refl s) (.str _)⟩
  ·cases hz
 ·cases hz
def absD : D → Option D
 | .int i => some (.int (if i < 0 then -i else i))
 | _ => none
theorem cd_abs {X : Cx} : CallR X (.builtin "abs") (rD1 X.K absD) := by
 refine call_imp call_abs fun vs H Q ⟨F, v, x, z, hv, s, rv, hz, q⟩ => ?_
 subst hv
 unfold absD at hz
 split at hz
 ·cases hz; exact ⟨_, by rw [inv_int rv], q F H _ (New.refl s) (.int _)⟩
 ·cases hz
def boolsD : List D → Option (List Bool)
 | [] => some []
 | .bool b :: r => (boolsD r).map (b :: ·)
 | _ => none
def allD : D → Option D
 | .list ds => (boolsD ds).map fun bs => .bool (bs.all id)
 | _ => none
def listD : D → Option (List D)
 | .list xs => some xs
 | .tuple xs => some xs
 | .dict kvs => (cells kvs).bind fun ds => if notE ds = true then some ds else none
 | _ => none
def tupD : D → Option D
 | .list xs => some (.tuple xs)
 | .tuple xs => some (.tuple xs)
 | _ => none
theorem cd_tup {X : Cx} : CallR X (.type "tuple") (rD1 X.K tupD) := by
 refine call_imp call_tupF fun vs H Q ⟨F, v, x, z, hv, s, rv, hz, q⟩ => ?_
 subst hv
 unfold tupD at hz
 split at hz
 ·cases hz
  obtain ⟨p, ws, rfl, h2, r1⟩ := inv_list s rv
  refine ⟨p, ws, rfl, .inl ⟨.of h2, fun l ob hl hob => ?_⟩⟩
  have n := New.one s hl (.frz ob (.tup ws))
  exact q _ _ _ n (.tup (.inl ⟨ob, upd_same, hob⟩) (r1.mono n.fF))
 ·cases hz
  obtain ⟨p, ws, rfl, h2, r1⟩ := inv_tup rv
  exact ⟨p, ws, rfl, .inr ⟨sq_t s h2.seq, q F H _ (New.refl s) (.tup h2 r1)⟩⟩
 ·cases hz
def ixD0 : D → D → Option D
 | .list xs, .int i => atI xs i
 | .tuple xs, .int i => atI xs i
 | .str z, .int i => if z.length ≤ sizeLine then (atI z.cps.toList i).map fun c => .str ⟨#[c]⟩ else none
 | .dict kvs, .int i => (cells kvs).bind fun ds => if notE ds = true then atI ds i else none
 | _, _ => none
def ixD : D → D → Option D
 | .list xs, .int i => atI xs i
 | .tuple xs, .int i => atI xs i
 | .str z, .int i => if z.length ≤ sizeLine then (atI z.cps.toList i).map fun c => .str ⟨#[c]⟩ else none
 | .dict kvs, .int i => match cells kvs with
  | some ds => if notE ds = true then atI ds i else none
  | none => lookKD kvs (.int i)
 | .dict kvs, .str s => lookKD kvs (.str s)
 | _, _ => none
theorem atI_rp {K : Frag} {F : Hp} {vs : List V} {ds : List D} {i : Int} {d : D} (r : RpAll K F vs ds) (h : atI ds i = some d) : ∃ v, atI vs i = some v ∧ Rp K F v d := by
 unfold atI at h ⊢
 rw [r.length]
 cases e : ixN ds.length i with
 | none => rw [e] at h; cases h
 | some j =>
  rw [e] at h
  exact r.getD h
theorem ixr_imp {r r' : R2} (h : IxR X r) (k : ∀ v w H Q, r' v w H Q → r v w H Q) : IxR X r' := fun value slice pins s σ H x y v u Q I rx ry q hs => h value slice pins s σ H x y v u Q I rx ry (k x y H Q q) hs
theorem xd_seq0 {X : Cx} : IxR X (rD X.K ixD0) := by
 refine ixr_imp ix_seq fun v w H Q ⟨F, x, y, z, s, rv, rw', hz, q⟩ => ?_
 unfold ixD0 at hz
 split at hz
 ·obtain ⟨p, ws, rfl, h2, r1⟩ := inv_list s rv
  obtain ⟨u, h3, h4⟩ := atI_rp r1 hz
  exact .inl ⟨p, ws, _, u, rfl, inv_int rw', .of h2, h3, q F H u (New.refl s) h4⟩
 ·obtain ⟨p, ws, rfl, h2, r1⟩ := inv_tup rv
  obtain ⟨u, h3, h4⟩ := atI_rp r1 hz
  exact .inr (.inl ⟨p, ws, _, u, rfl, inv_int rw', sq_t s h2.seq, h3, q F H u (New.refl s) h4⟩)
 ·split at hz
  ·rename_i hl
   obtain ⟨c, h1, rfl⟩ := Option.map_eq_some_iff.mp hz
   exact .inr (.inr ⟨_, _, c, inv_str rv, inv_int rw', hl, h1, q F H _ (New.refl s) (.str _)⟩)
  ·cases hz
 ·rename_i kvs i
  cases e : cells kvs with
  | none => rw [e] at hz; cases hz
  | some ds =>
   rw [e] at hz
   have e := cells_ok e
   subst e
   have hz : (if notE ds = true then atI ds i else none) = some z := hz
   split at hz
   case isFalse => cases hz
   rename_i hn
   obtain ⟨p, ws, rfl, h2, r1⟩ := inv_scr s hn rv
   obtain ⟨u, h3, h4⟩ := atI_rp r1 hz
   exact .inl ⟨p, ws, _, u, rfl, inv_int rw', h2, h3, q F H u (New.refl s) h4⟩
 ·cases hz
theorem ix_dictR {X : Cx} (hu : X.A.units + 64 < cLine) : IxR X (fun x y H Q => ∃ a v, x = .ref a ∧ DGet H a y (some v) ∧ Q v H) := fun value slice pins s σ H x y v u Q I rx ry ⟨a, w, ex, g, q⟩ hs => by
 subst ex
 cases rx
 have hT := dict_typeIs I g
 have get := d_getItem (A := X.A) (E := X.xe) (Q := L2.EP X pins σ Q) (by omega) I g ry fun w' s' I' r => ⟨w, H, I', r, q⟩
 unfold subscriptTail
 refine wpAny_bind ?_
 rw [getitemInPython_of_ne hT.not_modules]
 refine wpAny_bind (wpAny_specialOf hT PySem.F.slot_dict_getitem.lookup ?_)
 have fin : wpAny (model X.prog X.w) X.A (subscripted slice false (.ref a) u) (fun r s2 => wpAny (model X.prog X.w) X.A (letTemporaryGo value (.ref a) r >>= fun _ => pure r) (L2.EP X pins σ Q) X.xe s2) X.xe s := by
  rw [hs]
  exact wpAny_operating (wpAny_mono get (fun r s2 h2 => wpAny_bind (wpAny_letTemporaryGo (wpAny_pure h2))) fun _ _ z => z)
 first
  | exact wpAny_pure (wpAny_bind fin)
  | exact wpAny_bind (wpAny_pure (wpAny_bind fin))
  | exact wpAny_bind fin
theorem get_ok {K : Frag} {F H : Hp} {v w : V} {kvs : List (D × D)} {y z : D} (s : Same F H) (h : RpB K F H v (.dict kvs)) (hw : RpB K F H w y) (q : lookKD kvs y = some z) : ∃ a u, v = .ref a ∧ DGet H a w (some u) ∧ Rp K F u z := by
 rcases inv_dict s h with ⟨p, ds, _, rfl, _⟩ | ⟨a, kws, ds, e, rd, r, rfl⟩
 ·cases y <;> cases q
 ·obtain ⟨k, u, rfl, h2, h3⟩ := look_ok r q
  exact ⟨a, u, e, .inl ⟨kws, k, rd, key_val hw, h2.symm⟩, h3⟩
theorem xd_seq {X : Cx} (hu : X.A.units + 64 < cLine) : IxR X (rD X.K ixD) := fun value slice pins s σ H x y v u Q I rx ry ⟨F, dx, dy, z, sm, rv, rw', hz, q⟩ hs => by
 have dict : ∀ kvs, RpB X.K F H x (.dict kvs) → lookKD kvs dy = some z → wpAny (model X.prog X.w) X.A (subscriptTail value slice v u) (L2.EP X pins σ Q) X.xe s := fun kvs rv hz => by
  obtain ⟨a, w, e, g, r⟩ := get_ok sm rv rw' hz
  exact ix_dictR hu value slice pins s σ H x y v u Q I rx ry ⟨a, w, e, g, q F H w (New.refl sm) r⟩ hs
 have old : ixD0 dx dy = some z → wpAny (model X.prog X.w) X.A (subscriptTail value slice v u) (L2.EP X pins σ Q) X.xe s := fun hz => xd_seq0 value slice pins s σ H x y v u Q I rx ry ⟨F, dx, dy, z, sm, rv, rw', hz, q⟩ hs
 cases dx with
 | dict kvs =>
  cases dy with
  | int i =>
   have hz : (match cells kvs with
    | some ds => if notE ds = true then atI ds i else none
    | none => lookKD kvs (.int i)) = some z := hz
   cases hc : cells kvs with
   | none => rw [hc] at hz; exact dict kvs rv hz
   | some ds =>
    rw [hc] at hz
    exact old (by show (cells kvs).bind _ = _; rw [hc]; exact hz)
  | str t => exact dict kvs rv hz
  | _ => cases hz
 | list _ => exact old (by cases dy <;> exact hz)
 | tuple _ => exact old (by cases dy <;> exact hz)
 | str _ => exact old (by cases dy <;> exact hz)
 | _ => cases hz
theorem se_ix {X : Cx} {c : Ct} {a b : Expr} {pos : Pos} {ka kb pa pb : Bool} {ma mb : M D} (hu : X.A.units + 64 < cLine) (ha : PE X a (te X.K c ka pa ma)) (hb : PE X b (te X.K c kb pb mb)) (hk : ka = true → pb = true := by decide) (hs : PlainIx b := by exact fun _ _ => rfl) :
  PE X (.Subscript a b pos) (te X.K c false (pa && pb) (mBin ixD ma mb)) := (pe_ix (xd_seq hu) ha hb hs).imp fun σ H Q h => bin_step (f := fun v _ => pure v) hk h
def cutD (xs : List D) (lo hi : Option Int) : List D := (xs.drop (HT.sIx xs.length 0 lo)).take (HT.sIx xs.length xs.length hi - HT.sIx xs.length 0 lo)
def slD (x : D) (lo hi : Option Int) : Option D := match x with
 | .list xs => some (.list (cutD xs lo hi))
 | .tuple xs => some (.tuple (cutD xs lo hi))
 | .str z => if z.length ≤ sizeLine then some (.str (cutS z lo hi)) else none
 | _ => none
def bNo : M (Option Int) := fun ρ => .ok none ρ
def bTo (m : M D) : M (Option Int) := fun ρ => (m ρ).bind fun x ρ1 => match x with
 | .int i => .ok (some i) ρ1
 | _ => .bad
def mSl (a : M D) (l u : M (Option Int)) : M D := fun ρ => (a ρ).bind fun x ρ1 => (l ρ1).bind fun i ρ2 => (u ρ2).bind fun j ρ3 => ofO (slD x i j) ρ3
section
variable {X : Cx} {c : Ct} {a b : Expr} {lo hi : Option Expr} {pos p2 : Pos} {ka kb pa pb pl pu : Bool} {ma mb : M D} {ml mu : M (Option Int)}
end
end DL
end
section
namespace DL
variable [DL.TheW]
open PySem PySem.Spec PyProof.Rows L2
inductive RpW (K : Frag) (F : Hp) : V → D → Prop
 | s {v : V} {d : D} : Rp K F v d → RpW K F v d
 | w {a : Addr} {xs : List V} {ds : List D} : SqT K F a xs → RpAll K F xs ds → RpW K F (.ref a) (.tuple ds)
def RpI (tg : Expr) (K : Frag) (F : Hp) (v : V) (d : D) : Prop := match tg with
 | .Tuple _ _ _ => RpW K F v d
 | _ => Rp K F v d
theorem Rp.i {tg : Expr} {K : Frag} {F : Hp} {v : V} {d : D} (h : Rp K F v d) : RpI tg K F v d := by
 unfold RpI
 split
 ·exact .s h
 ·exact h
structure ItD (tg : Expr) (K : Frag) (F : Hp) (J : It) (xs : List D) : Prop where
 few : xs.length ≤ sizeLine
 go : ∀ F2 H2, Same F F2 → Same F2 H2 → ∀ i, i < xs.length → J.go i H2
 yl : ∀ F2 H2, Same F F2 → Same F2 H2 → ∀ i x H3, i < xs.length → J.yld i H2 x H3 → ∃ F3 d, New F2 H2 F3 H3 ∧ xs[i]? = some d ∧ RpI tg K F3 x d
 st : ∀ F2 H2, Same F F2 → Same F2 H2 → ∀ i, xs.length ≤ i → J.stop i H2
def PIx (tg : Expr) (K : Frag) (c : Ct) (pu : Bool) (F H : Hp) (σ : Sl) (R : It → Hp → Prop) (xs : List D) (ρ' : Env) : Prop :=
 ∀ F' H' O' J, EnvR K c F' H' σ ρ' O' → Same F F' → (pu = true → Same H H') → ItD tg K F' J xs → R J H'
def ti (tg : Expr) (K : Frag) (c : Ct) (pu : Bool) (m : M (List D)) : TI := fun σ H R => ∃ F ρ O, EnvR K c F H σ ρ O ∧ (m ρ).post (PIx tg K c pu F H σ R) (PX K c σ)
theorem getR {K : Frag} {F : Hp} {vs : List V} {ds : List D} {i : Nat} (r : RpAll K F vs ds) (h : i < ds.length) : ∃ v, vs[i]? = some v ∧ Rp K F v ds[i] := r.getD (by simp [h])
theorem itD_list {tg : Expr} {K : Frag} {F : Hp} {a : Addr} {vs : List V} {ds : List D} (hz : ds.length ≤ sizeLine) (h : SqL K F a vs) (r : RpAll K F vs ds) : ItD tg K F (Itl K a) ds where
 few := hz
 go := fun F2 H2 s1 s2 i hi => by
  obtain ⟨v, h1, _⟩ := getR r hi
  exact ⟨vs, v, sq_l (s1.trans s2) h, h1⟩
 yl := fun F2 H2 s1 s2 i x H3 hi ⟨e, y⟩ => by
  subst e
  obtain ⟨v, h1, h2⟩ := getR r hi
  have e := y vs (sq_l (s1.trans s2) h)
  rw [h1] at e
  cases e
  exact ⟨F2, _, New.refl s2, by simp [hi], (h2.mono s1).i⟩
 st := fun F2 H2 s1 s2 i hi => ⟨vs, sq_l (s1.trans s2) h, by rw [r.length]; exact hi⟩
theorem itD_tup {tg : Expr} {K : Frag} {F : Hp} {a : Addr} {vs : List V} {ds : List D} (hz : ds.length ≤ sizeLine) (h : SqT K F a vs) (r : RpAll K F vs ds) : ItD tg K F (Itt K a) ds where
 few := hz
 go := fun F2 H2 s1 s2 i hi => by
  obtain ⟨v, h1, _⟩ := getR r hi
  exact ⟨vs, v, sq_t (s1.trans s2) h, h1⟩
 yl := fun F2 H2 s1 s2 i x H3 hi ⟨e, y⟩ => by
  subst e
  obtain ⟨v, h1, h2⟩ := getR r hi
  have e := y vs (sq_t (s1.trans s2) h)
  rw [h1] at e
  cases e
  exact ⟨F2, _, New.refl s2, by simp [hi], (h2.mono s1).i⟩
 st := fun F2 H2 s1 s2 i hi => ⟨vs, sq_t (s1.trans s2) h, by rw [r.length]; exact hi⟩
def charsD (z : Str) : List D := z.cps.toList.map fun c => .str ⟨#[c]⟩
theorem itD_str {tg : Expr} {K : Frag} {F : Hp} {z : Str} (hz : z.length ≤ sizeLine) : ItD tg K F (Its z) (charsD z) where
 few := by unfold charsD; rw [List.length_map, Array.length_toList]; exact hz
 go := fun F2 H2 s1 s2 i hi => by
  unfold charsD at hi
  rw [List.length_map, Array.length_toList] at hi
  exact hi
 yl := fun F2 H2 s1 s2 i x H3 hi ⟨e, c, h1, h2⟩ => by
  subst e h2
  refine ⟨F2, _, New.refl s2, ?_, Rp.i (.str ⟨#[c]⟩)⟩
  unfold charsD
  rw [List.getElem?_map, Array.getElem?_toList, h1]
  rfl
 st := fun F2 H2 s1 s2 i hi => by
  unfold charsD at hi
  rw [List.length_map, Array.length_toList] at hi
  exact hi
theorem kV_rp {K : Frag} {F : Hp} (k : Key) : Rp K F (kV k) (kD k) := by
 cases k with
 | inl i => exact .int i
 | inr x => exact .str x
theorem zip_keys {α β γ : Type} {f : α → γ} : ∀ {kvs : List α} {ds : List β}, kvs.length = ds.length → ((kvs.map f).zip ds).map (·.1) = kvs.map f
 | [], [], _ => rfl
 | a :: kvs, d :: ds, h => by
  rw [List.map_cons, List.zip_cons_cons, List.map_cons, zip_keys (by simpa using h)]
 | [], _ :: _, h => by simp at h
 | _ :: _, [], h => by simp at h
theorem itD_keys {tg : Expr} {K : Frag} {F : Hp} {d : Addr} {o : Obj} {kvs : List (Key × V)} (hz : kvs.length ≤ sizeLine) (h : F d = some (.frz o (.dK kvs))) : ItD tg K F (Itk d o kvs) (kvs.map fun q => kD q.1) where
 few := by rw [List.length_map]; exact hz
 go := fun F2 H2 s1 s2 i hi => ⟨s2 _ _ (s1 _ _ h), by simpa using hi⟩
 yl := fun F2 H2 s1 s2 i x H3 hi y => by
  obtain ⟨e, k, v, h1, h2⟩ := y
  subst e h2
  refine ⟨F2, kD k, New.refl s2, ?_, (kV_rp k).i⟩
  rw [List.getElem?_map, h1]
  rfl
 st := fun F2 H2 s1 s2 i hi => ⟨s2 _ _ (s1 _ _ h), by simpa using hi⟩
def itemsD : D → Option (List D)
 | .list xs => some xs
 | .tuple xs => some xs
 | .str z => if z.length ≤ sizeLine then some (charsD z) else none
 | .dict kvs => match cells kvs with
  | some ds => if notE ds = true then some ds else none
  | none => some (kvs.map (·.1))
 | _ => none
def mItems (m : M D) : M (List D) := fun ρ => (m ρ).bind fun x ρ1 => ofO (itemsD x) ρ1
section
variable {X : Cx} {c : Ct} {tg e : Expr} {pos : Pos} {pu : Bool} {me : M D}
theorem pe_fits {t : TE} (h : PE X e t) : PE X e (fun σ H Q => t σ H fun v H1 => (∀ p, v = .ref p → (∀ xs, SqL X.K H1 p xs ∨ SqT X.K H1 p xs → xs.length ≤ sizeLine) ∧ ∀ kvs, Rd H1 p (.dK kvs) → kvs.length ≤ sizeLine) → Q v H1) := ⟨fun pins s σ H Q I hw => by
 refine thn (h.run pins s σ H _ I hw) fun u s1 ⟨x, H1, I1, r1, q1⟩ => ⟨x, H1, I1, r1, q1 fun p e => ?_⟩
 subst e
 refine ⟨fun xs hx => ?_, fun kvs hk => (dk_rd I1.hok hk).1⟩
 rcases hx with hx | hx
 ·obtain ⟨_, _, _, hz⟩ := I1.list hx
  exact hz
 ·obtain ⟨_, _, _, hz⟩ := I1.tuple hx
  exact hz⟩
theorem PI.imp {wi wi' : TI} (h : PI X tg e wi) (k : ∀ σ H R, wi' σ H R → wi σ H R) : PI X tg e wi' := ⟨fun pins s σ H R I q => h.run pins s σ H R I (k σ H R q)⟩
theorem si_val (he : PE X e (te X.K c false pu me)) : PI X tg e (ti tg X.K c pu (mItems me)) := ⟨fun pins s σ H R I h => by
 obtain ⟨F, ρ, O, ev, h⟩ := h
 have hb := Res.post_bind h
 have hf := pe_fits he
 -- the readings' common part
 have go : ∀ {P : V → Hp → Prop} (x : D), (∀ ρ1, me ρ = .ok x ρ1 → (ofO (itemsD x) ρ1).post (PIx tg X.K c pu F H σ R) (PX X.K c σ) → ∀ F1 H1 O1 v, EnvR X.K c F1 H1 σ ρ1 O1 → Same F F1 → (pu = true → Same H H1) → Rp X.K F1 v x →
   (∀ p, v = .ref p → (∀ xs, SqL X.K H1 p xs ∨ SqT X.K H1 p xs → xs.length ≤ sizeLine) ∧ ∀ kvs, Rd H1 p (.dK kvs) → kvs.length ≤ sizeLine) → P v H1) → (∀ ρ1 y, me ρ = .ok y ρ1 → y = x) →
   te X.K c false pu me σ H fun v H1 => (∀ p, v = .ref p → (∀ xs, SqL X.K H1 p xs ∨ SqT X.K H1 p xs → xs.length ≤ sizeLine) ∧ ∀ kvs, Rd H1 p (.dK kvs) → kvs.length ≤ sizeLine) → P v H1 := fun {P} x k u => by
  refine ⟨F, ρ, O, ev, ?_⟩
  cases r : me ρ with
  | bad => rw [r] at hb; exact hb
  | ex ξ ρ1 => rw [r] at hb; exact hb
  | ok y ρ1 =>
   rw [r] at hb
   have e := u ρ1 y r
   subst e
   exact fun F1 H1 O1 v e1 s1 p1 v1 fits => k ρ1 r hb F1 H1 O1 v e1 s1 p1 v1 fits
 cases r : me ρ with
 | bad => rw [r] at hb; exact hb.elim
 | ex ξ ρ1 => exact (pi_list (tg := tg) hf).run pins s σ H R I (go .none (fun ρ1 q => by rw [r] at q; cases q) fun ρ1 y q => by rw [r] at q; cases q)
 | ok x ρ1 =>
  rw [r] at hb
  obtain ⟨xs, hx, h1⟩ := post_ofO hb
  have u : ∀ ρ1 y, me ρ = .ok y ρ1 → y = x := fun ρ2 y q => by rw [r] at q; cases q; rfl
  cases x with
  | list ds =>
   cases hx
   refine (pi_list (tg := tg) hf).run pins s σ H R I (go (.list xs) (fun ρ2 q hq F1 H1 O1 v e1 s1 p1 v1 fits => ?_) u)
   rw [r] at q; cases q
   cases v1 with
   | lst ha rr =>
    have sl : SqL X.K F1 _ _ := .of ha
    exact ⟨_, rfl, ⟨_, sq_l e1.sub sl⟩, h1 F1 H1 O1 _ e1 s1 p1 (itD_list (by rw [← rr.length]; exact (fits _ rfl).1 _ (.inl (sq_l e1.sub sl))) sl rr)⟩
  | tuple ds =>
   cases hx
   refine (pi_tup (tg := tg) hf).run pins s σ H R I (go (.tuple xs) (fun ρ2 q hq F1 H1 O1 v e1 s1 p1 v1 fits => ?_) u)
   rw [r] at q; cases q
   cases v1 with
   | tup ha rr => exact ⟨_, rfl, ⟨_, sq_t e1.sub ha.seq⟩, h1 F1 H1 O1 _ e1 s1 p1 (itD_tup (by rw [← rr.length]; exact (fits _ rfl).1 _ (.inr (sq_t e1.sub ha.seq))) ha.seq rr)⟩
  | str z =>
   unfold itemsD at hx
   simp only at hx
   split at hx
   ·rename_i hz
    cases hx
    refine (pi_str (tg := tg) hf).run pins s σ H R I (go (.str z) (fun ρ2 q hq F1 H1 O1 v e1 s1 p1 v1 fits => ?_) u)
    rw [r] at q; cases q
    cases v1
    exact ⟨z, rfl, h1 F1 H1 O1 _ e1 s1 p1 (itD_str hz)⟩
   ·cases hx
  | dict kvs =>
   unfold itemsD at hx
   simp only at hx
   split at hx
   ·rename_i ds hc
    split at hx
    case isFalse => cases hx
    rename_i hn
    cases hx
    have hc := cells_ok hc
    subst hc
    refine (pi_list (tg := tg) hf).run pins s σ H R I (go (.dict [(.none, .list xs)]) (fun ρ2 q hq F1 H1 O1 v e1 s1 p1 v1 fits => ?_) u)
    rw [r] at q; cases q
    obtain ⟨p, ws, rfl, h2', r1⟩ := inv_scr (Same.refl F1) hn (.d v1)
    have h2 := sq_l e1.sub h2'
    exact ⟨_, rfl, ⟨_, h2⟩, h1 F1 H1 O1 _ e1 s1 p1 (itD_list (by rw [← r1.length]; exact (fits _ rfl).1 _ (.inl h2)) h2' r1)⟩
   ·rename_i hno
    ·cases hx
     refine (pi_keys (tg := tg) hf).run pins s σ H R I (go (.dict kvs) (fun ρ2 q hq F1 H1 O1 v e1 s1 p1 v1 fits => ?_) u)
     rw [r] at q; cases q
     generalize e2 : PyData.dict kvs = z at v1
     cases v1 with
     | @dcK a ob kws ds2 ha rr =>
      cases e2
      have hl := rr.length
      rw [List.length_map] at hl
      refine ⟨a, ob, rfl, .inl ⟨kws, e1.sub _ _ ha, ?_⟩⟩
      have z := h1 F1 H1 O1 (Itk a ob kws) e1 s1 p1
      rw [zip_keys hl] at z
      exact z (itD_keys ((fits _ rfl).2 _ (.inr ⟨_, e1.sub _ _ ha⟩)) ha)
     | scr _ ha rr => cases e2; simp [cells] at hno
     | exc _ _ _ _ => unfold excD at e2; cases e2; simp [cells] at hno
     | dcT _ _ _ => unfold tdL at e2; cases e2; simp [cells] at hno
     | _ => cases e2
  | _ => cases hx⟩
end
end DL
end
section
namespace DL
variable [DL.TheW]
open PySem PySem.Spec PyProof.Rows L2
def rangeL (lo : Int) (n : Nat) : List D := (List.range n).map fun k => .int (lo + (k : Nat))
theorem itD_range {tg : Expr} {K : Frag} {F : Hp} {lo : Int} {n : Nat} (hz : n ≤ sizeLine) : ItD tg K F (Itr lo n) (rangeL lo n) where
 few := by unfold rangeL; rw [List.length_map, List.length_range]; exact hz
 go := fun F2 H2 s1 s2 i hi => by
  unfold rangeL at hi
  rw [List.length_map, List.length_range] at hi
  exact hi
 yl := fun F2 H2 s1 s2 i x H3 hi y => by
  obtain ⟨e, rfl⟩ := y
  subst e
  unfold rangeL at hi ⊢
  rw [List.length_map, List.length_range] at hi
  exact ⟨F2, _, New.refl s2, by simp [hi], Rp.i (.int _)⟩
 st := fun F2 H2 s1 s2 i hi => by
  unfold rangeL at hi
  rw [List.length_map, List.length_range] at hi
  exact hi
def intOf : D → Option Int
 | .int i => some i
 | _ => none
def range1 (x : D) : Option (List D) := (intOf x).bind fun n => if n.toNat ≤ sizeLine ∧ -(2 ^ 62) ≤ n then some (rangeL 0 n.toNat) else none
def range2 (x y : D) : Option (List D) := (intOf x).bind fun i => (intOf y).bind fun j => if (j - i).toNat ≤ sizeLine ∧ -(2 ^ 62) ≤ i ∧ i < 2 ^ 62 ∧ -(2 ^ 62) ≤ j ∧ j < 2 ^ 62 then some (rangeL i (j - i).toNat) else none
def mRange1 (a : M D) : M (List D) := fun ρ => (a ρ).bind fun x ρ1 => ofO (range1 x) ρ1
def mRange2 (a b : M D) : M (List D) := fun ρ => (a ρ).bind fun x ρ1 => (b ρ1).bind fun y ρ2 => ofO (range2 x y) ρ2
theorem intOf_ok {x : D} {i : Int} (h : intOf x = some i) : x = .int i := by
 unfold intOf at h
 split at h
 ·cases h; rfl
 ·cases h
def enumD (xs : List D) : List D := (xs.zipIdx).map fun p => .tuple [.int (p.2 : Nat), p.1]
theorem itD_enum {elts : List Expr} {kk : Nat} {tpos : Pos} {K : Frag} {F : Hp} {a : Addr} {vs : List V} {ds : List D} (hz : ds.length ≤ sizeLine) (h : SqL K F a vs) (r : RpAll K F vs ds) : ItD (.Tuple elts kk tpos) K F (Ite K a) (enumD ds) where
 few := by unfold enumD; rw [List.length_map, List.length_zipIdx]; exact hz
 go := fun F2 H2 s1 s2 i hi => by
  unfold enumD at hi
  rw [List.length_map, List.length_zipIdx] at hi
  obtain ⟨v, h1, _⟩ := getR r hi
  exact ⟨vs, v, sq_l (s1.trans s2) h, h1⟩
 yl := fun F2 H2 s1 s2 i x H3 hi y => by
  obtain ⟨T, v, rfl, hT, rfl, y1⟩ := y
  unfold enumD at hi ⊢
  rw [List.length_map, List.length_zipIdx] at hi
  obtain ⟨v', h1, r1⟩ := getR r hi
  have e1 := y1 vs (sq_l (s1.trans s2) h)
  rw [h1] at e1; cases e1
  have n := New.one s2 hT (.tup [.int (i : Nat), v])
  refine ⟨_, _, n, ?_, RpW.w (.of upd_same) (.cons (.int _) (.cons (r1.mono (s1.trans n.fF)) .nil))⟩
  simp [hi]
 st := fun F2 H2 s1 s2 i hi => by
  unfold enumD at hi
  rw [List.length_map, List.length_zipIdx] at hi
  exact ⟨vs, sq_l (s1.trans s2) h, by rw [r.length]; exact hi⟩
section
variable {X : Cx} {c : Ct} {tg e e2 : Expr} {pos p tpos apos cpos : Pos} {pu p1 p2 : Bool} {me ma mb : M D} {elts : List Expr} {kk : Nat}
theorem ta_1 {F H : Hp} {σ : Sl} {ρ : Env} {O : List Addr} (e : EnvR X.K c F H σ ρ O) {m : M D} {k : D → M (List D)} {R : It → Hp → Prop} {Q : List V → Hp → Prop} (h : ((m ρ).bind k).post (PIx tg X.K c pu F H σ R) (PX X.K c σ))
  (q : ∀ x ρ1 F1 H1 O1 v, (k x ρ1).post (PIx tg X.K c pu F H σ R) (PX X.K c σ) → EnvR X.K c F1 H1 σ ρ1 O1 → Same F F1 → (pu = true → Same H H1) → RpB X.K F1 H1 v x → Q [v] H1) : ta1 X.K c pu m σ H Q :=
 ⟨F, ρ, O, e, Res.post_imp (Res.post_bind h) (fun x ρ1 h1 F1 H1 O1 v e1 s1 p1 r1 => q x ρ1 F1 H1 O1 v h1 e1 s1 p1 r1) fun _ _ h => h⟩
theorem si_range1 (hm : X.mg "range" = none) (ha : PE X e (te X.K c false pu ma)) (hg : Gl X "range" := by rfl) (hs : starEach [e] X.env = [(false, eval e X.env)] := by rfl) : PI X tg (.Call (.Name "range" p) [e] [] pos) (ti tg X.K c pu (mRange1 ma)) :=
 PI.imp (pi_range1 hg hm (sa_1 ha (by rw [hs]; rfl)) hs) fun σ H R ⟨F, ρ, O, ev, h⟩ => by
  refine ta_1 ev h fun x ρ1 F1 H1 O1 v h1 e1 s1 q1 r1 => ?_
  obtain ⟨xs, hx, h2⟩ := post_ofO h1
  obtain ⟨n, hn, hx'⟩ := Option.bind_eq_some_iff.mp hx
  have en := intOf_ok hn
  subst en
  clear hx h1
  have hx := hx'
  split at hx
  ·rename_i hz
   cases hx
   have hs : sizeLine = 16777216 := sizeLine_eq
   exact ⟨n, by rw [inv_int r1], hz.2, by omega, h2 F1 H1 O1 _ e1 s1 q1 (itD_range hz.1)⟩
  ·cases hx
def zipD : D → D → Option (List D)
 | .list xs, .list ys => some ((xs.zip ys).map fun p => .tuple [p.1, p.2])
 | .tuple xs, .tuple ys => some ((xs.zip ys).map fun p => .tuple [p.1, p.2])
 | _, _ => none
def mZip (a b : M D) : M (List D) := fun ρ => (a ρ).bind fun x ρ1 => (b ρ1).bind fun y ρ2 => ofO (zipD x y) ρ2
def enumO : D → Option (List D)
 | .list xs => some (enumD xs)
 | _ => none
def mEnum (a : M D) : M (List D) := fun ρ => (a ρ).bind fun x ρ1 => ofO (enumO x) ρ1
end
def PGt (K : Frag) (c : Ct) (F H : Hp) (σ : Sl) (Q : Sl → Hp → Prop) (ρ' : Env) : Prop := ∀ σ' F' H' O', New F H F' H' → EnvR K c F' H' σ' ρ' O' → σ'.length = σ.length → Q σ' H'
def tgD (tg : Expr) (K : Frag) (c : Ct) (t : D → Env → Option Env) : TG := fun v σ H Q => ∃ F ρ O x ρ', EnvR K c F H σ ρ O ∧ RpI tg K F v x ∧ t x ρ = some ρ' ∧ PGt K c F H σ Q ρ'
def tgsD (K : Frag) (c : Ct) (t : List D → Env → Option Env) : TGs := fun vs σ H Q => ∃ F ρ O xs ρ', EnvR K c F H σ ρ O ∧ RpAll K F vs xs ∧ t xs ρ = some ρ' ∧ PGt K c F H σ Q ρ'
def tName (i : Nat) : D → Env → Option Env := fun x ρ => some (ρ.set i (some (.d x)))
def tsNil : List D → Env → Option Env := fun xs ρ => match xs with
 | [] => some ρ
 | _ => none
def tsCons (t : D → Env → Option Env) (u : List D → Env → Option Env) : List D → Env → Option Env := fun xs ρ => match xs with
 | x :: r => (t x ρ).bind fun ρ1 => u r ρ1
 | [] => none
def tTup (n : Nat) (u : List D → Env → Option Env) : D → Env → Option Env := fun x ρ => match x with
 | .tuple xs => if xs.length = n then u xs ρ else none
 | _ => none
section
variable {X : Cx} {c : Ct} {e : Expr} {es : List Expr} {pos : Pos} {t : D → Env → Option Env} {u : List D → Env → Option Env} {x : Str}
theorem tg_name {i : Nat} (hN : X.N.Nodup) (hi : X.N[i]? = some x := by rfl) (hx : Loc X.env.scope x := by first | exact Or.inl rfl | exact Or.inr rfl) (hc : (c.fx.all fun j => j != i) = true := by rfl) (hf : X.fn x = true ∨ X.env.scope.names.lookup x = some .local := by first | exact .inl rfl | exact .inr rfl) :
  PG X (.Name x pos) (tgD (.Name x pos) X.K c (tName i)) := ⟨fun pins s σ H v w Q I r ⟨F, ρ, O, d, ρ', ev, rv, ht, q⟩ => by
 refine (pg_name (pos := pos) hN hi hx hf).run pins s σ H v w Q I r ?_
 cases ht
 obtain ⟨O', e'⟩ := ev.putD rv (slen hi I) hc
 exact q _ F H O' (New.refl ev.sub) e' (List.length_set ..)⟩
theorem tg_nil : PGs X [] (tgsD X.K c tsNil) := ⟨fun pins s σ H vs us Q I r ⟨F, ρ, O, xs, ρ', ev, rv, ht, q⟩ => by
 refine pgs_nil.run pins s σ H vs us Q I r ?_
 cases rv with
 | nil => cases ht; exact ⟨rfl, q σ F H O (New.refl ev.sub) ev rfl⟩
 | cons _ _ => cases ht⟩
theorem tg_cons (h1 : PG X e (tgD e X.K c t)) (h2 : PGs X es (tgsD X.K c u)) (hs : (assignEach (e :: es) X.env).map (·.2) = assign e X.env :: (assignEach es X.env).map (·.2) := by rfl) : PGs X (e :: es) (tgsD X.K c (tsCons t u)) := ⟨fun pins s σ H vs us Q I r ⟨F, ρ, O, xs, ρ', ev, rv, ht, q⟩ => by
 refine (pgs_cons h1 h2 hs).run pins s σ H vs us Q I r ?_
 cases rv with
 | nil => cases ht
 | cons r1 r2 =>
  obtain ⟨ρ1, h3, h4⟩ := Option.bind_eq_some_iff.mp ht
  exact ⟨_, _, rfl, F, ρ, O, _, ρ1, ev, r1.i, h3, fun σ1 F1 H1 O1 n1 e1 l1 => ⟨F1, ρ1, O1, _, ρ', e1, r2.mono n1.fF, h4, fun σ2 F2 H2 O2 n2 e2 l2 => q σ2 F2 H2 O2 (n1.trans n2) e2 (l2.trans l1)⟩⟩⟩
theorem tg_tup {k n : Nat} (hc : X.calm = true) (h : PGs X es (tgsD X.K c u)) (hn : (assignEach es X.env).length = n := by rfl) (hst : (assignEach es X.env).findIdx? (·.1) = none := by rfl) : PG X (.Tuple es k pos) (tgD (.Tuple es k pos) X.K c (tTup n u)) := ⟨fun pins s σ H v w Q I r ⟨F, ρ, O, d, ρ', ev, rv, ht, q⟩ => by
 refine (pg_tup (pos := pos) (k := k) hc h hn hst).run pins s σ H v w Q I r ?_
 unfold tTup at ht
 split at ht
 ·split at ht
  ·rename_i hl
   have rv : RpW X.K F v _ := rv
   cases rv with
   | s rv => cases rv with
    | tup ha rr => exact ⟨_, _, rfl, sq_t ev.sub ha.seq, by rw [rr.length]; exact hl, F, ρ, O, _, ρ', ev, rr, ht, q⟩
   | w ha rr => exact ⟨_, _, rfl, sq_t ev.sub ha, by rw [rr.length]; exact hl, F, ρ, O, _, ρ', ev, rr, ht, q⟩
  ·cases ht
 ·cases ht⟩
end
abbrev Ct.at (c : Ct) (F H : Hp) (O : List Addr) (σ : Sl) : Ct := ⟨c.ca, F, H, O, c.fx, σ, c.W⟩
theorem EnvR.self {K : Frag} {c : Ct} {F H : Hp} {σ : Sl} {ρ : Env} {O : List Addr} (e : EnvR K c F H σ ρ O) : EnvR K (c.at F H O σ) F H σ ρ O :=
 ⟨e.sub, Same.refl _, fun b o q _ => q, fun b _ _ q => q, e.sl, e.nd, fun p hp => ⟨(e.ow p hp).1, .inl hp⟩, fun i _ => rfl⟩
theorem EnvR.trans {K : Frag} {c : Ct} {F1 H1 F H : Hp} {σ1 σ : Sl} {ρ1 ρ : Env} {O1 O : List Addr} (a : EnvR K c F1 H1 σ1 ρ1 O1) (b : EnvR K (c.at F1 H1 O1 σ1) F H σ ρ O) : EnvR K c F H σ ρ O where
 sub := b.sub
 f0 := a.f0.trans b.f0
 h0 := fun x o q h => b.h0 x o (a.h0 x o q h) fun z => by
  rcases (a.ow x z).2 with w | w
  ·exact h w
  ·rw [w] at q; cases q
 n0 := fun x h1 h2 h3 => by
  cases q : c.H x with
  | none => exact absurd q h1
  | some o =>
   refine b.n0 x (fun z => ?_) (fun z => ?_) (a.n0 x h1 h2 h3)
   ·have z : H1 x = none := z
    rw [a.h0 x o q h2] at z; cases z
   ·rcases (a.ow x z).2 with w | w
    ·exact h2 w
    ·exact h1 w
 sl := b.sl
 nd := b.nd
 ow := fun p hp => ⟨(b.ow p hp).1, by
  rcases (b.ow p hp).2 with z | z
  ·exact (a.ow p z).2
  ·by_cases hc : p ∈ c.O
   ·exact .inl hc
   ·refine .inr ?_
    cases q : c.H p with
    | none => rfl
    | some o =>
     have z : H1 p = none := z
     rw [a.h0 p o q hc] at z; cases z⟩
 fx := fun i hi => (b.fx i hi).trans (a.fx i hi)
theorem Apart.trans {K : Frag} {c : Ct} {F1 H1 F : Hp} {σ1 : Sl} {ρ1 : Env} {O1 O A : List Addr} (a : EnvR K c F1 H1 σ1 ρ1 O1) (b : Apart (c.at F1 H1 O1 σ1) F A O) : Apart c F A O := ⟨b.nd, fun p hp => ⟨(b.ow p hp).1, by
  rcases (b.ow p hp).2 with z | z
  ·exact (a.ow p z).2
  ·by_cases hc : p ∈ c.O
   ·exact .inl hc
   ·refine .inr ?_
    cases q : c.H p with
    | none => rfl
    | some o =>
     have z : H1 p = none := z
     rw [a.h0 p o q hc] at z; cases z⟩⟩
def forGo (tg : D → Env → Option Env) (b : M Fl) : List D → M Fl
 | [] => fun ρ => .ok .nx ρ
 | x :: xs => fun ρ => match tg x ρ with
  | none => .bad
  | some ρ1 => (b ρ1).bind fun f ρ2 => match f with
   | .nx => forGo tg b xs ρ2
   | .ct => forGo tg b xs ρ2
   | .bk => .ok .nx ρ2
   | .rt o => .ok (.rt o) ρ2
def sFor (it : M (List D)) (tg : D → Env → Option Env) (b : M Fl) : M Fl := fun ρ => (it ρ).bind fun xs ρ1 => forGo tg b xs ρ1
section
variable {X : Cx} {c : Ct} {tg e d : Expr} {body : List Stmt} {pos : Pos} {pu : Bool} {mi : M (List D)} {b : M Fl} {t : D → Env → Option Env}
def tsE (K : Frag) (c : Ct) (m : M Fl) : TS := fun D σ H => ∃ F0 H0 O0 σ0, ts K (c.at F0 H0 O0 σ0) m D σ H
def tgE (tg : Expr) (K : Frag) (c : Ct) (t : D → Env → Option Env) : TG := fun v σ H Q => ∃ F0 H0 O0 σ0, tgD tg K (c.at F0 H0 O0 σ0) t v σ H Q
theorem ss_at (hb : ∀ F H O σ, PSs X body (ts X.K (c.at F H O σ) b)) : PSs X body (tsE X.K c b) := ⟨fun pins s σ H D I ⟨F0, H0, O0, σ0, q⟩ => (hb F0 H0 O0 σ0).run pins s σ H D I q⟩
theorem tg_at (hg : ∀ F H O σ, PG X tg (tgD tg X.K (c.at F H O σ) t)) : PG X tg (tgE tg X.K c t) := ⟨fun pins s σ H v u Q I r ⟨F0, H0, O0, σ0, q⟩ => (hg F0 H0 O0 σ0).run pins s σ H v u Q I r q⟩
theorem exc_at {K : Frag} {F1 H1 : Hp} {σ1 : Sl} {ρ1 : Env} {O1 : List Addr} {ξ : Exc} {ρ' : Env} (a : EnvR K c F1 H1 σ1 ρ1 O1) (h : PXs K c ξ ρ') : PXs K (c.at F1 H1 O1 σ1) ξ ρ' := fun σ F H O cls d e x => h σ F H O cls d (a.trans e) x
theorem sv_for (hp : PassesOwn (model X.prog X.w) X.A X.env X.xe) (hc : X.calm = true) (hi : PI X tg e (ti tg X.K c pu mi)) (hg : ∀ F H O σ, PG X tg (tgD tg X.K (c.at F H O σ) t)) (hb : ∀ F H O σ, PSs X body (ts X.K (c.at F H O σ) b)) (hs : ∀ x, foldedSetIterable e X.env x = pure x := by intro _; rfl) :
  PS X (.For tg e body [] pos) (ts X.K c (sFor mi t b)) := (ps_for hp hc hi (tg_at hg) (ss_at hb) hs).imp fun Dn σ H ⟨F, ρ, O, ev, h⟩ => by
 refine ⟨F, ρ, O, ev, Res.post_imp (Res.post_bind h) (fun xs ρ1 h1 F1 H1 O1 J e1 s1 p1 it => ?_) fun _ _ h F' H' O' cls d => h σ F' H' O' cls d⟩
 refine ⟨fun i m σ' H' => m = xs.length - i ∧ i ≤ xs.length ∧ ∃ F2 ρ2 O2, EnvR X.K c F2 H' σ' ρ2 O2 ∧ Same F1 F2 ∧ (forGo t b (xs.drop i) ρ2).post (PS' X.K c Dn) (PXs X.K c), ⟨xs.length, by simp, Nat.zero_le _, F1, ρ1, O1, e1, Same.refl _, h1⟩, ?_⟩
 rintro i m σ' H' ⟨rfl, hi, F2, ρ2, O2, e2, s2, h2⟩
 by_cases hlt : i < xs.length
 ·rw [List.drop_eq_getElem_cons hlt] at h2
  refine .inr ⟨it.go F2 H' s2 e2.sub i hlt, fun σ3 H3 => ∃ F3 ρ3 O3, EnvR X.K c F3 H3 σ3 ρ3 O3 ∧ Same F1 F3 ∧ (forGo t b (xs.drop (i + 1)) ρ3).post (PS' X.K c Dn) (PXs X.K c), fun σ3 H3 ⟨F3, ρ3, O3, e3, s3, h3⟩ => ⟨xs.length - (i + 1), by omega, rfl, hlt, F3, ρ3, O3, e3, s3, h3⟩, fun x H3 y => ?_⟩
  obtain ⟨F3, dx, n3, hd, r3⟩ := it.yl F2 H' s2 e2.sub i x H3 hlt y
  rw [List.getElem?_eq_getElem hlt] at hd
  cases hd
  have h2' : (match t xs[i] ρ2 with
   | none => Res.bad
   | some ρ1 => (b ρ1).bind fun f ρ2 => match f with
    | .nx => forGo t b (xs.drop (i + 1)) ρ2
    | .ct => forGo t b (xs.drop (i + 1)) ρ2
    | .bk => .ok .nx ρ2
    | .rt o => .ok (.rt o) ρ2).post (PS' X.K c Dn) (PXs X.K c) := h2
  cases ht : t xs[i] ρ2 with
  | none => rw [ht] at h2'; exact h2'.elim
  | some ρ3 =>
   rw [ht] at h2'
   have e3 := e2.new n3
   refine ⟨F3, H3, O2, σ', F3, ρ2, O2, _, ρ3, e3.self, r3, ht, fun σ4 F4 H4 O4 n4 e4 _ => ?_⟩
   refine ⟨F3, H3, O2, σ', F4, ρ3, O4, e4, Res.post_imp (Res.post_bind h2') (fun f ρ5 h5 => ?_) fun _ _ h => exc_at e3 h⟩
   cases f with
   | nx => exact fun σ6 F6 H6 O6 e6 => ⟨F6, ρ5, O6, e3.trans e6, (s2.trans n3.fF).trans e6.f0, h5⟩
   | ct => exact fun σ6 F6 H6 O6 e6 => ⟨F6, ρ5, O6, e3.trans e6, (s2.trans n3.fF).trans e6.f0, h5⟩
   | bk => exact fun σ6 F6 H6 O6 e6 => h5 σ6 F6 H6 O6 (e3.trans e6)
   | rt o => exact fun σ6 F6 H6 O6 A v e6 r6 a6 => h5 σ6 F6 H6 O6 A v (e3.trans e6) r6 (Apart.trans e3 a6)
 ·have e : i = xs.length := by omega
  subst e
  rw [List.drop_length] at h2
  exact .inl ⟨it.st F2 H' s2 e2.sub _ (Nat.le_refl _), h2 σ' F2 H' O2 e2⟩
def whileGo (t : M Bool) (b : M Fl) : Nat → M Fl
 | 0 => fun _ => .bad
 | n + 1 => fun ρ => (t ρ).bind fun x ρ1 => if x = true then (b ρ1).bind fun f ρ2 => match f with
   | .nx => whileGo t b n ρ2
   | .ct => whileGo t b n ρ2
   | .bk => .ok .nx ρ2
   | .rt o => .ok (.rt o) ρ2
  else .ok .nx ρ1
open Classical in
noncomputable def sWhile (t : M Bool) (b : M Fl) : M Fl := fun ρ => if h : ∃ n, whileGo t b n ρ ≠ .bad then whileGo t b (Classical.choose h) ρ else .bad
end
end DL
end
section
namespace DL
variable [DL.TheW]
open PySem PySem.Spec PyProof.Rows L2
def wipeE (ρ : Env) : List Nat → Env
 | [] => ρ
 | v :: vs => (wipeE ρ vs).set v none
def backE (ρ1 : Env) : List Nat → Env → Env
 | [], ρ2 => ρ2
 | v :: vs, ρ2 => backE ρ1 vs (ρ2.set v (match ρ1[v]? with
  | some w => w
  | none => none))
def dataAt (ρ1 : Env) : List Nat → Bool
 | [] => true
 | v :: vs => (match ρ1[v]? with
  | some (some (.d _)) => !vs.contains v
  | some (some _) => false
  | _ => true) && dataAt ρ1 vs
section
variable {K : Frag} {c : Ct} {F H : Hp} {σ : Sl} {ρ : Env} {O : List Addr}
theorem EnvR.wipe1 (e : EnvR K c F H σ ρ O) {i : Nat} (hf : (c.fx.all fun j => j != i) = true) : ∃ R, EnvR K c F H (σ.set i none) (ρ.set i none) R ∧ ∀ b ∈ R, b ∈ O := by
 by_cases hi : i < σ.length
 ·obtain ⟨R, h1, h2, h3, _⟩ := e.sl.put (i := i) hi
  refine ⟨R, ⟨e.sub, e.f0, e.h0, e.n0, h3 none, h2 e.nd, fun p hp => e.ow p (h1 p hp), fun j hj => ?_⟩, h1⟩
  have z := List.all_eq_true.mp hf j hj
  have z : j ≠ i := by simpa using z
  rw [List.getElem?_set_ne (Ne.symm z)]
  exact e.fx j hj
 ·have hl := e.sl.length
  rw [List.set_eq_of_length_le (by omega), List.set_eq_of_length_le (by omega)]
  exact ⟨O, e, fun _ h => h⟩
theorem EnvR.wipe (e : EnvR K c F H σ ρ O) : ∀ {vs : List Nat}, (vs.all fun i => c.fx.all fun j => j != i) = true → ∃ R, EnvR K c F H (L2.wipe σ vs) (wipeE ρ vs) R ∧ ∀ b ∈ R, b ∈ O
 | [], _ => ⟨O, e, fun _ h => h⟩
 | v :: vs, hf => by
  rw [List.all_cons, Bool.and_eq_true] at hf
  obtain ⟨R, h1, h2⟩ := EnvR.wipe e hf.2
  obtain ⟨R', h3, h4⟩ := h1.wipe1 hf.1
  exact ⟨R', h3, fun b hb => h2 b (h4 b hb)⟩
theorem slr_set_one {v : Option V} {w : Option OV} {R : List Addr} {i : Nat} {τ : Sl} (e : SlR K c.ca F H (τ.set i none) ρ O) (hv : τ[i]? = some v) (hw : w = none ∨ ∃ u x, v = some u ∧ w = some (.d x) ∧ Rp K F u x) :
  ∃ O', SlR K c.ca F H τ (ρ.set i w) O' ∧ (∀ b ∈ O', b ∈ O) ∧ (O.Nodup → O'.Nodup) := by
 have hi : i < (τ.set i none).length := by rw [List.length_set]; exact (List.getElem?_eq_some_iff.mp hv).1
 obtain ⟨R, h1, h2, h3, h4⟩ := e.put (i := i) hi
 have es : (τ.set i none).set i v = τ := by rw [List.set_set, set_self hv]
 rcases hw with rfl | ⟨u, x, rfl, rfl, r⟩
 ·have z := h3 v
  rw [es] at z
  exact ⟨R, z, h1, h2⟩
 ·obtain ⟨O', k1, k2⟩ := h4 u (.d x) [] (.d r)
  rw [es] at k1
  exact ⟨O', k1, fun b hb => h1 b (by simpa using k2.mem_iff.mp hb), fun n => k2.nodup_iff.mpr (by simpa using h2 n)⟩
theorem slr_back {F1 H1 : Hp} {ρ1 : Env} {O1 : List Addr} (a : SlR K c.ca F1 H1 σ ρ1 O1) (s : Same F1 F) : ∀ {vs : List Nat} {ρ2 : Env} {O2 : List Addr}, SlR K c.ca F H (L2.wipe σ vs) ρ2 O2 → dataAt ρ1 vs = true →
  ∃ O3, SlR K c.ca F H σ (backE ρ1 vs ρ2) O3 ∧ (∀ b ∈ O3, b ∈ O2) ∧ (O2.Nodup → O3.Nodup)
 | [], ρ2, O2, e, _ => ⟨O2, e, fun _ h => h, fun h => h⟩
 | v :: vs, ρ2, O2, e, hd => by
  unfold dataAt at hd
  rw [Bool.and_eq_true] at hd
  have e' : SlR K c.ca F H ((L2.wipe σ vs).set v none) ρ2 O2 := e
  by_cases hv : v < (L2.wipe σ vs).length
  ·obtain ⟨O', k1, k2, k3⟩ := slr_set_one (R := []) (w := match ρ1[v]? with
    | some w => w
    | none => none) e' (List.getElem?_eq_getElem hv) (by
    cases q : ρ1[v]? with
    | none => exact .inl rfl
    | some w =>
     cases w with
     | none => exact .inl rfl
     | some o =>
      have hd1 := hd.1
      rw [q] at hd1
      cases o with
      | d x =>
       refine .inr ?_
       obtain ⟨u, A, R, t1, t2, _⟩ := a.at q
       cases t2 with
       | d r =>
        have hn : v ∉ vs := by simpa using hd1
        have z := wipe_out (σ := σ) hn
        rw [t1, List.getElem?_eq_getElem hv] at z
        exact ⟨u, x, Option.some.inj z, rfl, r.mono s⟩
      | lst _ => cases hd1
      | dct _ => cases hd1
      | dctT _ => cases hd1
      | obj _ _ => cases hd1
      | tup _ => cases hd1
      | bag _ => cases hd1)
   obtain ⟨O3, m1, m2, m3⟩ := slr_back a s k1 hd.2
   exact ⟨O3, m1, fun b hb => k2 b (m2 b hb), fun n => m3 (k3 n)⟩
  ·have hl := e'.length
   rw [List.length_set] at hl
   rw [List.set_eq_of_length_le (Nat.le_of_not_lt hv)] at e'
   obtain ⟨O3, m1, m2, m3⟩ := slr_back a s e' hd.2
   refine ⟨O3, ?_, m2, m3⟩
   unfold backE
   rw [List.set_eq_of_length_le (by omega)]
   exact m1
theorem wipe_in {i : Nat} : ∀ {vs : List Nat}, i ∈ vs → i < σ.length → (L2.wipe σ vs)[i]? = some none
 | v :: vs, h, hl => by
  unfold L2.wipe
  by_cases e : v = i
  ·subst e
   rw [List.getElem?_set_self (by rw [wipe_length]; exact hl)]
  ·rw [List.getElem?_set_ne e]
   exact wipe_in (by
    rcases List.mem_cons.mp h with h | h
    ·exact absurd h.symm e
    ·exact h) hl
theorem wipe_eq {σ2 : Sl} {vs fb : List Nat} {n : Nat} (hn : σ.length = n) (hl : σ2.length = (L2.wipe σ vs).length) (hall : ((List.range n).all fun i => vs.contains i || fb.contains i) = true) (hf : ∀ i ∈ fb, σ2[i]? = (L2.wipe σ vs)[i]?) : L2.wipe σ2 vs = L2.wipe σ vs := by
 rw [wipe_length] at hl
 refine List.ext_getElem? fun i => ?_
 by_cases hi : i < n
 ·by_cases hm : i ∈ vs
  ·rw [wipe_in hm (by omega), wipe_in hm (by omega)]
  ·rw [wipe_out hm]
   have z := List.all_eq_true.mp hall i (List.mem_range.mpr hi)
   have z : i ∈ fb := by
    rcases Bool.or_eq_true_iff.mp z with z | z
    ·exact absurd (by simpa using z) hm
    ·simpa using z
   exact hf i z
 ·rw [List.getElem?_eq_none (by rw [wipe_length]; omega), List.getElem?_eq_none (by rw [wipe_length]; omega)]
end
def Res.bindN {α β : Type} : Res α → (α → Env → Res β) → Res β
 | .ok a ρ, k => k a ρ
 | .ex _ _, _ => .bad
 | .bad, _ => .bad
theorem post_bindN {α β : Type} {r : Res α} {k : α → Env → Res β} {P : β → Env → Prop} {E : Exc → Env → Prop} (h : (r.bindN k).post P E) : r.post (fun a ρ => (k a ρ).post P E) fun _ _ => False := by
 cases r <;> exact h
def lcGo (vs : List Nat) (t : D → Env → Option Env) (tst : M Bool) (e : M D) : List D → M (List D)
 | [] => fun ρ => .ok [] ρ
 | x :: xs => fun ρ => match t x ρ with
  | none => .bad
  | some ρ1 => (tst ρ1).bindN fun b ρ2 => if b = true then (e ρ2).bindN fun y ρ3 => (lcGo vs t tst e xs (wipeE ρ3 vs)).bindN fun ys ρ4 => .ok (y :: ys) ρ4 else lcGo vs t tst e xs (wipeE ρ2 vs)
def mLc (vs : List Nat) (it : M (List D)) (t : D → Env → Option Env) (tst : M Bool) (e : M D) : M (List D) := fun ρ => (it ρ).bind fun xs ρ1 => if dataAt ρ1 vs = true then (lcGo vs t tst e xs (wipeE ρ1 vs)).bindN fun ys ρ2 => .ok ys (backE ρ1 vs ρ2) else .bad
def mYes : M Bool := fun ρ => .ok true ρ
abbrev Ct.blk (c : Ct) (fb : List Nat) (F H : Hp) (O : List Addr) (σ : Sl) : Ct := ⟨c.ca, F, H, O, fb, σ, fun _ _ _ _ => False⟩
section
variable {X : Cx} {c : Ct} {tg e elt : Expr} {pos : Pos} {pi pt pe : Bool} {mi : M (List D)} {t : D → Env → Option Env} {tst : M Bool} {me : M D} {scope : Scope} {own : List (Str × Nat)} {ifs : List Expr} {fb : List Nat}
theorem st_yes : ∀ {X : Cx} {c : Ct}, PTs X [] (tt X.K c true mYes) := ⟨fun pins s σ H Q I ⟨F, ρ, O, e, h⟩ => pts_nil.run pins s σ H Q I (h F H O e (Same.refl _) fun _ => Same.refl _)⟩
structure Out (K : Frag) (F H : Hp) (D0 : Addr) (O : List Addr) (a : List V) (xs : List D) : Prop where
 at_ : H D0 = some (.lst a)
 rp : RpAll K F a xs
 nf : F D0 = none
 no : D0 ∉ O
theorem Out.step {K : Frag} {cb : Ct} {F H F' H' : Hp} {D0 : Addr} {O O' : List Addr} {σ σ' : Sl} {ρ' : Env} {a : List V} {xs : List D} (o : Out K F H D0 O a xs) (e : EnvR K (cb.at F H O σ) F' H' σ' ρ' O') : Out K F' H' D0 O' a xs := by
 refine ⟨e.h0 _ _ o.at_ o.no, o.rp.mono e.f0, e.n0 D0 (fun z => by have z : H D0 = none := z; rw [o.at_] at z; cases z) o.no o.nf, fun hm => ?_⟩
 rcases (e.ow D0 hm).2 with z | z
 ·exact o.no z
 ·have z : H D0 = none := z
  rw [o.at_] at z
  cases z
theorem pe_len {e : Expr} {t : TE} (h : PE X e t) : PE X e (fun σ H Q => σ.length = X.N.length → t σ H Q) := ⟨fun pins s σ H Q I q => h.run pins s σ H Q I (q I.len)⟩
def ttE (K : Frag) (c : Ct) (fb : List Nat) (pu : Bool) (m : M Bool) : TT := fun σ H Q => ∃ F0 H0 O0 σ0, tt K (c.blk fb F0 H0 O0 σ0) pu m σ H Q
def teE (K : Frag) (c : Ct) (fb : List Nat) (pu : Bool) (m : M D) : TE := fun σ H Q => ∃ F0 H0 O0 σ0, te K (c.blk fb F0 H0 O0 σ0) false pu m σ H Q
def tgB (tg : Expr) (K : Frag) (c : Ct) (fb : List Nat) (t : D → Env → Option Env) : TG := fun v σ H Q => ∃ F0 H0 O0 σ0, tgD tg K (c.blk fb F0 H0 O0 σ0) t v σ H Q
theorem lc_step {n : Nat} {vs : List Nat} {σ : Sl} {H : Hp} {Q : VK} (hlen : σ.length = n) (hvf : (vs.all fun i => fb.all fun j => j != i) = true) (hall : ((List.range n).all fun i => vs.contains i || fb.contains i) = true) (hcf : (vs.all fun i => c.fx.all fun j => j != i) = true)
  (h0 : tn X.K c (pi && (pt && pe)) (mLc vs mi t tst me) σ H Q) : tLc (ti tg X.K c pi mi) (tgB tg X.K c fb t) (ttE X.K c fb pt tst) (teE X.K c fb pe me) vs σ H Q := by
 obtain ⟨F, ρ, O, ev, h⟩ := h0
 refine ⟨F, ρ, O, ev, Res.post_imp (Res.post_bind h) (fun xs ρ1 h1 F1 H1 O1 J e1 s1 p1 it D0 hD => ?_) fun _ _ h => h⟩
 split at h1
 rotate_left
 ·exact h1.elim
 rename_i hda
 -- the block's entry
 obtain ⟨R, ew, hR⟩ := e1.wipe (vs := vs) hcf
 have nD := New.own e1.sub hD (.lst ([] : List V))
 have ew := ew.new nD
 have h2 := post_bindN h1
 have start : EnvR X.K (c.blk fb F1 (upd H1 D0 (.lst [])) (D0 :: R) (L2.wipe σ vs)) F1 (upd H1 D0 (.lst [])) (L2.wipe σ vs) (wipeE ρ1 vs) R :=
  ⟨ew.sub, Same.refl _, fun b o q _ => q, fun b _ _ q => q, ew.sl, ew.nd, fun p hp => ⟨(ew.ow p hp).1, .inl (List.mem_cons_of_mem _ hp)⟩, fun i _ => rfl⟩
 have DR : D0 ∉ R := fun z => e1.sl.there D0 (hR D0 z) hD
 generalize hcb : c.blk fb F1 (upd H1 D0 (.lst [])) (D0 :: R) (L2.wipe σ vs) = cb at start
 have cbat : ∀ F H O σ, cb.at F H O σ = c.blk fb F H O σ := fun F H O σ => by rw [← hcb]
 have cbfx : cb.fx = fb := by rw [← hcb]
 refine ⟨fun i m H' => m = xs.length - i ∧ i ≤ xs.length ∧ ∃ F2 ρ2 O2 a acc, EnvR X.K cb F2 H' (L2.wipe σ vs) ρ2 O2 ∧ Out X.K F2 H' D0 O2 a acc ∧ acc.length ≤ i ∧ ((pt && pe) = true → Same H1 H') ∧
   (lcGo vs t tst me (xs.drop i) ρ2).post (fun ys ρ3 => PN X.K c (pi && (pt && pe)) F H σ Q (acc ++ ys) (backE ρ1 vs ρ3)) (fun _ _ => False),
  ⟨xs.length, by simp, Nat.zero_le _, F1, wipeE ρ1 vs, R, [], [], start, ⟨upd_same, .nil, e1.sub.free hD, DR⟩, Nat.zero_le _, fun _ => nD.hH, h2⟩, ?_⟩
 rintro i m H' ⟨rfl, hil, F2, ρ2, O2, a, acc, e2, out, hacc, pur, h3⟩
 have s2 : Same F1 F2 := by have z := e2.f0; rw [← hcb] at z; exact z
 by_cases hlt : i < xs.length
 ·rw [List.drop_eq_getElem_cons hlt] at h3
  refine .inr ⟨it.go F2 H' s2 e2.sub i hlt, fun H3 => ∃ F3 ρ3 O3 a' acc', EnvR X.K cb F3 H3 (L2.wipe σ vs) ρ3 O3 ∧ Out X.K F3 H3 D0 O3 a' acc' ∧ acc'.length ≤ i + 1 ∧ ((pt && pe) = true → Same H1 H3) ∧
   (lcGo vs t tst me (xs.drop (i + 1)) ρ3).post (fun ys ρ4 => PN X.K c (pi && (pt && pe)) F H σ Q (acc' ++ ys) (backE ρ1 vs ρ4)) (fun _ _ => False), fun H3 ⟨F3, ρ3, O3, a', acc', q1, q2, q3, q4, q5⟩ => ⟨xs.length - (i + 1), by omega, rfl, hlt, F3, ρ3, O3, a', acc', q1, q2, q3, q4, q5⟩, fun x H3 y => ?_⟩
  obtain ⟨F3, dx, n3, hd, r3⟩ := it.yl F2 H' s2 e2.sub i x H3 hlt y
  rw [List.getElem?_eq_getElem hlt] at hd
  cases hd
  have h3' : (match t xs[i] ρ2 with
   | none => Res.bad
   | some ρ1 => (tst ρ1).bindN fun b ρ2 => if b = true then (me ρ2).bindN fun y ρ3 => (lcGo vs t tst me (xs.drop (i + 1)) (wipeE ρ3 vs)).bindN fun ys ρ4 => .ok (y :: ys) ρ4 else lcGo vs t tst me (xs.drop (i + 1)) (wipeE ρ2 vs)).post
    (fun ys ρ3 => PN X.K c (pi && (pt && pe)) F H σ Q (acc ++ ys) (backE ρ1 vs ρ3)) (fun _ _ => False) := h3
  cases htx : t xs[i] ρ2 with
  | none => rw [htx] at h3'; exact h3'.elim
  | some ρ3 =>
   rw [htx] at h3'
   have e3 := e2.new n3
   have out3 : Out X.K F3 H3 D0 O2 a acc := ⟨n3.hH _ _ out.at_, out.rp.mono n3.fF, n3.nw D0 (fun z => by rw [out.at_] at z; cases z) out.nf, out.no⟩
   refine ⟨F3, H3, O2, L2.wipe σ vs, F3, ρ2, O2, _, ρ3, ?_, r3, htx, fun σ4 F4 H4 O4 n4 e4 l4 => ?_⟩
   ·rw [← cbat]; exact e3.self
   ·rw [← cbat] at e4
    have a4 := e3.trans e4
    have out4 := out3.step e4
    refine ⟨wipe_eq hlen l4 hall fun j hj => e4.fx j (by rw [← cbfx] at hj; exact hj), ?_⟩
    have hw : L2.wipe σ4 vs = L2.wipe σ vs := wipe_eq hlen l4 hall fun j hj => e4.fx j (by rw [← cbfx] at hj; exact hj)
    refine ⟨F4, H4, O4, σ4, F4, ρ3, O4, by rw [← cbat]; exact a4.self, Res.post_imp (post_bindN h3') (fun b ρ5 h5 F5 H5 O5 e5 s5 p5 => ?_) fun _ _ h => h.elim⟩
    rw [← cbat] at e5
    have a5 := a4.trans e5
    have out5 := out4.step e5
    cases b with
    | false =>
     rw [if_neg Bool.false_ne_true] at h5 ⊢
     obtain ⟨R5, w5, hR5⟩ := a5.wipe (vs := vs) (by rw [cbfx]; exact hvf)
     rw [hw] at w5
     exact ⟨F5, wipeE ρ5 vs, R5, a, acc, w5, ⟨out5.at_, out5.rp, out5.nf, fun z => out5.no (hR5 _ z)⟩, by omega, fun q => (((pur q).trans n3.hH).trans n4.hH).trans (p5 (Bool.and_eq_true_iff.mp q).1), h5⟩
    | true =>
     rw [if_pos rfl] at h5 ⊢
     refine ⟨F5, H5, O5, σ4, F5, ρ5, O5, by rw [← cbat]; exact a5.self, Res.post_imp (post_bindN h5) (fun yv ρ6 h6 F6 H6 O6 v6 e6 s6 p6 r6 => ?_) fun _ _ h => h.elim⟩
     rw [← cbat] at e6
     have a6 := a5.trans e6
     have out6 := out5.step e6
     obtain ⟨R6, w6, hR6⟩ := a6.wipe (vs := vs) (by rw [cbfx]; exact hvf)
     rw [hw] at w6
     have noR6 : D0 ∉ R6 := fun z => out6.no (hR6 _ z)
     have few := it.few
     refine ⟨a, out6.at_, by rw [out6.rp.length]; omega, F6, wipeE ρ6 vs, R6, a ++ [v6], acc ++ [yv], ?_, ⟨upd_same, out6.rp.append (.one r6), out6.nf, noR6⟩, by rw [List.length_append]; simp; omega, fun q => ?_, ?_⟩
     ·refine ⟨fun b u q => ?_, w6.f0, fun b o q hb => ?_, w6.n0, w6.sl.mono (Same.refl _) fun b hb => upd_ne fun z => noR6 (by rw [← z]; exact hb), w6.nd, w6.ow, w6.fx⟩
      ·rw [upd_ne fun z => by rw [z, out6.nf] at q; cases q]
       exact w6.sub b u q
      ·rw [upd_ne fun z => hb (by rw [z, ← hcb]; exact List.mem_cons_self)]
       exact w6.h0 b o q hb
     ·obtain ⟨q1, q2⟩ := Bool.and_eq_true_iff.mp q
      refine fun b o hb => ?_
      rw [upd_ne fun z => by rw [z, hD] at hb; cases hb]
      exact p6 q2 _ _ (p5 q1 _ _ (n4.hH _ _ (n3.hH _ _ (pur q b o hb))))
     ·have z := post_bindN h6
      refine Res.post_imp z (fun ys ρ7 h7 => ?_) fun _ _ h => h
      have h7 : PN X.K c (pi && (pt && pe)) F H σ Q (acc ++ yv :: ys) (backE ρ1 vs ρ7) := h7
      rw [List.append_assoc]
      exact h7
 ·have ei : i = xs.length := by omega
  subst ei
  rw [List.drop_length] at h3
  have h3 : PN X.K c (pi && (pt && pe)) F H σ Q (acc ++ []) (backE ρ1 vs ρ2) := h3
  rw [List.append_nil] at h3
  obtain ⟨O3, m1, m2, m3⟩ := slr_back (H := H') e1.sl s2 (by have z := e2.sl; rw [← hcb] at z; exact z) hda
  have fin : EnvR X.K c F2 H' σ (backE ρ1 vs ρ2) O3 := by
   rw [← hcb] at e2
   refine ⟨e2.sub, e1.f0.trans s2, fun b o q hb => ?_, fun b q1 q2 q3 => ?_, m1, m3 e2.nd, fun p hp => ?_, e1.fx⟩
   ·have z := e1.h0 b o q hb
    have hbD : b ≠ D0 := fun k => by rw [k, hD] at z; cases z
    refine e2.h0 b o ?_ fun k => ?_
    ·show upd H1 D0 _ b = _
     rw [upd_ne hbD]; exact z
    ·rcases List.mem_cons.mp k with k | k
     ·exact hbD k
     ·rcases (ew.ow b k).2 with k2 | k2
      ·exact hb k2
      ·rw [q] at k2; cases k2
   ·cases q : c.H b with
    | none => exact absurd q q1
    | some o =>
     have z := e1.h0 b o q q2
     have hbD : b ≠ D0 := fun k => by rw [k, hD] at z; cases z
     refine e2.n0 b (fun k => ?_) (fun k => ?_) (e1.n0 b q1 q2 q3)
     ·have k : upd H1 D0 (.lst []) b = none := k
      rw [upd_ne hbD, z] at k; cases k
     ·rcases List.mem_cons.mp k with k | k
      ·exact hbD k
      ·rcases (ew.ow b k).2 with k2 | k2
       ·exact q2 k2
       ·rw [q] at k2; cases k2
   ·have hp2 := m2 p hp
    refine ⟨(e2.ow p hp2).1, ?_⟩
    have hpD : p ≠ D0 := fun k => out.no (by rw [← k]; exact hp2)
    rcases (e2.ow p hp2).2 with k | k
    ·rcases List.mem_cons.mp k with k | k
     ·exact absurd k hpD
     ·exact (ew.ow p k).2
    ·have k : upd H1 D0 (.lst []) p = none := k
     rw [upd_ne hpD] at k
     by_cases hc : p ∈ c.O
     ·exact .inl hc
     ·refine .inr ?_
      cases q : c.H p with
      | none => rfl
      | some o => rw [e1.h0 p o q hc] at k; cases k
  refine .inl ⟨it.st F2 H' s2 e2.sub _ (Nat.le_refl _), h3 F2 H' O3 D0 a fin (s1.trans s2) (fun q => ?_) out.at_ out.rp ⟨?_, fun p hp => ?_⟩⟩
  ·obtain ⟨q1, q2⟩ := Bool.and_eq_true_iff.mp q
   exact (p1 q1).trans (pur q2)
  ·rw [List.singleton_append, List.nodup_cons]
   exact ⟨fun k => out.no (m2 _ k), fin.nd⟩
  ·rw [List.mem_singleton] at hp
   subst hp
   refine ⟨out.nf, ?_⟩
   by_cases hc : p ∈ c.O
   ·exact .inl hc
   ·refine .inr ?_
    cases q : c.H p with
    | none => rfl
    | some o => rw [e1.h0 p o q hc] at hD; cases hD
theorem blk_g (hg : ∀ F H O σ (s : Shared) (Hb : Hp) (C : Addr) (cl : List (Str × Addr)) (fp : List Addr), PG (X.blk s Hb scope (compEnvC scope cl C X.env) fp) tg (tgD tg X.K (c.blk fb F H O σ) t)) : ∀ (s : Shared) (Hb : Hp) (C : Addr) (cl : List (Str × Addr)) (fp : List Addr), PG (X.blk s Hb scope (compEnvC scope cl C X.env) fp) tg (tgB tg X.K c fb t) :=
 fun s H C cl fp => ⟨fun pins s' σ H' v u Q I r ⟨F0, H0, O0, σ0, q⟩ => (hg F0 H0 O0 σ0 s H C cl fp).run pins s' σ H' v u Q I r q⟩
theorem blk_t (ht : ∀ F H O σ (s : Shared) (Hb : Hp) (C : Addr) (cl : List (Str × Addr)) (fp : List Addr), PTs (X.blk s Hb scope (compEnvC scope cl C X.env) fp) ifs (tt X.K (c.blk fb F H O σ) pt tst)) : ∀ (s : Shared) (Hb : Hp) (C : Addr) (cl : List (Str × Addr)) (fp : List Addr), PTs (X.blk s Hb scope (compEnvC scope cl C X.env) fp) ifs (ttE X.K c fb pt tst) :=
 fun s H C cl fp => ⟨fun pins s' σ H' Q I ⟨F0, H0, O0, σ0, q⟩ => (ht F0 H0 O0 σ0 s H C cl fp).run pins s' σ H' Q I q⟩
theorem blk_e (he : ∀ F H O σ (s : Shared) (Hb : Hp) (C : Addr) (cl : List (Str × Addr)) (fp : List Addr), PE (X.blk s Hb scope (compEnvC scope cl C X.env) fp) elt (te X.K (c.blk fb F H O σ) false pe me)) : ∀ (s : Shared) (Hb : Hp) (C : Addr) (cl : List (Str × Addr)) (fp : List Addr), PE (X.blk s Hb scope (compEnvC scope cl C X.env) fp) elt (teE X.K c fb pe me) :=
 fun s H C cl fp => ⟨fun pins s' σ H' Q I ⟨F0, H0, O0, σ0, q⟩ => (he F0 H0 O0 σ0 s H C cl fp).run pins s' σ H' Q I q⟩
theorem n_lc (hc : X.calm = true) (hN : X.N.Nodup) (hi : PI X tg e (ti tg X.K c pi mi)) (ok : BlkOk X.N X.env.scope scope own)
  (hg : ∀ F H O σ (s : Shared) (Hb : Hp) (C : Addr) (cl : List (Str × Addr)) (fp : List Addr), PG (X.blk s Hb scope (compEnvC scope cl C X.env) fp) tg (tgD tg X.K (c.blk fb F H O σ) t))
  (ht : ∀ F H O σ (s : Shared) (Hb : Hp) (C : Addr) (cl : List (Str × Addr)) (fp : List Addr), PTs (X.blk s Hb scope (compEnvC scope cl C X.env) fp) ifs (tt X.K (c.blk fb F H O σ) pt tst))
  (he : ∀ F H O σ (s : Shared) (Hb : Hp) (C : Addr) (cl : List (Str × Addr)) (fp : List Addr), PE (X.blk s Hb scope (compEnvC scope cl C X.env) fp) elt (te X.K (c.blk fb F H O σ) false pe me))
  (hs : ∀ x, foldedSetIterable e X.env x = pure x := by intro _; rfl) (hvf : ((own.map (·.2)).all fun i => fb.all fun j => j != i) = true := by rfl) (hall : ((List.range X.N.length).all fun i => (own.map (·.2)).contains i || fb.contains i) = true := by rfl) (hcf : ((own.map (·.2)).all fun i => c.fx.all fun j => j != i) = true := by rfl) :
  PE X (.ListComp elt [⟨tg, e, ifs, 0⟩] scope pos) (tn X.K c (pi && (pt && pe)) (mLc (own.map (·.2)) mi t tst me)) :=
 (pe_len (pe_lc (pos := pos) hc hN hi ok (blk_g hg) (blk_t ht) (blk_e he) hs)).imp fun σ H Q h hlen => lc_step hlen hvf hall hcf h
end
end DL
end
section
namespace DL
variable [DL.TheW]
open PySem PySem.Spec PyProof.Rows L2
theorem EnvR.write {K : Frag} {c : Ct} {F H : Hp} {σ : Sl} {ρ : Env} {O : List Addr} {i : Nat} {xs ys : List D} {p : Addr} {ws : List V} (e : EnvR K c F H σ ρ O) (h : ρ[i]? = some (some (.lst xs))) (hp : σ[i]? = some (some (.ref p))) (r : RpAll K F ws ys) :
  ∃ O', EnvR K c F (upd H p (.lst ws)) σ (ρ.set i (some (.lst ys))) O' := by
 obtain ⟨v, A, R, h1, h2, h3, h4⟩ := e.sl.at h
 rw [hp] at h1; cases h1
 have hA : A = [p] := by cases h2; rfl
 subst hA
 have nd := h3.nodup_iff.mp e.nd
 have pR : p ∉ R := fun z => (List.nodup_cons.mp nd).1 z
 have pO : p ∈ O := h3.mem_iff.mpr (by simp)
 obtain ⟨_, k2⟩ := h4 F (upd H p (.lst ws)) (Same.refl _) fun b hb => upd_ne fun z => pR (by rw [← z]; exact hb)
 obtain ⟨O', k3, k4⟩ := k2 (.ref p) (.lst ys) [p] (.lst upd_same r)
 rw [set_self hp] at k3
 have hO : O'.Perm O := k4.trans h3.symm
 refine ⟨O', fun b u q => ?_, e.f0, fun b o q hb => ?_, e.n0, k3, hO.nodup_iff.mpr e.nd, fun q hq => e.ow q (hO.mem_iff.mp hq), e.fx⟩
 ·rw [upd_ne fun z => by rw [z, (e.ow p pO).1] at q; cases q]
  exact e.sub b u q
 ·rw [upd_ne fun z => by
   subst z
   rcases (e.ow b pO).2 with w | w
   ·exact hb w
   ·rw [w] at q; cases q]
  exact e.h0 b o q hb
theorem EnvR.lstAt {K : Frag} {c : Ct} {F H : Hp} {σ : Sl} {ρ : Env} {O : List Addr} {i : Nat} {xs : List D} (e : EnvR K c F H σ ρ O) (h : ρ[i]? = some (some (.lst xs))) : ∃ p vs, σ[i]? = some (some (.ref p)) ∧ H p = some (.lst vs) ∧ RpAll K F vs xs := by
 obtain ⟨v, A, h1, h2⟩ := e.var h
 cases h2 with
 | lst h3 h4 => exact ⟨_, _, h1, h3, h4⟩
def mLM (i : Nat) (g : List D → List D → Option (List D × D)) (ms : M (List D)) : M D := fun ρ => match ρ[i]? with
 | some (some (.lst _)) => (ms ρ).bind fun as ρ1 => match ρ1[i]? with
  | some (some (.lst xs)) => match g xs as with
   | some z => .ok z.2 (ρ1.set i (some (.lst z.1)))
   | none => .bad
  | _ => .bad
 | _ => .bad
def rLM (K : Frag) (g : List D → List D → Option (List D × D)) : V → List V → Hp → VK → Prop := fun v vs H Q => ∃ F p ws xs as z, v = .ref p ∧ Same F H ∧ H p = some (.lst ws) ∧ F p = none ∧ RpAll K F ws xs ∧ RpAll K F vs as ∧ g xs as = some z ∧ ∀ ws' u, RpAll K F ws' z.1 → Rp K F u z.2 → Q u (upd H p (.lst ws'))
section
variable {X : Cx} {c : Ct} {e : Expr} {es : List Expr} {pos apos cpos npos : Pos} {pu : Bool} {ms : M (List D)} {g : List D → List D → Option (List D × D)} {x name : Str} {id : String}
theorem lm_step {i : Nat} {to : TE} {t : TA} {σ : Sl} {H : Hp} {Q : VK} {F : Hp} {ρ1 : Env} {O : List Addr} {as : List D} {vs : List V} {p : Addr} (e : EnvR X.K c F H σ ρ1 O) (hp : σ[i]? = some (some (.ref p))) (ra : RpAll X.K F vs as)
  (h : (match ρ1[i]? with
  | some (some (.lst xs)) => match g xs as with
   | some z => Res.ok z.2 (ρ1.set i (some (.lst z.1)))
   | none => .bad
  | _ => .bad).post (fun (x : D) ρ' => ∀ F' H' O' v, EnvR X.K c F' H' σ ρ' O' → Same F F' → Rp X.K F' v x → Q v H') (PX X.K c σ)) : rLM X.K g (.ref p) vs H Q := by
 cases q : ρ1[i]? with
 | none => rw [q] at h; exact h.elim
 | some w =>
  rw [q] at h
  cases w with
  | none => exact h.elim
  | some o =>
   cases o with
   | lst xs =>
    obtain ⟨p', ws, h1, h2, h3⟩ := e.lstAt q
    rw [hp] at h1; cases h1
    cases hg : g xs as with
    | none => simp only [hg] at h; exact h.elim
    | some z =>
     simp only [hg] at h
     have fp : F p = none := by
      obtain ⟨v, A, R, t1, t2, t3, _⟩ := e.sl.at q
      rw [hp] at t1; cases t1
      cases t2
      exact (e.ow p (t3.mem_iff.mpr (by simp))).1
     refine ⟨F, p, ws, xs, as, z, rfl, e.sub, h2, fp, h3, ra, hg, fun ws' u r1 r2 => ?_⟩
     obtain ⟨O', e'⟩ := e.write q hp r1
     exact h F _ O' u e' (Same.refl _) r2
   | d _ => exact h.elim
   | dct _ => exact h.elim
   | dctT _ => exact h.elim
   | obj _ _ => exact h.elim
   | tup _ => exact h.elim
   | bag _ => exact h.elim
theorem se_lm (i : Nat) (slot : Slot "list" name id) (hty : typeOf (.builtin id) = pure (.type "method_descriptor")) (hm : MtR X id (rLM X.K g)) (ha : SA X c (e :: es) pu ms) (hN : X.N[i]? = some x := by rfl) (hv : Vis X.env.scope x := by first | exact Or.inl rfl | exact Or.inr (Or.inl rfl) | exact Or.inr (Or.inr rfl)) (hd : (x == ("__debug__" : Str)) = false := by decide)
  (hcd : (x == ("__classdict__" : Str)) = false := by decide)
  (hbase : attributeBase (.Name x npos) name X.env (eval (.Name x npos) X.env) = eval (.Name x npos) X.env := by rfl)
  (hfew : ((backTo cpos (starEach (e :: es) X.env)).all (fun x => !x.1) && (backToKw cpos (keywordEach [] X.env)).all (fun x => x.1.isSome)
   && decide ((e :: es).length + ([] : List Keyword).length + (if ([] : List Keyword).isEmpty then 0 else 1) < 30)) = true := by rfl)
  (hline : (apos.endLine == cpos.line) = true := by rfl) (hs : starEach (e :: es) X.env = (false, eval e X.env) :: starEach es X.env := by rfl) (hplain : (backTo cpos (starEach es X.env)).any (·.1) = false := by rfl) :
  PE X (.Call (.Attribute (.Name x npos) name apos) (e :: es) [] cpos) (te X.K c false false (mLM i g ms)) := (pe_bm F.plainAttrs_list slot hty hm (pe_var hN hv hd hcd) ha.pa hbase hfew hline hs hplain).imp fun σ H Q ⟨F, ρ, O, ev, h⟩ => by
 unfold mLM at h
 cases q : ρ[i]? with
 | none => rw [q] at h; exact h.elim
 | some w =>
  rw [q] at h
  cases w with
  | none => exact h.elim
  | some o =>
   cases o with
   | lst xs =>
    obtain ⟨p, vs, h1, h2, _⟩ := ev.lstAt q
    refine ⟨_, h1, .inl ⟨rfl, _, .of h2⟩, ?_⟩
    refine ta_step ev h fun as ρ1 F1 H1 O1 ws _ h3 e1 s1 p1 r1 => ?_
    exact lm_step (i := i) (to := fun _ _ _ => True) (t := fun _ _ _ => True) e1 h1 r1 (Res.post_imp h3 (fun x ρ' k F' H' O' v e' s' r => k F' H' O' v e' (s1.trans s') (fun z => nomatch z) r) fun _ _ k => k)
   | d _ => exact h.elim
   | dct _ => exact h.elim
   | dctT _ => exact h.elim
   | obj _ _ => exact h.elim
   | tup _ => exact h.elim
   | bag _ => exact h.elim
theorem mt_imp {r r' : V → List V → Hp → VK → Prop} (h : MtR X id r) (k : ∀ v vs H Q, r' v vs H Q → r v vs H Q) : MtR X id r' := fun pins s σ H x xs v us Q I rx rs q => h pins s σ H x xs v us Q I rx rs (k x xs H Q q)
def appendD (xs as : List D) : Option (List D × D) := match as with
 | [a] => if xs.length < sizeLine then some (xs ++ [a], .none) else none
 | _ => none
theorem md_append : MtR X "list.append" (rLM X.K appendD) := mt_imp mt_append fun v vs H Q ⟨F, p, ws, xs, as, z, hv, s, hp, hf, r1, r2, hg, q⟩ => by
 unfold appendD at hg
 split at hg
 ·split at hg
  ·rename_i hl
   cases hg
   cases r2 with
   | cons ra rn =>
    cases rn
    exact ⟨p, ws, _, hv, rfl, hp, by rw [r1.length]; exact hl, q _ _ (r1.append (.one ra)) .non⟩
  ·cases hg
 ·cases hg
end
end DL
namespace PySem
open PyProof.Rows
end PySem
namespace DL
variable [DL.TheW]
open PySem PySem.Spec PyProof.Rows L2
def extendD (xs : List D) (a : D) : Option (List D) := match a with
 | .list ys => if xs.length + ys.length ≤ sizeLine then some (xs ++ ys) else none
 | .tuple ys => if xs.length + ys.length ≤ sizeLine then some (xs ++ ys) else none
 | _ => none
def mExtend (i : Nat) (m : M D) : M D := fun ρ => match ρ[i]? with
 | some (some (.lst _)) => (m ρ).bind fun a ρ1 => match ρ1[i]? with
  | some (some (.lst xs)) => match extendD xs a with
   | some z => .ok .none (ρ1.set i (some (.lst z)))
   | none => .bad
  | _ => .bad
 | _ => .bad
section
variable {X : Cx} {c : Ct} {e : Expr} {pos apos cpos npos : Pos} {ka pu : Bool} {me : M D} {x : Str}
end
def sPut (i : Nat) (mi mv : M D) : M Fl := fun ρ => (mv ρ).bind fun v ρ1 => match ρ1[i]? with
 | some (some (.lst _)) => (mi ρ1).bind fun k ρ2 => match ρ2[i]?, k with
  | some (some (.lst xs)), .int j => match ixN xs.length j with
   | some n => .ok .nx (ρ2.set i (some (.lst (xs.set n v))))
   | none => .bad
  | _, _ => .bad
 | _ => .bad
section
variable {X : Cx} {c : Ct} {e o ix : Expr} {pos spos npos : Pos} {p1 p2 : Bool} {mi mv : M D} {x : Str}
theorem sv_put (i : Nat) (hN' : X.N[i]? = some x := by rfl) (hix : PE X ix (te X.K c false p1 mi)) (he : PE X e (te X.K c false p2 mv)) (hv : Vis X.env.scope x := by first | exact Or.inl rfl | exact Or.inr (Or.inl rfl) | exact Or.inr (Or.inr rfl)) (hd : (x == ("__debug__" : Str)) = false := by decide)
  (hcd : (x == ("__classdict__" : Str)) = false := by decide)
  (ha : ∀ v, assign (.Subscript (.Name x npos) ix spos) X.env v = (do
   let ov ← holding [v] (eval (.Name x npos) X.env)
   let iv ← holding [v, ov] (eval ix X.env)
   standAt spos
   holding [v, ov, iv] (setItem ov iv v)
   release [v, ov, iv] []) := by intro _; rfl)
  (hs : swapsWithSole [.Subscript (.Name x npos) ix spos] e pos.line X.env = pure false := by rfl) (hw : swappedStores [.Subscript (.Name x npos) ix spos] e X.env = pure none := by rfl)
  (h1 : (assignEach [.Subscript (.Name x npos) ix spos] X.env).map (·.2) = [assign (.Subscript (.Name x npos) ix spos) X.env] := by rfl) :
  PS X (.Assign [.Subscript (.Name x npos) ix spos] e pos) (ts X.K c (sPut i mi mv)) := (ps_asg he (pg_sub (pe_var hN' hv hd hcd) hix set_list ha) hs hw h1).imp fun Dn σ H ⟨F, ρ, O, ev, h⟩ => by
 refine te_stepS ev h fun v ρ1 F1 H1 O1 vv h1 e1 s1 q1 v1 => ?_
 cases k : ρ1[i]? with
 | none => rw [k] at h1; exact h1.elim
 | some w =>
  rw [k] at h1
  cases w with
  | none => exact h1.elim
  | some o =>
   cases o with
   | d _ => exact h1.elim
   | dct _ => exact h1.elim
   | dctT _ => exact h1.elim
   | obj _ _ => exact h1.elim
   | tup _ => exact h1.elim
   | bag _ => exact h1.elim
   | lst xs0 =>
    obtain ⟨p, ws0, g1, _, _⟩ := e1.lstAt k
    refine ⟨_, g1, ?_⟩
    refine te_stepS e1 h1 fun kx ρ2 F2 H2 O2 kv h2 e2 s2 q2 v2 => ?_
    cases k2 : ρ2[i]? with
    | none => simp only [k2] at h2; exact h2.elim
    | some w =>
     simp only [k2] at h2
     cases w with
     | none => exact h2.elim
     | some o =>
      cases o with
      | d _ => exact h2.elim
      | dct _ => exact h2.elim
      | dctT _ => exact h2.elim
      | obj _ _ => exact h2.elim
      | tup _ => exact h2.elim
      | bag _ => exact h2.elim
      | lst xs =>
       cases kx with
       | int j =>
        obtain ⟨p', ws, g2, g3, g4⟩ := e2.lstAt k2
        rw [g1] at g2; cases g2
        simp only at h2
        cases hj : ixN xs.length j with
        | none => rw [hj] at h2; exact h2.elim
        | some n =>
         rw [hj] at h2
         obtain ⟨O', e'⟩ := e2.write k2 g1 (g4.set (Rp.mono s2 v1) n)
         exact ⟨p, ws, j, n, rfl, inv_int v2.up0, g3, by rw [g4.length]; exact hj, h2 σ F2 _ O' e'⟩
       | _ => exact h2.elim
end
end DL
end
section
namespace DL
variable [DL.TheW]
open PySem PySem.Spec PyProof.Rows L2
inductive Ty where
 | str | int | bool | tup | lst | dct
def Ty.nm : Ty → String
 | .str => "str" | .int => "int" | .bool => "bool" | .tup => "tuple" | .lst => "list" | .dct => "dict"
def isT : Ty → D → Option Bool
 | t, .dict kvs => match cells kvs with
  | some _ => none
  | none => some (match t with | .dct => true | _ => false)
 | t, x => some (match t, x with
  | .str, .str _ => true
  | .int, .int _ => true
  | .int, .bool _ => true
  | .bool, .bool _ => true
  | .tup, .tuple _ => true
  | .lst, .list _ => true
  | _, _ => false)
def isiD (t : Ty) (x : D) : Option D := (isT t x).map .bool
section
variable {X : Cx} {c : Ct} {e : Expr} {pos p p2 : Pos} {ka pu : Bool} {me : M D} {t : Ty} {x : Str}
end
def sPar (i j : Nat) (m : M (List D)) : M Fl := fun ρ => (m ρ).bind fun xs ρ1 => match xs with
 | [x, y] => .ok .nx ((ρ1.set i (some (.d x))).set j (some (.d y)))
 | _ => .bad
section
variable {X : Cx} {c : Ct} {e a b : Expr} {pos : Pos} {pu : Bool} {me : M D} {ms : M (List D)} {x y : Str}
def sTgt (t : D → Env → Option Env) (m : M D) : M Fl := fun ρ => (m ρ).bind fun x ρ1 => match t x ρ1 with
 | some ρ2 => .ok .nx ρ2
 | none => .bad
end
def sAug (g : D → D → Option D) (i : Nat) (m : M D) : M Fl := fun ρ => match ρ[i]? with
 | some (some (.d x)) => (m ρ).bind fun y ρ1 => match g x y with
  | some z => .ok .nx (ρ1.set i (some (.d z)))
  | none => .bad
 | _ => .bad
section
variable {X : Cx} {c : Ct} {e : Expr} {pos npos : Pos} {pu : Bool} {me : M D} {x : Str}
end
end DL
end
section
namespace DL
variable [DL.TheW]
open PySem PySem.Spec PyProof.Rows L2 PySem.W
section
variable {κ : Type} [DecidableEq κ] {P : Program} {w : World} {knd : KeyKind P w κ}
def Ent (knd : KeyKind P w κ) (e : Int × Value) (k : κ) : Prop := knd.is k e.2 = true ∧ e.1 = knd.hash k ∧ e.2.scannable = true
structure Rows (knd : KeyKind P w κ) (es : Array (Int × Value)) (t : SetTable) (ks : List κ) : Prop where
 ent : EachIs (Ent knd) es.toList ks
 nd : ks.Nodup
 low : es.size < scanBound
 fit : t.fits es.size = true
 ris : Ris t.place.toList
 led : w.params.followText "set-order" = true ∨ t.led = true
def SK (knd : KeyKind P w κ) (h : Heap) (a : Addr) (ks : List κ) : Prop := ∃ o es ep t, h.get? a = some o ∧ o.ExactSet ∧ o.data = .set es ep t ∧ Rows knd es t ks
section
variable {A : Around} {E : Value → Shared → Prop} {s : Shared} {a : Addr} {ks : List κ}
end
section
variable {A : Around} {R : Result → Shared → Prop} {I S : Addr} {fp wr : List Addr} {G : Array GenState → Array GenState → Prop} {n : Nat} {Pv : Nat → Value → Prop} {St : Nat → Shared → Prop}
end
end
section
variable {κ : Type} [DecidableEq κ] {P : Program} {w : World} {knd : KeyKind P w κ} {A : Around} {E : Value → Shared → Prop} {s : Shared}
structure Seq1 (T : String) : Prop where
 s1 : isSubtype (.type T) (.type "set") = pure false
 s2 : isSubtype (.type T) (.type "frozenset") = pure false
 ne : (Value.type T == Value.type "dict") = false
end
end DL
end
section
namespace DL
variable [DL.TheW]
open PySem PySem.Spec PyProof.Rows L2 PySem.W
def sortOk (xs : List D) : Bool := (xs.all fun x => xs.all fun y => alike x y) && ((xs.all fun x => match x with
 | .tuple (_ :: _) => true
 | _ => false) || (xs.all fun x => match x with
 | .tuple _ => false
 | .none => false
 | _ => true)) && SeqAt.shaped (.list xs)
def sortL (xs : List D) : List D := xs.mergeSort (dataLe false id)
def sortO : D → Option (List D)
 | .list xs => if sortOk xs = true then some (sortL xs) else none
 | _ => none
def leS (a b : Str) : Bool := decide (a.cps.toList ≤ b.cps.toList)
def sortS (l : List Str) : List Str := l.mergeSort leS
def onceS : List Str → List Str
 | [] => []
 | x :: r => if x ∈ r then onceS r else x :: onceS r
section
variable {P : Program} {w : World} {A : Around} {E : Value → Shared → Prop} {s : Shared} {a : Addr} {ks : List Str}
end
end DL
end
section
namespace DL
variable [DL.TheW]
open PySem PySem.Spec PyProof.Rows L2 PySem.W
abbrev TK := Sl → Hp → (List Str → Hp → Prop) → Prop
structure PSt (X : Cx) (e : Expr) (t : TK) : Prop where
 run : ∀ (pins : List (Addr × Obj)) (s : Shared) (σ : Sl) (H : Hp) (Q : List Str → Hp → Prop), L2.Inv X pins σ H s → t σ H Q →
  wpAny (model X.prog X.w) X.A (eval e X.env) (fun v s' => ∃ a ks H', v = Value.ref a ∧ SK (strKind X.prog X.w) s'.heap a ks ∧ L2.Inv X pins σ H' s' ∧ Q ks H') X.xe s
def textsD (x : D) : Option (List Str) := match x with
 | .list xs => (allStr xs).bind fun l => if l.length + 1 < scanBound then some l else none
 | .tuple xs => (allStr xs).bind fun l => if l.length + 1 < scanBound then some l else none
 | _ => none
def mSetOf (m : M D) : M (List Str) := fun ρ => (m ρ).bind fun x ρ1 => ofO (textsD x) ρ1
def mSortK (m : M (List Str)) : M (List D) := fun ρ => (m ρ).bind fun l ρ1 => .ok ((sortS (onceS l)).map .str) ρ1
def mLenK (m : M (List Str)) : M D := fun ρ => (m ρ).bind fun l ρ1 => .ok (.int ((onceS l).length : Nat)) ρ1
section
variable {X : Cx} {c : Ct} {e : Expr} {pos p : Pos} {ka pu : Bool} {me : M D} {mk : M (List Str)}
end
end DL
end
section
namespace DL
variable [DL.TheW]
open PySem PySem.Spec PyProof.Rows L2
theorem kb_of {K : Frag} {x qual : Str} {params : Arguments} {body : List Stmt} {scope : Scope} {kws : List (Str × V)} {f : Addr} {fd : FuncData} {ps ks : List Str} {n : Nat} {g : {α : Type} → List α → List α → List α} (F : FunD K x qual params body scope [] kws f fd)
  (hrel : ∀ {vs zs : List V} {us ws : List Value}, Vals vs us → Vals zs ws → Vals (g vs zs) (g us ws))
  (h : ∀ (kV doc pm : Value) (an : Option Addr) (cdv ct : Value) (us ws : List Value), us.length = n → ws.length = ks.length → bindArgs (PySem.W.fnOf x qual params body scope .none kV doc pm an cdv ct) ⟨us, ks.zip ws⟩ = pure (ps.zip (g us ws))) : KBn K fd ps n ks (fun us ws => g us ws) (fun vs zs => g vs zs) := by
 obtain ⟨oc, od, dV, kV, doc, pm, an, cdv, ct, osl, rfl, lk, hcd, hD, hK⟩ := F.ex
 rcases hD with ⟨_, rfl⟩ | ⟨e, _⟩
 ·exact ⟨fun s us ws _ l1 l2 => .of_eq (h kV doc pm an cdv ct us ws l1 l2), fun r1 r2 => hrel r1 r2⟩
 ·exact absurd rfl e
section
variable {X : Cx} {c : Ct} {k : Nat} {f : Addr} {fd : FuncData} {ps ks : List Str} {fn : Fn} {x : Str} {p pos kpos : Pos} {e : Expr} {es : List Expr} {kws : List Keyword} {ms : M (List AV)} {me : M D} {p1 : Bool} {nm : Option Str} {g : List Value → List Value → List Value}
theorem pk_imp {t t' : TA} (h : L2.PK X kws t) (q : ∀ σ H Q, t' σ H Q → t σ H Q) : L2.PK X kws t' := ⟨fun pos pins s σ H Q I z => h.run pos pins s σ H Q I (q σ H Q z)⟩
theorem sk_nil : L2.PK X [] (tg X.K c gNil) := pk_imp pk_nil fun σ H Q ⟨F, ρ, O, e, h⟩ => h F H O [] e (Same.refl _) .nil
theorem sk_d (ha : PE X e (te X.K c false p1 me)) (hr : L2.PK X kws (tg X.K c ms)) : L2.PK X (⟨nm, e, kpos⟩ :: kws) (tg X.K c (gD me ms)) :=
 pk_imp (pk_cons ha hr) fun σ H Q ⟨F, ρ, O, e, h⟩ => te_step e h fun x ρ1 F1 H1 O1 v h1 e1 s1 q1 v1 => tg_step e1 h1 fun xs ρ2 F2 H2 O2 vs h2 e2 s2 v2 => h2 F2 H2 O2 _ e2 (s1.trans s2) (.d (Rp.mono s2 v1) v2)
end
def sRaise (x : Str) : M Fl := fun ρ => .ex ⟨.own x, []⟩ ρ
section
variable {X : Cx} {c : Ct} {C : Addr} {bmB : List Value} {B newId initId : String} {x y m : Str} {j : Nat} {p p2 pos pos' : Pos}
end
def noEx {α : Type} : Res α → Res α
 | .ex _ _ => .bad
 | r => r
structure Hd where
 cv : Value
 isa : ECls → Option Bool
 m : M Fl
def tryH : List ((ECls → Option Bool) × M Fl) → Exc → M Fl
 | [], ξ => fun ρ => .ex ξ ρ
 | h :: r, ξ => fun ρ => match h.1 ξ.c with
  | some true => noEx (h.2 ρ)
  | some false => tryH r ξ ρ
  | none => .bad
def Hd.p (h : Hd) : (ECls → Option Bool) × M Fl := (h.isa, h.m)
def sTry (b : M Fl) (hs : List ((ECls → Option Bool) × M Fl)) : M Fl := fun ρ => match b ρ with
 | .ok f ρ1 => .ok f ρ1
 | .ex ξ ρ1 => tryH hs ξ ρ1
 | .bad => .bad
inductive HsOk (X : Cx) (c : Ct) : List ExceptHandler → List Hd → Prop
 | nil : HsOk X c [] []
 | cons {x : Str} {h : Hd} {b₀ : Stmt} {suite : List Stmt} {np pos' : Pos} {hds : List ExceptHandler} {l : List Hd} (hc : Names X x h.cv) (hi : ∀ e b, h.isa e = some b → PySem.W.exmOne X.K (ecV c.ca e) h.cv = some b)
   (hsu : ∀ (a : Addr) (pn : List (Addr × Obj)), PSs (X.suite a pn) (b₀ :: suite) (ts X.K c.nox h.m)) (r : HsOk X c hds l) : HsOk X c (.ExceptHandler (some (.Name x np)) none (b₀ :: suite) pos' :: hds) (h :: l)
section
variable {X : Cx} {c : Ct} {body : List Stmt} {hds : List ExceptHandler} {h₀ : ExceptHandler} {l : List Hd} {b : M Fl} {pos : Pos}
end
end DL
end
section
namespace DL
variable [DL.TheW]
open PySem PySem.Spec PyProof.Rows L2
section
variable {X : Cx} {c : Ct} {es es' : List Expr} {pos : Pos} {t : TGs}
def tStar (k : Nat) (u : List D → Env → Option Env) : D → Env → Option Env := fun x ρ => match x with
 | .tuple xs => if k ≤ xs.length then u (xs.take k ++ [.list (xs.drop k)]) ρ else none
 | .list xs => if k ≤ xs.length then u (xs.take k ++ [.list (xs.drop k)]) ρ else none
 | _ => none
end
end DL
end
section
namespace DL
variable [DL.TheW]
open PySem PySem.Spec PyProof.Rows L2
abbrev KD := List (Key × D)
def dK (kds : KD) : D := .dict (kds.map fun p => (kD p.1, p.2))
def keyOf : D → Option Key
 | .int i => some (.inl i)
 | .str x => some (.inr x)
 | _ => none
inductive RpK (K : Frag) (F : Hp) : List (Key × V) → KD → Prop
 | nil : RpK K F [] []
 | cons {k : Key} {v : V} {x : D} {r : List (Key × V)} {s : KD} : Rp K F v x → RpK K F r s → RpK K F ((k, v) :: r) ((k, x) :: s)
section
variable {K : Frag} {F F' H H' : Hp}
end
def putKD (kds : KD) (k : Key) (x : D) : KD := if (kds.any fun p => decide (p.1 = k)) = true then kds.map (fun p => if p.1 = k then (p.1, x) else p) else kds ++ [(k, x)]
def mergeKD (kds more : KD) : KD := more.foldl (fun acc p => putKD acc p.1 p.2) kds
section
variable {K : Frag} {F : Hp}
end
def mNilP : M KD := fun ρ => .ok [] ρ
def mConsP (k v : M D) (r : M KD) : M KD := fun ρ => (k ρ).bind fun x ρ1 => (v ρ1).bind fun y ρ2 => match keyOf x with
 | some j => (r ρ2).bind fun l ρ3 => .ok ((j, y) :: l) ρ3
 | none => .bad
def PPx (K : Frag) (c : Ct) (F H : Hp) (σ : Sl) (Q : List (V × V) → Hp → Prop) (kds : KD) (ρ' : Env) : Prop :=
 ∀ F' H' O' kvs, EnvR K c F' H' σ ρ' O' → Same F F' → RpK K F' kvs kds → Q (kvs.map fun p => (kV p.1, p.2)) H'
structure SP (X : Cx) (c : Ct) (pos : Pos) (keys : List (Option Expr)) (values : List Expr) (m : M KD) : Prop where
 trs : ∃ trs, PPs X pos keys values trs ∧ ∀ F0 H0 O0 σ0 σ H Q, (∃ F ρ O, EnvR X.K (c.at F0 H0 O0 σ0) F H σ ρ O ∧ (m ρ).post (PPx X.K (c.at F0 H0 O0 σ0) F H σ Q) (PX X.K (c.at F0 H0 O0 σ0) σ)) → tPairs trs σ H Q
 len : ∀ ρ l ρ', m ρ = .ok l ρ' → l.length = keys.length
section
variable {X : Cx} {c : Ct} {pos : Pos} {keys : List (Option Expr)} {values : List Expr} {m : M KD} {k v : Expr} {p1 p2 : Bool} {mk mv : M D}
def mDict (m : M KD) : M D := fun ρ => (m ρ).bind fun l ρ1 => .ok (dK (mergeKD [] l)) ρ1
def mDictO (m : M KD) : M OV := fun ρ => (m ρ).bind fun l ρ1 => .ok (.dct ((mergeKD [] l).map fun p => (kD p.1, p.2))) ρ1
end
end DL
end
section
namespace DL
variable [DL.TheW]
open PySem PySem.Spec PyProof.Rows L2
def negD : D → Option D
 | .int i => some (.int (-i))
 | _ => none
section
variable {X : Cx} {c : Ct} {e : Expr} {es : List Expr} {pos : Pos} {ka pu : Bool} {me : M D}
end
def visB (sc : Scope) (x : Str) : Bool := match sc.names.lookup x with
 | some .local => true
 | some .cell => true
 | some .free => true
 | _ => false
theorem vis_of {sc : Scope} {x : Str} (h : visB sc x = true) : Vis sc x := by
 unfold visB at h
 split at h
 ·rename_i q; exact .inl q
 ·rename_i q; exact .inr (.inl q)
 ·rename_i q; exact .inr (.inr q)
 ·cases h
def locB (sc : Scope) (x : Str) : Bool := match sc.names.lookup x with
 | some .local => true
 | some .cell => true
 | _ => false
theorem loc_of {sc : Scope} {x : Str} (h : locB sc x = true) : Loc sc x := by
 unfold locB at h
 split at h
 ·rename_i q; exact .inl q
 ·rename_i q; exact .inr q
 ·cases h
def nmB (x : Str) : Bool := !(x == ("__debug__" : Str)) && !(x == ("__classdict__" : Str))
structure NmOk (N : List Str) (sc : Scope) (us : List Nat) : Prop where
 vis : (us.all fun i => match N[i]? with
  | some x => visB sc x && nmB x
  | none => false) = true
def tabIsa : List (Str × Bool) → ECls → Option Bool
 | [], _ => none
 | (x, b) :: r, .own y => if y = x then some b else tabIsa r (.own y)
 | _ :: _, .blt _ => none
theorem tab_nil {K : Frag} {ca : Str → Addr} {cv : Value} : ∀ e b, tabIsa [] e = some b → PySem.W.exmOne K (ecV ca e) cv = some b := fun e b h => by cases h
theorem tab_cons {K : Frag} {ca : Str → Addr} {cv : Value} {x : Str} {b0 : Bool} {r : List (Str × Bool)} (h0 : PySem.W.exmOne K (.ref (ca x)) cv = some b0) (hr : ∀ e b, tabIsa r e = some b → PySem.W.exmOne K (ecV ca e) cv = some b) : ∀ e b, tabIsa ((x, b0) :: r) e = some b → PySem.W.exmOne K (ecV ca e) cv = some b := fun e b h => by
 cases e with
 | own y =>
  unfold tabIsa at h
  split at h
  ·rename_i e
   cases h
   subst e
   exact h0
  ·exact hr _ _ h
 | blt n => cases h
theorem u64 {k : Nat} {A : Around} (h : Room k A) : A.units + 64 < cLine := by have := h.un; omega
theorem u65 {k : Nat} {A : Around} (h : Room k A) : A.units + 65 < cLine := by have := h.un; omega
theorem u66 {k : Nat} {A : Around} (h : Room k A) : A.units + 66 < cLine := by have := h.un; omega
theorem gl_of {X : Cx} {x : Str} (h : X.env.scope.names.lookup x = some .globalImplicit) : Gl X x := h
theorem ground {P : Program} {w : World} {K : Frag} {mg : Str → Option Value} {base : Heap} {k : Nat} {f : Addr} {fd : FuncData} {ps : List Str} {sp sp' : Sp} (G : FnOk P w K mg base (CXR rg P w) k f fd ps sp) (h : ∀ vs H Q E, sp' vs H Q E → sp vs H Q fun _ _ _ => False) : FnOk P w K mg base (fun _ _ _ _ _ _ => False) k f fd ps sp' where
 len := fun vs H Q E q => G.len vs H Q _ (h vs H Q E q)
 run := fun A outer s H args us vs Q E hr he hb hv q => codeAny_mono (G.run A outer s H args us vs Q _ hr he hb hv (h vs H Q E q)) fun r s' z => by
  cases r with
  | ok fl => cases fl <;> exact z
  | error e =>
   exact cxr_no z
def scrD (ns : List Int) : D := .dict [(.none, .list (ns.map .int))]
@[simp] theorem notE_ints (ns : List Int) : notE (ns.map PyData.int) = true := by cases ns <;> rfl
theorem rpAll_ints {K : Frag} {F : Hp} : ∀ ns : List Int, RpAll K F (ns.map V.int) (ns.map PyData.int)
 | [] => .nil
 | n :: ns => .cons (.int n) (rpAll_ints ns)
def spLaw (K : Frag) : Sp := fun vs H Q _ => ∃ (a : Addr) (ns : List Int), vs = [.ref a] ∧ ns.length ≤ 63 ∧ SqL K H a (ns.map V.int) ∧ ∀ H', Q (.bl true) H'
theorem law_in {K : Frag} {ca : Str → Addr} {f : Fn} (hf : ∀ ns : List Int, ns.length ≤ 63 → ∃ outs, f [.d (scrD ns)] = .ok (.d (.bool true)) outs) (vs : List V) (H : Hp) (Q : VK) (E : XK) (h : spLaw K vs H Q E) : spF K ca f vs H Q fun _ _ _ => False := by
 obtain ⟨a, ns, rfl, hl, hS, q⟩ := h
 refine ⟨H, [.d (scrD ns)], [], Same.refl _, .so (A := []) (.d (.scr (notE_ints ns) hS (rpAll_ints ns))) .nil, .nil, fun p hp => by simp at hp, ?_⟩
 obtain ⟨outs, e⟩ := hf ns hl
 rw [e]
 intro F' H' v A B _ _ r _ _
 cases r with
 | d r => cases r; exact q H'
end DL
end
section
namespace DL
variable [DL.TheW]
open PySem PySem.Spec PyProof.Rows L2
section
variable {α β : Type} {ρ : Env} {ξ : Exc}
@[simp] theorem bind_ok (a : α) (ρ : Env) (k : α → Env → Res β) : (Res.ok a ρ).bind k = k a ρ := rfl
@[simp] theorem bind_ex (ξ : Exc) (ρ : Env) (k : α → Env → Res β) : (Res.ex ξ ρ : Res α).bind k = .ex ξ ρ := rfl
@[simp] theorem bind_bad (k : α → Env → Res β) : (Res.bad : Res α).bind k = .bad := rfl
@[simp] theorem bindN_ok (a : α) (ρ : Env) (k : α → Env → Res β) : (Res.ok a ρ).bindN k = k a ρ := rfl
@[simp] theorem ofO_some (a : α) (ρ : Env) : ofO (some a) ρ = .ok a ρ := rfl
@[simp] theorem ofO_none (ρ : Env) : (ofO none ρ : Res α) = .bad := rfl
@[simp] theorem mVar_d (i : Nat) (ρ : Env) : mVar i ρ = match ρ[i]? with
 | some (some (.d x)) => .ok x ρ
 | _ => .bad := rfl
@[simp] theorem mC_d (x : D) (ρ : Env) : mC x ρ = .ok x ρ := rfl
@[simp] theorem mLook_d (i : Nat) (ρ : Env) : mLook i ρ = match ρ[i]? with
 | some (some o) => ofO o.look ρ
 | _ => .bad := rfl
@[simp] theorem look_d (x : D) : (OV.d x).look = some x := rfl
@[simp] theorem look_l (x : List D) : (OV.lst x).look = some (.list x) := rfl
@[simp] theorem frz_d (x : D) : (OV.d x).frz = some x := rfl
@[simp] theorem frz_l (x : List D) : (OV.lst x).frz = some (.list x) := rfl
@[simp] theorem mBin_d (g : D → D → Option D) (a b : M D) (ρ : Env) : mBin g a b ρ = (a ρ).bind fun x ρ1 => (b ρ1).bind fun y ρ2 => ofO (g x y) ρ2 := rfl
@[simp] theorem mB_d (m : M D) (ρ : Env) : mB m ρ = (m ρ).bind fun x ρ1 => match x with
 | .bool b => .ok b ρ1
 | _ => .bad := rfl
@[simp] theorem mChain_d (g g' : D → D → Option D) (a b d : M D) (ρ : Env) : mChain g g' a b d ρ = (a ρ).bind fun x ρ1 => (b ρ1).bind fun y ρ2 => match g x y with
 | some (.bool true) => (d ρ2).bind fun z ρ3 => ofO (g' y z) ρ3
 | some (.bool false) => .ok (.bool false) ρ2
 | _ => .bad := rfl
@[simp] theorem mAnd_d (a b : M Bool) (ρ : Env) : mAnd a b ρ = (a ρ).bind fun x ρ1 => if x = true then b ρ1 else .ok false ρ1 := rfl
@[simp] theorem mOr_d (a b : M Bool) (ρ : Env) : mOr a b ρ = (a ρ).bind fun x ρ1 => if x = true then .ok true ρ1 else b ρ1 := rfl
@[simp] theorem mNot_d (a : M Bool) (ρ : Env) : mNot a ρ = (a ρ).bind fun x ρ1 => .ok (!x) ρ1 := rfl
@[simp] theorem mAndV_d (a b : M D) (ρ : Env) : mAndV a b ρ = (a ρ).bind fun x ρ1 => match x with
 | .bool true => b ρ1
 | .bool false => .ok (.bool false) ρ1
 | _ => .bad := rfl
@[simp] theorem mOrV_d (a b : M D) (ρ : Env) : mOrV a b ρ = (a ρ).bind fun x ρ1 => match x with
 | .bool true => .ok (.bool true) ρ1
 | .bool false => b ρ1
 | _ => .bad := rfl
@[simp] theorem mNotV_d (a : M D) (ρ : Env) : mNotV a ρ = (a ρ).bind fun x ρ1 => match x with
 | .bool b => .ok (.bool (!b)) ρ1
 | _ => .bad := rfl
@[simp] theorem mIf_d (t : M Bool) (a b : M α) (ρ : Env) : mIf t a b ρ = (t ρ).bind fun x ρ1 => if x = true then a ρ1 else b ρ1 := rfl
@[simp] theorem mNil_d (ρ : Env) : mNil ρ = .ok [] ρ := rfl
@[simp] theorem mCons_d (a : M D) (r : M (List D)) (ρ : Env) : mCons a r ρ = (a ρ).bind fun x ρ1 => (r ρ1).bind fun xs ρ2 => .ok (x :: xs) ρ2 := rfl
@[simp] theorem mTup_d (m : M (List D)) (ρ : Env) : mTup m ρ = (m ρ).bind fun xs ρ1 => .ok (.tuple xs) ρ1 := rfl
@[simp] theorem mLst_d (m : M (List D)) (ρ : Env) : mLst m ρ = (m ρ).bind fun xs ρ1 => .ok (.lst xs) ρ1 := rfl
@[simp] theorem mLstF_d (m : M (List D)) (ρ : Env) : mLstF m ρ = (m ρ).bind fun xs ρ1 => .ok (.list xs) ρ1 := rfl
@[simp] theorem mFrz_d (m : M OV) (ρ : Env) : mFrz m ρ = (m ρ).bind fun o ρ1 => ofO o.frz ρ1 := rfl
@[simp] theorem mFrzV_d (i : Nat) (ρ : Env) : mFrzV i ρ = match ρ[i]? with
 | some (some o) => match o.frz with
  | some x => .ok x (ρ.set i (some (.d x)))
  | none => .bad
 | _ => .bad := rfl
@[simp] theorem mMove_d (i : Nat) (ρ : Env) : mMove i ρ = match ρ[i]? with
 | some (some o) => .ok o (ρ.set i none)
 | _ => .bad := rfl
@[simp] theorem mD_d (m : M D) (ρ : Env) : mD m ρ = (m ρ).bind fun x ρ1 => .ok (.d x) ρ1 := rfl
@[simp] theorem gNil_d (ρ : Env) : gNil ρ = .ok [] ρ := rfl
@[simp] theorem gD_d (a : M D) (r : M (List AV)) (ρ : Env) : gD a r ρ = (a ρ).bind fun x ρ1 => (r ρ1).bind fun xs ρ2 => .ok (.d x :: xs) ρ2 := rfl
@[simp] theorem gO_d (i : Nat) (r : M (List AV)) (ρ : Env) : gO i r ρ = match ρ[i]? with
 | some (some _) => (r ρ).bind fun xs ρ2 => .ok (.o i :: xs) ρ2
 | _ => .bad := rfl
@[simp] theorem mCall_d (f : Fn) (m : M (List AV)) (ρ : Env) : mCall f m ρ = (m ρ).bind fun avs ρ1 => callEnd f avs (gather ρ1 avs) := rfl
@[simp] theorem gather_nil (ρ : Env) : gather ρ [] = some ([], ρ) := rfl
@[simp] theorem gather_d (ρ : Env) (x : D) (r : List AV) : gather ρ (.d x :: r) = (gather ρ r).map fun z => (.d x :: z.1, z.2) := rfl
@[simp] theorem gather_o (ρ : Env) (i : Nat) (r : List AV) : gather ρ (.o i :: r) = match ρ[i]? with
 | some (some o) => (gather (ρ.set i none) r).map fun z => (o :: z.1, z.2)
 | _ => none := rfl
@[simp] theorem callEnd_some (f : Fn) (avs : List AV) (os : List OV) (ρ : Env) : callEnd f avs (some (os, ρ)) = callRf avs ρ (f os) := rfl
@[simp] theorem callRf_ok (avs : List AV) (ρ : Env) (r : OV) (outs : Env) : callRf avs ρ (.ok r outs) = .ok r (putBack ρ avs outs) := rfl
@[simp] theorem callRf_ex (avs : List AV) (ρ : Env) (ξ : Exc) : callRf avs ρ (.ex ξ) = .ex ξ ρ := rfl
@[simp] theorem putBack_nil (ρ outs : Env) : putBack ρ [] outs = ρ := by cases outs <;> rfl
@[simp] theorem putBack_d (ρ : Env) (x : D) (r : List AV) (o : Option OV) (s : Env) : putBack ρ (.d x :: r) (o :: s) = putBack ρ r s := rfl
@[simp] theorem putBack_o (ρ : Env) (i : Nat) (r : List AV) (o : Option OV) (s : Env) : putBack ρ (.o i :: r) (o :: s) = putBack (ρ.set i o) r s := rfl
@[simp] theorem sSeq_d (a b : M Fl) (ρ : Env) : sSeq a b ρ = (a ρ).bind fun f ρ1 => match f with
 | .nx => b ρ1
 | f => .ok f ρ1 := rfl
@[simp] theorem sNil_d (ρ : Env) : sNil ρ = .ok .nx ρ := rfl
@[simp] theorem sSet_d (i : Nat) (m : M D) (ρ : Env) : sSet i m ρ = (m ρ).bind fun x ρ1 => .ok .nx (ρ1.set i (some (.d x))) := rfl
@[simp] theorem sSetO_d (i : Nat) (m : M OV) (ρ : Env) : sSetO i m ρ = (m ρ).bind fun o ρ1 => .ok .nx (ρ1.set i (some o)) := rfl
@[simp] theorem sRet_d (m : M OV) (ρ : Env) : sRet m ρ = (m ρ).bind fun o ρ1 => .ok (.rt o) ρ1 := rfl
@[simp] theorem sDrop_d (m : M OV) (ρ : Env) : sDrop m ρ = (m ρ).bind fun _ ρ1 => .ok .nx ρ1 := rfl
@[simp] theorem mF1_d (g : D → Option D) (m : M D) (ρ : Env) : mF1 g m ρ = (m ρ).bind fun x ρ1 => ofO (g x) ρ1 := rfl
@[simp] theorem mFN_d (g : D → Option (List D)) (m : M D) (ρ : Env) : mFN g m ρ = (m ρ).bind fun x ρ1 => ofO (g x) ρ1 := rfl
@[simp] theorem bNo_d (ρ : Env) : bNo ρ = .ok none ρ := rfl
@[simp] theorem bTo_d (m : M D) (ρ : Env) : bTo m ρ = (m ρ).bind fun x ρ1 => match x with
 | .int i => .ok (some i) ρ1
 | _ => .bad := rfl
@[simp] theorem mSl_d (a : M D) (l u : M (Option Int)) (ρ : Env) : mSl a l u ρ = (a ρ).bind fun x ρ1 => (l ρ1).bind fun i ρ2 => (u ρ2).bind fun j ρ3 => ofO (slD x i j) ρ3 := rfl
@[simp] theorem mItems_d (m : M D) (ρ : Env) : mItems m ρ = (m ρ).bind fun x ρ1 => ofO (itemsD x) ρ1 := rfl
@[simp] theorem mRange1_d (a : M D) (ρ : Env) : mRange1 a ρ = (a ρ).bind fun x ρ1 => ofO (range1 x) ρ1 := rfl
@[simp] theorem mRange2_d (a b : M D) (ρ : Env) : mRange2 a b ρ = (a ρ).bind fun x ρ1 => (b ρ1).bind fun y ρ2 => ofO (range2 x y) ρ2 := rfl
@[simp] theorem mZip_d (a b : M D) (ρ : Env) : mZip a b ρ = (a ρ).bind fun x ρ1 => (b ρ1).bind fun y ρ2 => ofO (zipD x y) ρ2 := rfl
@[simp] theorem mEnum_d (a : M D) (ρ : Env) : mEnum a ρ = (a ρ).bind fun x ρ1 => ofO (enumO x) ρ1 := rfl
@[simp] theorem tName_d (i : Nat) (x : D) (ρ : Env) : tName i x ρ = some (ρ.set i (some (.d x))) := rfl
@[simp] theorem tsNil_d (ρ : Env) : tsNil [] ρ = some ρ := rfl
@[simp] theorem tsCons_d (t : D → Env → Option Env) (u : List D → Env → Option Env) (x : D) (r : List D) (ρ : Env) : tsCons t u (x :: r) ρ = (t x ρ).bind fun ρ1 => u r ρ1 := rfl
@[simp] theorem tTup_d (n : Nat) (u : List D → Env → Option Env) (xs : List D) (ρ : Env) : tTup n u (.tuple xs) ρ = if xs.length = n then u xs ρ else none := rfl
@[simp] theorem forGo_nil (tg : D → Env → Option Env) (b : M Fl) (ρ : Env) : forGo tg b [] ρ = .ok .nx ρ := rfl
theorem forGo_cons (tg : D → Env → Option Env) (b : M Fl) (x : D) (xs : List D) (ρ : Env) : forGo tg b (x :: xs) ρ = match tg x ρ with
  | none => .bad
  | some ρ1 => (b ρ1).bind fun f ρ2 => match f with
   | .nx => forGo tg b xs ρ2
   | .ct => forGo tg b xs ρ2
   | .bk => .ok .nx ρ2
   | .rt o => .ok (.rt o) ρ2 := rfl
@[simp] theorem sFor_d (it : M (List D)) (tg : D → Env → Option Env) (b : M Fl) (ρ : Env) : sFor it tg b ρ = (it ρ).bind fun xs ρ1 => forGo tg b xs ρ1 := rfl
@[simp] theorem mLc_d (vs : List Nat) (it : M (List D)) (t : D → Env → Option Env) (tst : M Bool) (e : M D) (ρ : Env) : mLc vs it t tst e ρ = (it ρ).bind fun xs ρ1 => if dataAt ρ1 vs = true then (lcGo vs t tst e xs (wipeE ρ1 vs)).bindN fun ys ρ2 => .ok ys (backE ρ1 vs ρ2) else .bad := rfl
@[simp] theorem mYes_d (ρ : Env) : mYes ρ = .ok true ρ := rfl
@[simp] theorem mLM_d (i : Nat) (g : List D → List D → Option (List D × D)) (ms : M (List D)) (ρ : Env) : mLM i g ms ρ = match ρ[i]? with
 | some (some (.lst _)) => (ms ρ).bind fun as ρ1 => match ρ1[i]? with
  | some (some (.lst xs)) => match g xs as with
   | some z => .ok z.2 (ρ1.set i (some (.lst z.1)))
   | none => .bad
  | _ => .bad
 | _ => .bad := rfl
@[simp] theorem mExtend_d (i : Nat) (m : M D) (ρ : Env) : mExtend i m ρ = match ρ[i]? with
 | some (some (.lst _)) => (m ρ).bind fun a ρ1 => match ρ1[i]? with
  | some (some (.lst xs)) => match extendD xs a with
   | some z => .ok .none (ρ1.set i (some (.lst z)))
   | none => .bad
  | _ => .bad
 | _ => .bad := rfl
@[simp] theorem sPut_d (i : Nat) (mi mv : M D) (ρ : Env) : sPut i mi mv ρ = (mv ρ).bind fun v ρ1 => match ρ1[i]? with
 | some (some (.lst _)) => (mi ρ1).bind fun k ρ2 => match ρ2[i]?, k with
  | some (some (.lst xs)), .int j => match ixN xs.length j with
   | some n => .ok .nx (ρ2.set i (some (.lst (xs.set n v))))
   | none => .bad
  | _, _ => .bad
 | _ => .bad := rfl
@[simp] theorem sPar_d (i j : Nat) (m : M (List D)) (ρ : Env) : sPar i j m ρ = (m ρ).bind fun xs ρ1 => match xs with
 | [x, y] => .ok .nx ((ρ1.set i (some (.d x))).set j (some (.d y)))
 | _ => .bad := rfl
@[simp] theorem sRaise_d (x : Str) (ρ : Env) : sRaise x ρ = .ex ⟨.own x, []⟩ ρ := rfl
@[simp] theorem mSetOf_d (m : M D) (ρ : Env) : mSetOf m ρ = (m ρ).bind fun x ρ1 => ofO (textsD x) ρ1 := rfl
@[simp] theorem mSortK_d (m : M (List Str)) (ρ : Env) : mSortK m ρ = (m ρ).bind fun l ρ1 => .ok ((sortS (onceS l)).map .str) ρ1 := rfl
@[simp] theorem mLenK_d (m : M (List Str)) (ρ : Env) : mLenK m ρ = (m ρ).bind fun l ρ1 => .ok (.int ((onceS l).length : Nat)) ρ1 := rfl
@[simp] theorem wipeE_nil (ρ : Env) : wipeE ρ [] = ρ := rfl
@[simp] theorem wipeE_cons (ρ : Env) (v : Nat) (vs : List Nat) : wipeE ρ (v :: vs) = (wipeE ρ vs).set v none := rfl
end
@[simp] theorem add_i (i j : Int) : addD (.int i) (.int j) = some (.int (i + j)) := rfl
@[simp] theorem sub_i (i j : Int) : subD (.int i) (.int j) = some (.int (i - j)) := rfl
theorem mul_i {i j : Int} (h : CMulW i j) : mulD (.int i) (.int j) = some (.int (i * j)) := if_pos h
theorem div_i {i j : Int} (h : CDivW i j) : divD (.int i) (.int j) = some (.int (i / j)) := if_pos h
theorem mod_i {i j : Int} (h : 0 < j) : modD (.int i) (.int j) = some (.int (i % j)) := if_pos h
theorem CDivW.of {i j : Int} (h : 0 < j) (h2 : j < 2 ^ 900) : CDivW i j := ⟨h, by
 have : j.natAbs < 2 ^ 900 := by omega
 have h0 : j.natAbs ≠ 0 := by omega
 have := (Nat.log2_lt h0).mpr this
 omega⟩
theorem log_lt {n k : Nat} (h : n < 2 ^ k) (hk : 0 < k) : n.log2 < k := by
 by_cases h0 : n = 0
 ·subst h0; simpa using hk
 ·exact (Nat.log2_lt h0).mpr h
theorem eq_i (i j : Int) : eqD (.int i) (.int j) = some (.bool (decide (i = j))) := by
 have h : eqD (.int i) (.int j) = if SeqAt.shaped (.int i) = true ∧ SeqAt.shaped (.int j) = true then some (.bool (PyData.eqv (.int i) (.int j))) else none := rfl
 rw [h, if_pos ⟨rfl, rfl⟩]
 have e : (i == j) = decide (i = j) := by by_cases z : i = j <;> simp [z]
 simp [PyData.eqv, e]
theorem mul_b {i j : Int} (h : i.natAbs < 2 ^ 900) (h2 : j.natAbs < 2 ^ 900) : mulD (.int i) (.int j) = some (.int (i * j)) := mul_i (by
 have a := log_lt h (by decide)
 have b := log_lt h2 (by decide)
 show i.natAbs.log2 + j.natAbs.log2 < 1000000
 omega)
theorem atI_nat {α : Type} {xs : List α} {i : Int} (h0 : 0 ≤ i) (h1 : i < xs.length) : ∃ x, atI xs i = some x ∧ xs[i.toNat]? = some x := by
 have hl : i.toNat < xs.length := by omega
 refine ⟨xs[i.toNat], ?_, by simp [hl]⟩
 unfold atI ixN
 rw [if_pos h0, if_pos h1]
 simp [hl]
end DL
end
section
namespace DL
variable [DL.TheW]
open PySem PySem.Spec PyProof.Rows L2 PySem.W
section
variable {prog : Program} {w : World} {A : Around} {R : Result → Shared → Prop} {s : Shared} {e tg iter : Expr} {k : Nat} {ifs : List Expr} {it acc : Value} {env : PySem.Env} {body : Sem Unit}
end
structure Cl where
 wi : TI
 g : TG
 tt : TT
 vs : List Nat
section
variable {X : Cx} {s0 : Shared} {H0 : Hp} {scope : Scope} {ce : PySem.Env} {ex : List Addr}
end
end DL
end
section
namespace DL
variable [DL.TheW]
open PySem PySem.Spec PyProof.Rows L2 PySem.W
def SKO (P : Program) (w : World) (a : Addr) (ks : List Str) : HO := .ext fun h => SK (strKind P w) h a ks
section
variable {X : Cx} {pins : List (Addr × Obj)} {σ : Sl} {H : Hp} {s : Shared} {D : Addr} {ks : List Str} {Q E : Value → Shared → Prop}
end
structure PSk (X : Cx) (e : Expr) (t : Sl → Hp → (Addr → List Str → Hp → Prop) → Prop) : Prop where
 run : ∀ (pins : List (Addr × Obj)) (s : Shared) (σ : Sl) (H : Hp) (Q : Addr → List Str → Hp → Prop), L2.Inv X pins σ H s → t σ H Q →
  wpAny (model X.prog X.w) X.A (eval e X.env) (fun v s' => ∃ a ks H', v = Value.ref a ∧ H' a = some (SKO X.prog X.w a ks) ∧ L2.Inv X pins σ H' s' ∧ Q a ks H') X.xe s
section
variable {X : Cx} {s0 : Shared} {H0 : Hp} {scope : Scope} {ce : PySem.Env} {ex : List Addr} {elt : Expr} {D : Addr} {t : TE}
end
section
variable {X : Cx} {elt tg iter : Expr} {ifs : List Expr} {rest : List Comprehension} {scope : Scope} {own : List (Str × Nat)} {pos : Pos} {wi : TI} {g : TG} {tt : TT} {vs' : List Nat}
end
end DL
end
section
namespace DL
variable [DL.TheW]
open PySem PySem.Spec PyProof.Rows L2 PySem.W
variable {gx : Expr}
structure FC where
 vs : List Nat
 t : D → Env → Option Env
 tst : M Bool
def cLoop (c : FC) (b : M (List D)) : List D → M (List D)
 | [] => fun ρ => .ok [] ρ
 | x :: xs => fun ρ => match c.t x ρ with
  | none => .bad
  | some ρ1 => (c.tst ρ1).bindN fun k ρ2 => if k = true then (b ρ2).bindN fun ys ρ3 => (cLoop c b xs (wipeE ρ3 c.vs)).bindN fun zs ρ4 => .ok (ys ++ zs) ρ4 else cLoop c b xs (wipeE ρ2 c.vs)
def cIn (c : FC) (it : M (List D)) (b : M (List D)) : M (List D) := fun ρ => (it ρ).bindN fun xs ρ1 => cLoop c b xs (wipeE ρ1 c.vs)
def cEnd (e : M D) : M (List D) := fun ρ => (e ρ).bindN fun y ρ1 => .ok [y] ρ1
def mLcN (c : FC) (it : M (List D)) (b : M (List D)) : M (List D) := fun ρ => (it ρ).bind fun xs ρ1 => if dataAt ρ1 c.vs = true then (cLoop c b xs (wipeE ρ1 c.vs)).bindN fun ys ρ2 => .ok ys (backE ρ1 c.vs ρ2) else .bad
section
variable {K : Frag} {c : Ct} {F H F' H' F0 H0 : Hp} {σ σ' σ0 : Sl} {ρ ρ' : Env} {O O' O0 : List Addr} {fb fb2 : List Nat} {D0 : Addr}
end
structure Gath (Hd : Hp → HO → List D → Prop) (F H : Hp) (D0 : Addr) (O : List Addr) (acc : List D) : Prop where
 at_ : ∃ o, H D0 = some o ∧ Hd F o acc
 nf : F D0 = none
 no : D0 ∉ O
section
variable {K : Frag} {c : Ct} {Hd : Hp → HO → List D → Prop} {F H F' H' F0 H0 : Hp} {D0 : Addr} {O O' O0 : List Addr} {σ σ' : Sl} {ρ' : Env} {acc : List D} {fb : List Nat}
end
section
variable {K : Frag} {c : Ct} {Hd : Hp → HO → List D → Prop} {cap : Nat} {pt pu : Bool} {Hs : Hp} {D0 : Addr} {n : Nat} {fb fb2 vs2 : List Nat} {b : M (List D)} {cl : FC}
end
end DL
end
section
namespace DL
variable [DL.TheW]
open PySem PySem.Spec PyProof.Rows L2 PySem.W
variable {gx : Expr}
section
variable {X : Cx} {s0 : Shared} {H0 : Hp} {scope : Scope} {ce : PySem.Env} {ex : List Addr} {elt : Expr} {D : Addr} {t : TE}
end
section
variable {X : Cx} {elt tg iter : Expr} {ifs : List Expr} {rest : List Comprehension} {scope : Scope} {own : List (Str × Nat)} {pos : Pos} {wi : TI} {g : TG} {tt : TT} {vs' : List Nat}
end
section
variable {K : Frag} {c : Ct} {F1 H1 F2 H' : Hp} {σ : Sl} {ρ1 ρ2 : Env} {O1 O2 R : List Addr} {vs fb : List Nat} {D0 : Addr} {o : HO}
end
section
variable {X : Cx} {c : Ct} {pe pu : Bool} {me : M D} {fb : List Nat} {Hs : Hp} {D0 : Addr} {n : Nat}
def mTxt (m : M D) : M D := fun ρ => (m ρ).bindN fun x ρ1 => match x with
 | .str z => .ok (.str z) ρ1
 | _ => .bad
end
section
variable {X : Cx} {c : Ct} {pi pt pu : Bool} {mi : M (List D)} {cl : FC} {b : M (List D)} {fb fb2 vs2 : List Nat} {n : Nat}
def mSetC (m : M (List D)) : M (List Str) := fun ρ => (m ρ).bind fun ys ρ1 => if ys.length ≤ scanBound - 2 then ofO (allStr ys) ρ1 else .bad
end
end DL
end
section
namespace DL
variable [DL.TheW]
open PySem PySem.Spec PyProof.Rows L2 PySem.W
section
variable {X : Cx} {c : Ct} {tg iter tg1 iter1 tg2 iter2 elt : Expr} {pos : Pos} {pi pt pi1 pt1 pi2 pt2 pe : Bool} {mi mi1 mi2 : M (List D)} {t t1 t2 : D → Env → Option Env} {tst tst1 tst2 : M Bool} {me : M D} {scope : Scope} {own : List (Str × Nat)} {ifs ifs1 ifs2 : List Expr} {fb fb1 fb2 vs1 vs2 : List Nat}
def mLc2 (vs : List Nat) (it : M (List D)) (t : D → Env → Option Env) (tst : M Bool) (vs1 : List Nat) (it1 : M (List D)) (t1 : D → Env → Option Env) (tst1 : M Bool) (e : M D) : M (List D) :=
 fun ρ => (mLcN ⟨vs, t, tst⟩ it (cIn ⟨vs1, t1, tst1⟩ it1 (cEnd e)) ρ).bind fun ys ρ1 => if ys.length ≤ sizeLine then .ok ys ρ1 else .bad
end
end DL
end
section
namespace DL
variable [DL.TheW]
open PySem PySem.Spec PyProof.Rows L2 PySem.W
def mPairE (k v : M D) : M D := fun ρ => (k ρ).bindN fun x ρ1 => (v ρ1).bindN fun y ρ2 => match keyOf x with
 | some _ => .ok (.tuple [x, y]) ρ2
 | none => .bad
def putP (kds : KD) (p : D) : KD := match p with
 | .tuple [x, y] => match keyOf x with
  | some j => putKD kds j y
  | none => kds
 | _ => kds
def kdsOf (acc : List D) : KD := acc.foldl putP []
section
variable {X : Cx} {c : Ct} {pk pv pu : Bool} {mk mv : M D} {fb : List Nat} {Hs : Hp} {D0 : Addr} {n : Nat}
end
def mDc (vs : List Nat) (it : M (List D)) (t : D → Env → Option Env) (tst : M Bool) (k v : M D) : M KD := fun ρ => (mLcN ⟨vs, t, tst⟩ it (cEnd (mPairE k v)) ρ).bind fun ys ρ1 => if ys.length ≤ sizeLine then .ok (kdsOf ys) ρ1 else .bad
def mDcO (m : M KD) : M OV := fun ρ => (m ρ).bind fun l ρ1 => .ok (.dct (l.map fun p => (kD p.1, p.2))) ρ1
def mDcF (m : M KD) : M D := fun ρ => (m ρ).bind fun l ρ1 => .ok (dK l) ρ1
section
variable {X : Cx} {c : Ct} {tg iter kx vx : Expr} {pos : Pos} {pi pt pk pv : Bool} {mi : M (List D)} {t : D → Env → Option Env} {tst : M Bool} {mk mv : M D} {scope : Scope} {own : List (Str × Nat)} {ifs : List Expr} {fb : List Nat}
end
def itemsP : D → Option (List D)
 | .dict kvs => match cells kvs with
  | some _ => none
  | none => some (kvs.map fun p => .tuple [p.1, p.2])
 | _ => none
def mItemsP (a : M D) : M (List D) := fun ρ => (a ρ).bind fun x ρ1 => ofO (itemsP x) ρ1
section
variable {X : Cx} {c : Ct} {e : Expr} {pu : Bool} {me : M D} {elts : List Expr} {kk : Nat} {tpos apos cpos : Pos}
end
end DL
end
section
namespace DL
variable [DL.TheW]
open PySem PySem.Spec PyProof.Rows L2 PySem.W
def range3 (x y z : D) : Option (List D) := match x, y, z with
 | .int i, .int j, .int k => if 0 < k ∧ k < 2 ^ 20 ∧ -(2 ^ 20) < i ∧ i < 2 ^ 20 ∧ -(2 ^ 20) < j ∧ j < 2 ^ 20 then some ((List.range ((j - i + k - 1) / k).toNat).map fun m => .int (i + (m : Nat) * k)) else none
 | _, _, _ => none
def mRange3 (a b c : M D) : M (List D) := fun ρ => (a ρ).bind fun x ρ1 => (b ρ1).bind fun y ρ2 => (c ρ2).bind fun z ρ3 => ofO (range3 x y z) ρ3
def enumA : D → Option (List D)
 | .list xs => some (enumD xs)
 | .tuple xs => some (enumD xs)
 | _ => none
def mEnumA (a : M D) : M (List D) := fun ρ => (a ρ).bind fun x ρ1 => ofO (enumA x) ρ1
def mSetOr (a b : M (List Str)) : M (List Str) := fun ρ => (a ρ).bind fun l ρ1 => (b ρ1).bind fun m ρ2 => if l.length + m.length ≤ 30 then .ok (l ++ m) ρ2 else .bad
section
variable {α β : Type}
@[simp] theorem mRange3_d (a b c : M D) (ρ : Env) : mRange3 a b c ρ = (a ρ).bind fun x ρ1 => (b ρ1).bind fun y ρ2 => (c ρ2).bind fun z ρ3 => ofO (range3 x y z) ρ3 := rfl
@[simp] theorem mEnumA_d (a : M D) (ρ : Env) : mEnumA a ρ = (a ρ).bind fun x ρ1 => ofO (enumA x) ρ1 := rfl
@[simp] theorem mSetOr_d (a b : M (List Str)) (ρ : Env) : mSetOr a b ρ = (a ρ).bind fun l ρ1 => (b ρ1).bind fun m ρ2 => if l.length + m.length ≤ 30 then .ok (l ++ m) ρ2 else .bad := rfl
@[simp] theorem mItemsP_d (a : M D) (ρ : Env) : mItemsP a ρ = (a ρ).bind fun x ρ1 => ofO (itemsP x) ρ1 := rfl
@[simp] theorem mDcF_d (m : M KD) (ρ : Env) : mDcF m ρ = (m ρ).bind fun l ρ1 => .ok (dK l) ρ1 := rfl
@[simp] theorem mDcO_d (m : M KD) (ρ : Env) : mDcO m ρ = (m ρ).bind fun l ρ1 => .ok (.dct (l.map fun p => (kD p.1, p.2))) ρ1 := rfl
@[simp] theorem mSetC_d (m : M (List D)) (ρ : Env) : mSetC m ρ = (m ρ).bind fun ys ρ1 => if ys.length ≤ scanBound - 2 then ofO (allStr ys) ρ1 else .bad := rfl
@[simp] theorem bindN_some (a : α) (ρ : Env) (k : α → Env → Res β) : (Res.ok a ρ).bindN k = k a ρ := rfl
end
end DL
end
section
namespace DL
variable [DL.TheW]
open PySem PySem.Spec PyProof.Rows L2 PySem.W
open PySem.AutoSeq1 (wpAny_loadPart')
theorem enum_newT (l : Addr) (its : Array Value) (n : Nat) (dct : Option Addr) (sl : Array (Option Value)) : Meets (Builtin.«enumerate.__new__» ⟨[.type "enumerate", .ref l], []⟩) (fun _ R s => s.heap.get? l = some { cls := .type "tuple", dict := dct, data := .seq its n, slots := sl } ∧
   R (.ok (.ret (.ref (s.heap.push { cls := .type "tuple_iterator", data := .fields #[.ref l, .int 0 0] }).objs.size)))
    { s with heap := (s.heap.push { cls := .type "tuple_iterator", data := .fields #[.ref l, .int 0 0] }).push { cls := .type "enumerate", data := .fields #[.none, .bool false, .ref s.heap.objs.size, rawInt 0, .none, .none] } }) :=
 .of_wp fun prog w A R s h => by
  obtain ⟨hp, g, d, tk, os⟩ := s
  obtain ⟨hl, h⟩ := h
  have hsub := PySem.sub_enumerate
  have hL : Heap.IsTuple (Shared.heap ⟨hp, g, d, tk, os⟩) l its := ⟨_, hl, rfl, n, rfl⟩
  wp_walk using wpAny_loadPart' hl
  refine wpAny_stack_any fun st => wpAny_pure ?_
  split
  ·rename_i c _ _ _ _ _
   cases (c == Value.type "enumerate") <;> (wp_walk using wpAny_loadPart' hl, wpAny_pyIter_tuple hL; exact ⟨_, rfl, h⟩)
  ·wp_walk using wpAny_loadPart' hl, wpAny_pyIter_tuple hL
   exact ⟨_, rfl, h⟩
section
variable {prog : Program} {w : World} {A : Around} {E : Value → Shared → Prop} {s : Shared}
theorem call_enumT {l : Addr} {its : Array Value} {Q : Value → Shared → Prop} (hL : s.heap.IsTuple l its)
  (h : ∀ h', IsEnum h' (s.heap.objs.size + 1) s.heap.objs.size 0 .none → h'.IsTupleIter s.heap.objs.size l 0 → (∀ b o, s.heap.get? b = some o → h'.get? b = some o) → Q (.ref (s.heap.objs.size + 1)) { s with heap := h' }) :
  wpAny (model prog w) A (call (.type "enumerate") [.ref l]) Q E s := by
 obtain ⟨⟨c, dct, dt, sl⟩, hl, hc, n, hd⟩ := hL
 simp only at hc hd
 subst hc hd
 refine callType_new F.called_enumerate (by decide) (F.typeCall_enumerate_1 _) (F.newCall_enumerate_1 _) (fun obj => F.args_object_init_2 obj _) F.entry_enumerate_new (enum_newT l its n dct sl) ⟨hl, ?_⟩
 generalize hz1 : s.heap.push { cls := .type "tuple_iterator", data := .fields #[.ref l, .int 0 0] } = h1
 have hz : h1.objs.size = s.heap.objs.size + 1 := by rw [← hz1]; exact Heap.size_push ..
 have hi : h1.get? s.heap.objs.size = some { cls := .type "tuple_iterator", data := .fields #[.ref l, .int 0 0] } := by rw [← hz1]; exact Heap.get?_push_size _ rfl
 have hk : ∀ b o, s.heap.get? b = some o → h1.get? b = some o := fun b o z => by rw [← hz1]; exact Heap.get?_push_of_some _ z
 show _ ∧ _
 rw [hz]
 have he := Heap.get?_push_size h1 (o := { cls := .type "enumerate", data := .fields #[.none, .bool false, .ref s.heap.objs.size, rawInt 0, .none, .none] }) rfl
 rw [hz] at he
 exact ⟨⟨_, he, rfl⟩, h _ he ⟨_, Heap.get?_push_of_some _ hi, rfl, rfl⟩ fun b o z => Heap.get?_push_of_some _ (hk b o z)⟩
end
def ItEt (K : Frag) (a : Addr) (k : Nat) : It :=
 ⟨fun i H => ∃ (xs : List V) (x : V), SqT K H a xs ∧ xs.length = k ∧ xs[i]? = some x, fun i H v H' => ∃ T x, v = .ref T ∧ H T = none ∧ H' = upd H T (.tup [.int (i : Nat), x]) ∧ ∀ xs, SqT K H a xs → xs[i]? = some x, fun i H => ∃ xs : List V, SqT K H a xs ∧ xs.length = k ∧ k ≤ i⟩
theorem turn_enumT {P : Program} {w : World} {K : Frag} {elts : List Expr} {kk : Nat} {tpos : Pos} (a e it : Addr) (k : Nat) :
  Turn P w K (.Tuple elts kk tpos) (ItEt K a k) [e, it] e (fun i h => (∃ old, IsEnum h e it ((i : Nat) : Int) old) ∧ h.IsTupleIter it a i ∧ e ≠ it ∧ a ≠ it ∧ a ≠ e ∧ i ≤ k) where
 mem := by simp
 obj := fun i h st b hb => by
  obtain ⟨⟨old, he⟩, ⟨o, ho, hc, hd⟩, _⟩ := st
  rcases List.mem_cons.mp hb with z | z
  ·rw [z]; exact ⟨_, he, fun v q => nomatch q⟩
  ·rw [List.mem_singleton.mp z]; exact ⟨o, ho, fun v q => by rw [hd] at q; cases q⟩
 keep := fun i h h' st k => let ⟨⟨old, he⟩, hi, hne⟩ := st; ⟨⟨old, k e (by simp) _ he⟩, hi.at fun o q => k it (by simp) o q, hne⟩
 item := by
  intro X hP hw hK hc i pins s σ H E I hf st hg
  subst hP hw hK
  obtain ⟨⟨old, he⟩, hit, hne, hai, hae, hik⟩ := st
  obtain ⟨xs, x, hq, hxl, hx⟩ := hg
  obtain ⟨us, rv, p, hz⟩ := I.tuple hq
  obtain ⟨u, hu, ru⟩ := rv.get hx
  have hel : e < s.heap.objs.size := Heap.lt_size he
  have hil : it < s.heap.objs.size := by obtain ⟨_, q, _⟩ := hit; exact Heap.lt_size q
  have hu' : us.toArray[i]? = some u := by simpa using hu
  have hlt : i < us.toArray.size := (Array.getElem?_eq_some_iff.mp hu').1
  refine wpAny_pyNext_enum_itemD (Draws.tuple (prog := X.prog) (w := X.w) (A := X.A.in1) (I.ok.hd hc) it a hai us.toArray) he ⟨hit, p⟩ hlt hne (by simp [hne, Ne.symm hae]) fun y h' tk hy ho hit' hT hsz hk => ?_
  have ey : y = u := Option.some.inj (hy.symm.trans hu')
  subst ey
  refine ⟨_, rfl, wpAny_letOwnedTupleGo_enum (s := { s with heap := h', toks := tk + 1 }) ho fun h'' he' sb => ?_⟩
  have hT2 := (sb.2 s.heap.objs.size (Nat.ne_of_gt hel)).trans hT
  have new : ObjOk X.prog X.w (upd H s.heap.objs.size (.tup [.int (i : Nat), x])) h'' s.heap.objs.size (.tup [.int (i : Nat), x]) :=
   ⟨by show 2 ≤ sizeLine; decide, [.int i tk, y], .cons ⟨_, rfl⟩ (.cons ru .nil), ⟨_, hT2, rfl, _, rfl⟩⟩
  have I1 : L2.Inv X pins σ (upd H s.heap.objs.size (.tup [.int (i : Nat), x])) { s with heap := h'', toks := tk + 1 } :=
   I.turnedNew (ch := [e, it]) (t' := tk + 1) (fun b ob hb q => (sb.2 b (fun z => hb (by simp [z]))).trans (hk b ob (fun z => hb (by simp [z])) (fun z => hb (by simp [z])) q)) hf (Nat.le_refl _) new
  refine ⟨.ref s.heap.objs.size, _, I1, rfl, ⟨_, x, rfl, I.hok.fresh (Nat.le_refl _), rfl, fun ys hy => by rw [I.tuple_inj hy hq]; exact hx⟩, ⟨⟨y, ?_⟩, hit'.1.at fun o q => (sb.2 it (Ne.symm hne)).trans q, hne, hai, hae, by have := (List.getElem?_eq_some_iff.mp hx).1; omega⟩, fun b hb => ?_⟩
  ·have e1 : ((i + 1 : Nat) : Int) = (i : Int) + 1 := by omega
   rw [e1]; exact he'
  ·have hb' : b < s.heap.objs.size := by
    rcases List.mem_cons.mp hb with z | z
    ·rw [z]; exact hel
    ·rw [List.mem_singleton.mp z]; exact hil
   rw [upd_ne (Nat.ne_of_lt hb')]
   exact (hf b hb).1
 done := by
  intro X hP hw hK hc i pins s σ H E I hf st hg
  subst hP hw hK
  obtain ⟨⟨old, he⟩, hit, hne, hai, hae, hik⟩ := st
  obtain ⟨xs, hq, hxl, hx⟩ := hg
  obtain ⟨us, rv, p, hz⟩ := I.tuple hq
  obtain ⟨f0, f1, f2, f3, f4, f5⟩ := hf it (by simp)
  have hl := rv.length
  have ei : i = us.toArray.size := by simp; omega
  subst ei
  exact wpAny_pyNext_enum_endD (Draws.tuple (prog := X.prog) (w := X.w) (A := X.A.in1) (I.ok.hd hc) it a hai us.toArray) he ⟨hit, p⟩ fun h' eb => ⟨rfl, I.turned (t' := s.toks) (fun b o hb q => eb b o hb q) f0 f1 f3 f4 f5⟩
 self := fun A i s Q E st h => let ⟨⟨_, he⟩, _⟩ := st; wpAny_pyIter_enum he h
def iEnumT (K : Frag) (ta : TA) : TI := fun σ H R => ta σ H fun vs H1 => ∃ a xs, vs = [.ref a] ∧ SqT K H1 a xs ∧ R (ItEt K a xs.length) H1
theorem pi_enumT {X : Cx} {e : Expr} {ta : TA} {p pos tpos : Pos} {elts : List Expr} {kk : Nat} (hg : Gl X "enumerate") (hm : X.mg "enumerate" = none) (ha : PA X [e] ta) (hs : starEach [e] X.env = [(false, eval e X.env)] := by rfl) :
  PI X (.Tuple elts kk tpos) (.Call (.Name "enumerate" p) [e] [] pos) (iEnumT X.K ta) := by
 refine ⟨fun pins s σ H R I h => ?_⟩
 refine Call_ (ld_blt I hg hm boot_enumerate (PyProof.Rows.callWith_type1 (thn (ha.run pos pins s σ H _ I h) fun us s1 ⟨vs, H1, I1, r1, q1⟩ => ?_) hs rfl))
 obtain ⟨a, xs, ex, hq, q⟩ := q1
 subst ex
 cases r1 with
 | cons r rr =>
  cases rr
  cases r
  obtain ⟨its, rv, p', hz⟩ := I1.tuple hq
  have hal : a < s1.heap.objs.size := by obtain ⟨o, ho, _⟩ := p'; exact Heap.lt_size ho
  refine call_enumT p' fun h' he hit hk => wpAny_pyIter_enum he ?_
  have I2 : L2.Inv X pins σ H1 { s1 with heap := h' } := I1.kept (t' := s1.toks) hk
  refine ⟨s1.heap.objs.size + 1, [s1.heap.objs.size + 1, s1.heap.objs.size], _, _, H1, rfl, I2, turn_enumT a (s1.heap.objs.size + 1) s1.heap.objs.size xs.length, ⟨⟨.none, he⟩, hit, Nat.succ_ne_self _, Nat.ne_of_lt hal, Nat.ne_of_lt (Nat.lt_succ_of_lt hal), Nat.zero_le _⟩, fun b hb => ?_, q⟩
  have hle : s1.heap.objs.size ≤ b := by
   rcases List.mem_cons.mp hb with z | z
   ·rw [z]; exact Nat.le_add_right _ _
   ·rw [List.mem_singleton.mp z]; exact Nat.le_refl _
  exact I1.fpOk hle (I1.hok.fresh hle)
theorem itD_enumT {elts : List Expr} {kk : Nat} {tpos : Pos} {K : Frag} {F : Hp} {a : Addr} {vs : List V} {ds : List D} (hz : ds.length ≤ sizeLine) (h : SqT K F a vs) (r : RpAll K F vs ds) : ItD (.Tuple elts kk tpos) K F (ItEt K a vs.length) (enumD ds) where
 few := by unfold enumD; rw [List.length_map, List.length_zipIdx]; exact hz
 go := fun F2 H2 s1 s2 i hi => by
  unfold enumD at hi
  rw [List.length_map, List.length_zipIdx] at hi
  obtain ⟨v, h1, _⟩ := getR r hi
  exact ⟨vs, v, sq_t (s1.trans s2) h, rfl, h1⟩
 yl := fun F2 H2 s1 s2 i x H3 hi y => by
  obtain ⟨T, v, rfl, hT, rfl, y1⟩ := y
  unfold enumD at hi ⊢
  rw [List.length_map, List.length_zipIdx] at hi
  obtain ⟨v', h1, r1⟩ := getR r hi
  have e1 := y1 vs (sq_t (s1.trans s2) h)
  rw [h1] at e1; cases e1
  have n := New.one s2 hT (.tup [.int (i : Nat), v])
  refine ⟨_, _, n, ?_, RpW.w (.of upd_same) (.cons (.int _) (.cons (r1.mono (s1.trans n.fF)) .nil))⟩
  simp [hi]
 st := fun F2 H2 s1 s2 i hi => by
  unfold enumD at hi
  rw [List.length_map, List.length_zipIdx] at hi
  exact ⟨vs, sq_t (s1.trans s2) h, rfl, by rw [r.length]; exact hi⟩
theorem pi_or {X : Cx} {tg e : Expr} {w1 w2 : TI} (h1 : PI X tg e w1) (h2 : PI X tg e w2) : PI X tg e (fun σ H R => w1 σ H R ∨ w2 σ H R) := ⟨fun pins s σ H R I h => h.elim (h1.run pins s σ H R I) (h2.run pins s σ H R I)⟩
section
variable {X : Cx} {c : Ct} {e : Expr} {pu : Bool} {me : M D} {elts : List Expr} {kk : Nat} {tpos pos p : Pos}
theorem si_enumA (hm : X.mg "enumerate" = none) (ha : PE X e (te X.K c false pu me)) (hg : Gl X "enumerate" := by rfl) (hs : starEach [e] X.env = [(false, eval e X.env)] := by rfl) : PI X (.Tuple elts kk tpos) (.Call (.Name "enumerate" p) [e] [] pos) (ti (.Tuple elts kk tpos) X.K c pu (mEnumA me)) :=
 PI.imp (pi_or (pi_enum hg hm (pa_cons (pe_fits ha) pa_nil (by rw [hs]; rfl)) hs) (pi_enumT hg hm (pa_cons (pe_fits ha) pa_nil (by rw [hs]; rfl)) hs)) fun σ H R ⟨F, ρ, O, ev, h⟩ => by
  have hb := Res.post_bind h
  cases r : me ρ with
  | bad => rw [r] at hb; exact hb.elim
  | ex ξ ρ1 =>
   refine .inl ⟨F, ρ, O, ev, ?_⟩
   rw [r] at hb ⊢
   exact hb
  | ok x ρ1 =>
   rw [r] at hb
   obtain ⟨xs, hx, h3⟩ := post_ofO hb
   cases x with
   | list ds =>
    cases hx
    refine .inl ⟨F, ρ, O, ev, ?_⟩
    rw [r]
    intro F1 H1 O1 v e1 s1 q1 r1 fits
    cases r1 with
    | lst a1 b1 => exact ⟨_, _, rfl, sq_l e1.sub (.of a1), h3 F1 H1 O1 _ e1 s1 q1 (itD_enum (by rw [← b1.length]; exact (fits _ rfl).1 _ (.inl (sq_l e1.sub (.of a1)))) (.of a1) b1)⟩
   | tuple ds =>
    cases hx
    refine .inr ⟨F, ρ, O, ev, ?_⟩
    rw [r]
    intro F1 H1 O1 v e1 s1 q1 r1 fits
    cases r1 with
    | tup a1 b1 => exact ⟨_, _, rfl, sq_t e1.sub a1.seq, h3 F1 H1 O1 _ e1 s1 q1 (itD_enumT (by rw [← b1.length]; exact (fits _ rfl).1 _ (.inr (sq_t e1.sub a1.seq))) a1.seq b1)⟩
   | _ => cases hx
end
end DL
end
section
namespace DL
variable [DL.TheW]
open PySem PySem.Spec PyProof.Rows L2 PySem.W
end DL
end
section
namespace DL
variable [DL.TheW]
open PySem PySem.Spec PyProof.Rows L2 PySem.W
mutual
def flatB : PyData → Bool
 | .none => true
 | .bool _ => true
 | .int _ => true
 | .str _ => true
 | .tuple xs => flatL xs
 | _ => false
def flatL : List PyData → Bool
 | [] => true
 | x :: xs => flatB x && flatL xs
end
section
variable {K : Frag} {F : Hp} {p : Addr} {ws : List V}
end
def okSlot (k : Bool) : Option OV → Option OV → Prop
 | _, none => True
 | a, some (.d x) => flatB x = true ∨ (k = true ∧ a = some (.d x))
 | _, some (.lst ys) => flatL ys = true
 | _, _ => False
def okSlots (i : Nat) (fb : List Nat) : Nat → Env → Env → Prop
 | n, a :: ρ, b :: ρ' => (n = i ∨ okSlot (fb.contains n) a b) ∧ okSlots i fb (n + 1) ρ ρ'
 | _, [], [] => True
 | _, _, _ => False
open Classical in
noncomputable def sTmp (i : Nat) (fb : List Nat) (b : M Fl) : M Fl := fun ρ => match ρ[i]? with
 | some (some (.lst xs)) => match b (ρ.set i (some (.d (.list xs)))) with
  | .ok .nx ρ' => if ρ'[i]? = some (some (.d (.list xs))) ∧ okSlots i fb 0 (ρ.set i (some (.d (.list xs)))) ρ' then .ok .nx (ρ'.set i (some (.lst xs))) else .bad
  | _ => .bad
 | _ => .bad
section
variable {K : Frag} {ca : Str → Addr} {F F2 H : Hp}
end
section
variable {X : Cx} {c : Ct} {st : Stmt} {b : M Fl}
end
end DL
end
section
namespace DL
variable [DL.TheW]
open PySem PySem.Spec PyProof.Rows L2 PySem.W
section
variable {m : Nat} {owner : Array (Option Nat)}
structure Ow (m n : Nat) (owner : Array (Option Nat)) : Prop where
 sz : owner.size = m + 1
 all : ∀ k, k < n → ∃ j, j ≤ m ∧ oAt owner j = some k
 ps : ∃ ps : List Nat, ps.length = n ∧ ∀ j, j ≤ m → oAt owner j ≠ none → j ∈ ps
end
end DL
end
section
namespace DL
variable [DL.TheW]
open PySem PySem.Spec PyProof.Rows L2 PySem.W
section
variable {κ : Type} [DecidableEq κ] {P : Program} {w : World} {knd : KeyKind P w κ} {A : Around} {E : Value → Shared → Prop} {s : Shared} {a b : Addr} {ks ksA ksB : List κ} {es esA esB : Array (Int × Value)} {ep epA epB : Nat} {t tA tB : SetTable}
end
end DL
end
section
namespace DL
variable [DL.TheW]
open PySem PySem.Spec PyProof.Rows L2 PySem.W
section
variable {κ : Type} [DecidableEq κ] {P : Program} {w : World} {knd : KeyKind P w κ} {A : Around} {E : Value → Shared → Prop} {s : Shared} {a b : Addr} {ks ksA ksB : List κ} {es esA esB : Array (Int × Value)} {ep epA epB : Nat} {t tA tB : SetTable}
end
end DL
end
section
namespace DL
variable [DL.TheW]
open PySem PySem.Spec PyProof.Rows L2 PySem.W
section
variable {κ : Type} [DecidableEq κ] {P : Program} {w : World} {knd : KeyKind P w κ} {A : Around} {E : Value → Shared → Prop} {s : Shared} {a b : Addr} {ks ksA ksB : List κ} {es esA esB : Array (Int × Value)} {ep epA epB : Nat} {t tA tB : SetTable}
end
end DL
end
section
namespace DL
variable [DL.TheW]
open PySem PySem.Spec PyProof.Rows L2 PySem.W
section
variable {X : Cx} {c : Ct} {e1 e2 : Expr} {pos : Pos} {p1 p2 : Bool} {m1 m2 : M (List Str)}
end
end DL
end
section
namespace DL
variable [DL.TheW]
open PySem PySem.Spec PyProof.Rows L2 PySem.W
section
variable {X : Cx} {c : Ct} {a b : Expr} {p2 pos : Pos} {ka kb pa pb : Bool} {ma mb : M D} {tg e1 e2 e3 : Expr} {q1 q2 q3 : Bool} {m1 m2 m3 : M D}
theorem rpAll_rev {K : Frag} {F : Hp} {vs : List V} {xs : List D} (h : RpAll K F vs xs) : RpAll K F vs.reverse xs.reverse := by
 induction vs generalizing xs with
 | nil => cases h; exact .nil
 | cons v vs ih =>
  cases h with
  | cons h r =>
   rw [List.reverse_cons, List.reverse_cons]
   have app : ∀ {us ws : List V} {ys zs : List D}, RpAll K F us ys → RpAll K F ws zs → RpAll K F (us ++ ws) (ys ++ zs) := fun {us ws ys zs} p q => by
    induction us generalizing ys with
    | nil => cases p; exact q
    | cons u us ih => cases p with | cons p1 p2 => exact .cons p1 (ih p2)
   exact app (ih r) (.cons h .nil)
end
end DL
end
section
namespace DL
variable [DL.TheW]
open PySem PySem.Spec PyProof.Rows L2 PySem.W
def gT (mo : M OV) : M (List AV × OV) := fun ρ => (mo ρ).bind fun o ρ1 => .ok ([], o) ρ1
def gDt (a : M D) (r : M (List AV × OV)) : M (List AV × OV) := fun ρ => (a ρ).bind fun x ρ1 => (r ρ1).bind fun z ρ2 => .ok (.d x :: z.1, z.2) ρ2
def gOt (i : Nat) (r : M (List AV × OV)) : M (List AV × OV) := fun ρ => match ρ[i]? with
 | some (some _) => (r ρ).bind fun z ρ2 => .ok (.o i :: z.1, z.2) ρ2
 | _ => .bad
def callEndT (f : Fn) (z : List AV × OV) (y : Option (List OV × Env)) : Res OV := match y with
 | none => .bad
 | some y => callRf z.1 y.2 (f (y.1 ++ [z.2]))
def mCallT (f : Fn) (m : M (List AV × OV)) : M OV := fun ρ => (m ρ).bind fun z ρ1 => callEndT f z (gather ρ1 z.1)
@[simp] theorem gT_d (mo : M OV) (ρ : Env) : gT mo ρ = (mo ρ).bind fun o ρ1 => .ok ([], o) ρ1 := rfl
@[simp] theorem gDt_d (a : M D) (r : M (List AV × OV)) (ρ : Env) : gDt a r ρ = (a ρ).bind fun x ρ1 => (r ρ1).bind fun z ρ2 => .ok (.d x :: z.1, z.2) ρ2 := rfl
@[simp] theorem gOt_d (i : Nat) (r : M (List AV × OV)) (ρ : Env) : gOt i r ρ = match ρ[i]? with
 | some (some _) => (r ρ).bind fun z ρ2 => .ok (.o i :: z.1, z.2) ρ2
 | _ => .bad := rfl
@[simp] theorem mCallT_d (f : Fn) (m : M (List AV × OV)) (ρ : Env) : mCallT f m ρ = (m ρ).bind fun z ρ1 => callEndT f z (gather ρ1 z.1) := rfl
@[simp] theorem callEndT_d (f : Fn) (z : List AV × OV) (y : List OV × Env) : callEndT f z (some y) = callRf z.1 y.2 (f (y.1 ++ [z.2])) := rfl
section
variable {X : Cx} {c : Ct} {e : Expr} {es : List Expr} {pos p : Pos} {p1 p2 pu : Bool} {me : M D} {ms : M (List AV × OV)} {mo : M OV} {k : Nat} {f : Addr} {fd : FuncData} {ps : List Str} {fn : Fn} {x : Str}
end
end DL
end
section
namespace DL
variable [DL.TheW]
open PySem PySem.Spec PyProof.Rows L2 PySem.W
section
variable {X : Cx} {c : Ct} {e d : Expr} {p pos kp : Pos} {ka pa pd : Bool} {ma md : M D}
end
end DL
end
section
namespace DL
variable [DL.TheW]
open PySem PySem.Spec PyProof.Rows L2 PySem.W
def mBinN (g : D → D → Option (List D)) (a b : M D) : M (List D) := fun ρ => (a ρ).bind fun x ρ1 => (b ρ1).bind fun y ρ2 => ofO (g x y) ρ2
@[simp] theorem mBinN_d (g : D → D → Option (List D)) (a b : M D) (ρ : Env) : mBinN g a b ρ = (a ρ).bind fun x ρ1 => (b ρ1).bind fun y ρ2 => ofO (g x y) ρ2 := rfl
section
variable {X : Cx} {c : Ct} {a b : Expr} {pos : Pos} {ka kb pa pb : Bool} {ma mb : M D}
end
end DL
end
section
namespace DL
variable [DL.TheW]
open PySem PySem.Spec PyProof.Rows L2 PySem.W
def sK (vs : List Nat) (m : M Fl) : M Fl := fun ρ => (m ρ).bind fun f ρ1 => .ok f (wipeE ρ1 vs)
def sKb (vs : List Nat) (m : M Fl) : M Fl := fun ρ => m (wipeE ρ vs)
theorem set_none_self {ρ : Env} {i : Nat} (h : ∀ o, ρ[i]? ≠ some (some o)) : ρ.set i none = ρ := by
 cases q : ρ[i]? with
 | none => exact List.set_eq_of_length_le (List.getElem?_eq_none_iff.mp q)
 | some w =>
  cases w with
  | some o => exact absurd q (h o)
  | none => exact set_self q
section
variable {K : Frag} {c : Ct} {F H : Hp} {σ : Sl} {ρ : Env} {O : List Addr}
theorem EnvR.kill1 (e : EnvR K c F H σ ρ O) (i : Nat) : ∃ O', (∀ b ∈ O', b ∈ O) ∧ EnvR K c F H σ (ρ.set i none) O' := by
 by_cases q : ∃ o, ρ[i]? = some (some o)
 ·obtain ⟨o, q⟩ := q
  obtain ⟨v, A, R, h1, h2, h3, h4⟩ := e.sl.at q
  have nd := (h3.nodup_iff.mp e.nd)
  refine ⟨R, fun b hb => h3.mem_iff.mpr (List.mem_append_right _ hb), e.sub, e.f0, e.h0, e.n0, (h4 F H (Same.refl _) fun _ _ => rfl).1, (List.nodup_append.mp nd).2.1, fun p hp => e.ow p (h3.mem_iff.mpr (List.mem_append_right _ hp)), e.fx⟩
 ·rw [set_none_self fun o z => q ⟨o, z⟩]
  exact ⟨O, fun _ h => h, e⟩
theorem EnvR.kill (e : EnvR K c F H σ ρ O) : ∀ vs : List Nat, ∃ O', (∀ b ∈ O', b ∈ O) ∧ EnvR K c F H σ (wipeE ρ vs) O'
 | [] => ⟨O, fun _ h => h, e⟩
 | v :: vs => by
  obtain ⟨O1, h1, e1⟩ := e.kill vs
  obtain ⟨O2, h2, e2⟩ := e1.kill1 v
  exact ⟨O2, fun b hb => h1 b (h2 b hb), e2⟩
theorem Apart.less {A O' : List Addr} (a : Apart c F A O) (h : ∀ b ∈ O', b ∈ O) (n : O'.Nodup) : Apart c F A O' :=
 ⟨by
  obtain ⟨n1, _, n3⟩ := List.nodup_append.mp a.nd
  exact List.nodup_append.mpr ⟨n1, n, fun x hx y hy => n3 x hx y (h y hy)⟩, a.ow⟩
theorem ps_wipe {Dn : Ends} {vs : List Nat} : ∀ (f : Fl) (ρ1 : Env), PS' K c Dn f (wipeE ρ1 vs) → PS' K c Dn f ρ1
 | .nx, ρ1, h => fun σ' F' H' O' e => by
  obtain ⟨O1, _, e1⟩ := e.kill vs
  exact h σ' F' H' O1 e1
 | .bk, ρ1, h => fun σ' F' H' O' e => by
  obtain ⟨O1, _, e1⟩ := e.kill vs
  exact h σ' F' H' O1 e1
 | .ct, ρ1, h => fun σ' F' H' O' e => by
  obtain ⟨O1, _, e1⟩ := e.kill vs
  exact h σ' F' H' O1 e1
 | .rt o, ρ1, h => fun σ' F' H' O' A v e r a => by
  obtain ⟨O1, h1, e1⟩ := e.kill vs
  exact h σ' F' H' O1 A v e1 r (a.less h1 e1.nd)
end
section
variable {X : Cx} {c : Ct} {st : Stmt} {xs : List Stmt} {b : M Fl}
theorem ss_kill (vs : List Nat) (h : PSs X xs (ts X.K c b)) : PSs X xs (ts X.K c (sK vs b)) := h.imp fun D σ H ⟨F, ρ, O, e, h1⟩ => ⟨F, ρ, O, e, Res.post_imp (Res.post_bind h1) (fun f ρ1 z => ps_wipe f ρ1 z) fun _ _ z => z⟩
theorem sv_kill (vs : List Nat) (h : PS X st (ts X.K c b)) : PS X st (ts X.K c (sK vs b)) := h.imp fun D σ H ⟨F, ρ, O, e, h1⟩ => ⟨F, ρ, O, e, Res.post_imp (Res.post_bind h1) (fun f ρ1 z => ps_wipe f ρ1 z) fun _ _ z => z⟩
theorem sv_killB (vs : List Nat) (h : PS X st (ts X.K c b)) : PS X st (ts X.K c (sKb vs b)) := h.imp fun D σ H ⟨F, ρ, O, e, h1⟩ => by
 obtain ⟨O1, _, e1⟩ := e.kill vs
 exact ⟨F, _, O1, e1, h1⟩
end
end DL
end
section
namespace DL
variable [DL.TheW]
open PySem PySem.Spec PyProof.Rows L2 PySem.W
inductive Pr (α : Type) where
 | ok (a : α)
 | ex (ξ : Exc)
 | bad
class Tg (T : Type) where
 bad : T
 ex : Exc → T
instance : Tg Rf := ⟨.bad, .ex⟩
instance {α : Type} : Tg (Pr α) := ⟨.bad, .ex⟩
section
variable {T α β γ : Type} [Tg T]
def oB (o : Option α) (k : α → T) : T := match o with
 | some a => k a
 | none => Tg.bad
def pB (r : Pr α) (k : α → T) : T := match r with
 | .ok a => k a
 | .ex ξ => Tg.ex ξ
 | .bad => Tg.bad
def nB (r : Pr α) (k : α → T) : T := match r with
 | .ok a => k a
 | .ex _ => Tg.bad
 | .bad => Tg.bad
def cX (r : Rf) (h : Exc → T) (k : OV → Env → T) : T := match r with
 | .ok o w => k o w
 | .ex ξ => h ξ
 | .exS _ _ => Tg.bad
 | .bad => Tg.bad
def cB (r : Rf) (k : OV → Env → T) : T := cX r Tg.ex k
def tH (o : Option Bool) (a b : T) : T := match o with
 | some true => a
 | some false => b
 | none => Tg.bad
def rB (r : Res α) (k : α → Env → T) (h : Exc → Env → T) : T := match r with
 | .ok a ρ => k a ρ
 | .ex ξ ρ => h ξ ρ
 | .bad => Tg.bad
abbrev hE : Exc → Env → T := fun ξ _ => Tg.ex ξ
abbrev hN : Exc → Env → T := fun _ _ => Tg.bad
@[simp] theorem oB_some (a : α) (k : α → T) : oB (some a) k = k a := rfl
@[simp] theorem oB_none (k : α → T) : oB none k = Tg.bad := rfl
@[simp] theorem pB_ok (a : α) (k : α → T) : pB (.ok a) k = k a := rfl
@[simp] theorem pB_ex (ξ : Exc) (k : α → T) : pB (.ex ξ) k = Tg.ex ξ := rfl
@[simp] theorem pB_bad (k : α → T) : pB .bad k = Tg.bad := rfl
@[simp] theorem nB_ok (a : α) (k : α → T) : nB (.ok a) k = k a := rfl
@[simp] theorem nB_ex (ξ : Exc) (k : α → T) : nB (.ex ξ) k = Tg.bad := rfl
@[simp] theorem nB_bad (k : α → T) : nB .bad k = Tg.bad := rfl
@[simp] theorem cX_ok (o : OV) (w : Env) (h : Exc → T) (k : OV → Env → T) : cX (.ok o w) h k = k o w := rfl
@[simp] theorem cX_ex (ξ : Exc) (h : Exc → T) (k : OV → Env → T) : cX (.ex ξ) h k = h ξ := rfl
@[simp] theorem cX_bad (h : Exc → T) (k : OV → Env → T) : cX .bad h k = Tg.bad := rfl
@[simp] theorem cB_ok (o : OV) (w : Env) (k : OV → Env → T) : cB (.ok o w) k = k o w := rfl
@[simp] theorem cB_ex (ξ : Exc) (k : OV → Env → T) : cB (.ex ξ) k = Tg.ex ξ := rfl
@[simp] theorem cB_bad (k : OV → Env → T) : cB .bad k = Tg.bad := rfl
@[simp] theorem tH_t (a b : T) : tH (some true) a b = a := rfl
@[simp] theorem tH_f (a b : T) : tH (some false) a b = b := rfl
@[simp] theorem bad_rf : (Tg.bad : Rf) = .bad := rfl
@[simp] theorem ex_rf (ξ : Exc) : (Tg.ex ξ : Rf) = .ex ξ := rfl
@[simp] theorem bad_pr : (Tg.bad : Pr α) = .bad := rfl
@[simp] theorem ex_pr (ξ : Exc) : (Tg.ex ξ : Pr α) = .ex ξ := rfl
theorem pB_o (o : Option β) (k : β → Pr α) (k' : α → T) : pB (oB o k) k' = oB o fun a => pB (k a) k' := by cases o <;> rfl
theorem pB_p (o : Pr β) (k : β → Pr α) (k' : α → T) : pB (pB o k) k' = pB o fun a => pB (k a) k' := by cases o <;> rfl
theorem pB_n (o : Pr β) (k : β → Pr α) (k' : α → T) : pB (nB o k) k' = nB o fun a => pB (k a) k' := by cases o <;> rfl
theorem pB_x (r : Rf) (h : Exc → Pr α) (k : OV → Env → Pr α) (k' : α → T) : pB (cX r h k) k' = cX r (fun ξ => pB (h ξ) k') fun o w => pB (k o w) k' := by cases r <;> rfl
theorem pB_i {c : Prop} [Decidable c] (a b : Pr α) (k' : α → T) : pB (if c then a else b) k' = if c then pB a k' else pB b k' := by split <;> rfl
theorem pB_h (o : Option Bool) (a b : Pr α) (k' : α → T) : pB (tH o a b) k' = tH o (pB a k') (pB b k') := by
 rcases o with _ | _ | _ <;> rfl
theorem nB_o (o : Option β) (k : β → Pr α) (k' : α → T) : nB (oB o k) k' = oB o fun a => nB (k a) k' := by cases o <;> rfl
theorem nB_p (o : Pr β) (k : β → Pr α) (k' : α → T) : nB (pB o k) k' = nB o fun a => nB (k a) k' := by cases o <;> rfl
theorem nB_n (o : Pr β) (k : β → Pr α) (k' : α → T) : nB (nB o k) k' = nB o fun a => nB (k a) k' := by cases o <;> rfl
theorem nB_x (r : Rf) (h : Exc → Pr α) (k : OV → Env → Pr α) (k' : α → T) : nB (cX r h k) k' = cX r (fun ξ => nB (h ξ) k') fun o w => nB (k o w) k' := by cases r <;> rfl
theorem nB_i {c : Prop} [Decidable c] (a b : Pr α) (k' : α → T) : nB (if c then a else b) k' = if c then nB a k' else nB b k' := by split <;> rfl
theorem cB_d (r : Rf) (k : OV → Env → T) : cB r k = cX r (fun ξ => Tg.ex ξ) k := rfl
def gt (ρ : Env) (i : Nat) : Option OV := match ρ[i]? with
 | some w => w
 | none => none
@[simp] theorem gt_0 (a : Option OV) (ρ : Env) : gt (a :: ρ) 0 = a := rfl
@[simp] theorem gt_s (a : Option OV) (ρ : Env) (i : Nat) : gt (a :: ρ) (i + 1) = gt ρ i := by
 unfold gt; rw [List.getElem?_cons_succ]
theorem gt_tail (ρ : Env) (i : Nat) : gt ρ.tail i = gt ρ (i + 1) := by
 cases ρ with
 | nil => rfl
 | cons a ρ => rw [gt_s, List.tail_cons]
def dO (w : Option OV) : Option D := match w with
 | some (.d x) => some x
 | _ => none
def lO (w : Option OV) : Option (List D) := match w with
 | some (.lst x) => some x
 | _ => none
def lk (w : Option OV) : Option D := match w with
 | some o => o.look
 | none => none
def fz (w : Option OV) : Option D := match w with
 | some o => o.frz
 | none => none
@[simp] theorem dO_d (x : D) : dO (some (.d x)) = some x := rfl
@[simp] theorem lO_l (x : List D) : lO (some (.lst x)) = some x := rfl
@[simp] theorem lk_d (x : D) : lk (some (.d x)) = some x := rfl
@[simp] theorem lk_l (x : List D) : lk (some (.lst x)) = some (.list x) := rfl
@[simp] theorem fz_d (x : D) : fz (some (.d x)) = some x := rfl
@[simp] theorem fz_l (x : List D) : fz (some (.lst x)) = some (.list x) := rfl
def bO (x : D) : Option Bool := match x with
 | .bool b => some b
 | _ => none
@[simp] theorem bO_b (b : Bool) : bO (.bool b) = some b := rfl
def iO (x : D) : Option Int := match x with
 | .int i => some i
 | _ => none
@[simp] theorem iO_i (b : Int) : iO (.int b) = some b := rfl
def sO (x : D) : Option Str := match x with
 | .str i => some i
 | _ => none
@[simp] theorem sO_s (b : Str) : sO (.str b) = some b := rfl
variable (ρ : Env) (k : α → Env → T) (h : Exc → Env → T)
theorem rB_ok (a : α) : rB (.ok a ρ) k h = k a ρ := rfl
theorem rB_ex (ξ : Exc) : rB (.ex ξ ρ : Res α) k h = h ξ ρ := rfl
theorem rB_bad : rB (.bad : Res α) k h = Tg.bad := rfl
theorem rB_bind (r : Res β) (f : β → Env → Res α) : rB (r.bind f) k h = rB r (fun a ρ1 => rB (f a ρ1) k h) h := by cases r <;> rfl
theorem rB_bindN (r : Res β) (f : β → Env → Res α) : rB (r.bindN f) k h = rB r (fun a ρ1 => rB (f a ρ1) k h) hN := by cases r <;> rfl
theorem rB_ofO (o : Option α) : rB (ofO o ρ) k h = oB o fun a => k a ρ := by cases o <;> rfl
theorem rB_i {c : Prop} [Decidable c] (a b : Res α) : rB (if c then a else b) k h = if c then rB a k h else rB b k h := by split <;> rfl
section
variable (k : D → Env → T)
theorem rB_var (i : Nat) : rB (mVar i ρ) k h = oB (dO (gt ρ i)) fun x => k x ρ := by
 unfold mVar gt
 cases ρ[i]? with
 | none => rfl
 | some w => cases w with
  | none => rfl
  | some o => cases o <;> rfl
theorem rB_C (x : D) : rB (mC x ρ) k h = k x ρ := rfl
theorem rB_look (i : Nat) : rB (mLook i ρ) k h = oB (lk (gt ρ i)) fun x => k x ρ := by
 unfold mLook gt
 cases ρ[i]? with
 | none => rfl
 | some w => cases w with
  | none => rfl
  | some o =>
   show rB (ofO o.look ρ) k h = oB o.look _
   rw [rB_ofO]
theorem rB_frzV (i : Nat) : rB (mFrzV i ρ) k h = oB (fz (gt ρ i)) fun x => k x (ρ.set i (some (.d x))) := by
 unfold mFrzV gt
 cases ρ[i]? with
 | none => rfl
 | some w => cases w with
  | none => rfl
  | some o =>
   show rB (match o.frz with | some x => .ok x (ρ.set i (some (.d x))) | none => .bad) k h = oB o.frz _
   cases o.frz <;> rfl
theorem rB_bin (g : D → D → Option D) (a b : M D) : rB (mBin g a b ρ) k h = rB (a ρ) (fun x ρ1 => rB (b ρ1) (fun y ρ2 => oB (g x y) fun z => k z ρ2) h) h := by
 unfold mBin; rw [rB_bind]; congr; funext x ρ1; rw [rB_bind]; congr; funext y ρ2; rw [rB_ofO]
theorem rB_f1 (g : D → Option D) (a : M D) : rB (mF1 g a ρ) k h = rB (a ρ) (fun x ρ1 => oB (g x) fun z => k z ρ1) h := by
 unfold mF1; rw [rB_bind]; congr; funext x ρ1; rw [rB_ofO]
theorem rB_chain (g g' : D → D → Option D) (a b d : M D) : rB (mChain g g' a b d ρ) k h = rB (a ρ) (fun x ρ1 => rB (b ρ1) (fun y ρ2 => oB ((g x y).bind bO) fun t => if t = true then rB (d ρ2) (fun z ρ3 => oB (g' y z) fun u => k u ρ3) h else k (.bool false) ρ2) h) h := by
 unfold mChain; rw [rB_bind]; congr; funext x ρ1; rw [rB_bind]; congr; funext y ρ2
 cases g x y with
 | none => rfl
 | some t =>
  cases t with
  | bool t =>
   cases t with
   | true =>
    show rB ((d ρ2).bind fun z ρ3 => ofO (g' y z) ρ3) k h = rB (d ρ2) _ h
    rw [rB_bind]; congr; funext z ρ3; rw [rB_ofO]
   | false => rfl
  | _ => rfl
theorem rB_andV (a b : M D) : rB (mAndV a b ρ) k h = rB (a ρ) (fun x ρ1 => oB (bO x) fun t => if t = true then rB (b ρ1) k h else k (.bool false) ρ1) h := by
 unfold mAndV; rw [rB_bind]; congr; funext x ρ1
 cases x with
 | bool t => cases t <;> rfl
 | _ => rfl
theorem rB_orV (a b : M D) : rB (mOrV a b ρ) k h = rB (a ρ) (fun x ρ1 => oB (bO x) fun t => if t = true then k (.bool true) ρ1 else rB (b ρ1) k h) h := by
 unfold mOrV; rw [rB_bind]; congr; funext x ρ1
 cases x with
 | bool t => cases t <;> rfl
 | _ => rfl
theorem rB_notV (a : M D) : rB (mNotV a ρ) k h = rB (a ρ) (fun x ρ1 => oB (bO x) fun t => k (.bool (!t)) ρ1) h := by
 unfold mNotV; rw [rB_bind]; congr; funext x ρ1
 cases x <;> rfl
theorem rB_tup (m : M (List D)) : rB (mTup m ρ) k h = rB (m ρ) (fun xs ρ1 => k (.tuple xs) ρ1) h := by unfold mTup; rw [rB_bind]; rfl
theorem rB_lstF (m : M (List D)) : rB (mLstF m ρ) k h = rB (m ρ) (fun xs ρ1 => k (.list xs) ρ1) h := by unfold mLstF; rw [rB_bind]; rfl
theorem rB_frz (m : M OV) : rB (mFrz m ρ) k h = rB (m ρ) (fun o ρ1 => oB o.frz fun x => k x ρ1) h := by unfold mFrz; rw [rB_bind]; congr; funext x ρ1; rw [rB_ofO]
theorem rB_sl (a : M D) (l u : M (Option Int)) : rB (mSl a l u ρ) k h = rB (a ρ) (fun x ρ1 => rB (l ρ1) (fun i ρ2 => rB (u ρ2) (fun j ρ3 => oB (slD x i j) fun z => k z ρ3) h) h) h := by
 unfold mSl; rw [rB_bind]; congr; funext x ρ1; rw [rB_bind]; congr; funext y ρ2; rw [rB_bind]; congr; funext z ρ3; rw [rB_ofO]
theorem rB_LM (i : Nat) (g : List D → List D → Option (List D × D)) (ms : M (List D)) : rB (mLM i g ms ρ) k h = oB (lO (gt ρ i)) fun _ => rB (ms ρ) (fun as ρ1 => oB (lO (gt ρ1 i)) fun xs => oB (g xs as) fun z => k z.2 (ρ1.set i (some (.lst z.1)))) h := by
 unfold mLM gt
 cases ρ[i]? with
 | none => rfl
 | some w => cases w with
  | none => rfl
  | some o => cases o with
   | lst ys =>
    show rB ((ms ρ).bind _) k h = rB (ms ρ) _ h
    rw [rB_bind]; congr; funext as ρ1
    cases ρ1[i]? with
    | none => rfl
    | some w => cases w with
     | none => rfl
     | some o => cases o with
      | lst xs =>
       show rB (match g xs as with | some z => .ok z.2 (ρ1.set i (some (.lst z.1))) | none => .bad) k h = oB (g xs as) _
       cases g xs as <;> rfl
      | _ => rfl
   | _ => rfl
theorem rB_extend (i : Nat) (m : M D) : rB (mExtend i m ρ) k h = oB (lO (gt ρ i)) fun _ => rB (m ρ) (fun a ρ1 => oB (lO (gt ρ1 i)) fun xs => oB (extendD xs a) fun z => k .none (ρ1.set i (some (.lst z)))) h := by
 unfold mExtend gt
 cases ρ[i]? with
 | none => rfl
 | some w => cases w with
  | none => rfl
  | some o => cases o with
   | lst ys =>
    show rB ((m ρ).bind _) k h = rB (m ρ) _ h
    rw [rB_bind]; congr; funext as ρ1
    cases ρ1[i]? with
    | none => rfl
    | some w => cases w with
     | none => rfl
     | some o => cases o with
      | lst xs =>
       show rB (match extendD xs as with | some z => .ok .none (ρ1.set i (some (.lst z))) | none => .bad) k h = oB (extendD xs as) _
       cases extendD xs as <;> rfl
      | _ => rfl
   | _ => rfl
theorem rB_lenK (m : M (List Str)) : rB (mLenK m ρ) k h = rB (m ρ) (fun l ρ1 => k (.int ((onceS l).length : Nat)) ρ1) h := by unfold mLenK; rw [rB_bind]; rfl
theorem rB_txt (m : M D) : rB (mTxt m ρ) k h = rB (m ρ) (fun x ρ1 => oB (sO x) fun z => k (.str z) ρ1) hN := by
 unfold mTxt; rw [rB_bindN]; congr; funext x ρ1
 cases x <;> rfl
theorem rB_dict (m : M KD) : rB (mDict m ρ) k h = rB (m ρ) (fun l ρ1 => k (dK (mergeKD [] l)) ρ1) h := by unfold mDict; rw [rB_bind]; rfl
theorem rB_dcF (m : M KD) : rB (mDcF m ρ) k h = rB (m ρ) (fun l ρ1 => k (dK l) ρ1) h := by unfold mDcF; rw [rB_bind]; rfl
theorem rB_pairE (x y : M D) : rB (mPairE x y ρ) k h = rB (x ρ) (fun x ρ1 => rB (y ρ1) (fun y ρ2 => oB (keyOf x) fun _ => k (.tuple [x, y]) ρ2) hN) hN := by
 unfold mPairE; rw [rB_bindN]; congr; funext x ρ1; rw [rB_bindN]; congr; funext y ρ2
 cases keyOf x <;> rfl
end
section
variable (k : KD → Env → T)
theorem rB_nilP : rB (mNilP ρ) k h = k [] ρ := rfl
theorem rB_consP (x y : M D) (r : M KD) : rB (mConsP x y r ρ) k h = rB (x ρ) (fun x ρ1 => rB (y ρ1) (fun y ρ2 => oB (keyOf x) fun j => rB (r ρ2) (fun l ρ3 => k ((j, y) :: l) ρ3) h) h) h := by
 unfold mConsP; rw [rB_bind]; congr; funext x ρ1; rw [rB_bind]; congr; funext y ρ2
 cases keyOf x with
 | none => rfl
 | some j =>
  show rB ((r ρ2).bind _) k h = rB (r ρ2) _ h
  rw [rB_bind]; rfl
end
section
variable (k : Bool → Env → T)
theorem rB_B (m : M D) : rB (mB m ρ) k h = rB (m ρ) (fun x ρ1 => oB (bO x) fun b => k b ρ1) h := by
 unfold mB; rw [rB_bind]; congr; funext x ρ1
 cases x <;> rfl
theorem rB_and (a b : M Bool) : rB (mAnd a b ρ) k h = rB (a ρ) (fun x ρ1 => if x = true then rB (b ρ1) k h else k false ρ1) h := by
 unfold mAnd; rw [rB_bind]; congr; funext x ρ1; rw [rB_i]; rfl
theorem rB_or (a b : M Bool) : rB (mOr a b ρ) k h = rB (a ρ) (fun x ρ1 => if x = true then k true ρ1 else rB (b ρ1) k h) h := by
 unfold mOr; rw [rB_bind]; congr; funext x ρ1; rw [rB_i]; rfl
theorem rB_not (a : M Bool) : rB (mNot a ρ) k h = rB (a ρ) (fun x ρ1 => k (!x) ρ1) h := by unfold mNot; rw [rB_bind]; rfl
theorem rB_yes : rB (mYes ρ) k h = k true ρ := rfl
end
theorem rB_if (t : M Bool) (a b : M α) : rB (mIf t a b ρ) k h = rB (t ρ) (fun x ρ1 => if x = true then rB (a ρ1) k h else rB (b ρ1) k h) h := by
 unfold mIf; rw [rB_bind]; congr; funext x ρ1; rw [rB_i]
section
variable (k : List D → Env → T)
theorem rB_nil : rB (mNil ρ) k h = k [] ρ := rfl
theorem rB_cons (a : M D) (r : M (List D)) : rB (mCons a r ρ) k h = rB (a ρ) (fun x ρ1 => rB (r ρ1) (fun xs ρ2 => k (x :: xs) ρ2) h) h := by
 unfold mCons; rw [rB_bind]; congr; funext x ρ1; rw [rB_bind]; rfl
theorem rB_fN (g : D → Option (List D)) (a : M D) : rB (mFN g a ρ) k h = rB (a ρ) (fun x ρ1 => oB (g x) fun z => k z ρ1) h := by
 unfold mFN; rw [rB_bind]; congr; funext x ρ1; rw [rB_ofO]
theorem rB_binN (g : D → D → Option (List D)) (a b : M D) : rB (mBinN g a b ρ) k h = rB (a ρ) (fun x ρ1 => rB (b ρ1) (fun y ρ2 => oB (g x y) fun z => k z ρ2) h) h := by
 unfold mBinN; rw [rB_bind]; congr; funext x ρ1; rw [rB_bind]; congr; funext y ρ2; rw [rB_ofO]
theorem rB_items (a : M D) : rB (mItems a ρ) k h = rB (a ρ) (fun x ρ1 => oB (itemsD x) fun z => k z ρ1) h := by
 unfold mItems; rw [rB_bind]; congr; funext x ρ1; rw [rB_ofO]
theorem rB_itemsP (a : M D) : rB (mItemsP a ρ) k h = rB (a ρ) (fun x ρ1 => oB (itemsP x) fun z => k z ρ1) h := by
 unfold mItemsP; rw [rB_bind]; congr; funext x ρ1; rw [rB_ofO]
theorem rB_range1 (a : M D) : rB (mRange1 a ρ) k h = rB (a ρ) (fun x ρ1 => oB (range1 x) fun z => k z ρ1) h := by
 unfold mRange1; rw [rB_bind]; congr; funext x ρ1; rw [rB_ofO]
theorem rB_zip (a b : M D) : rB (mZip a b ρ) k h = rB (a ρ) (fun x ρ1 => rB (b ρ1) (fun y ρ2 => oB (zipD x y) fun z => k z ρ2) h) h := by
 unfold mZip; rw [rB_bind]; congr; funext x ρ1; rw [rB_bind]; congr; funext y ρ2; rw [rB_ofO]
theorem rB_enumA (a : M D) : rB (mEnumA a ρ) k h = rB (a ρ) (fun x ρ1 => oB (enumA x) fun z => k z ρ1) h := by
 unfold mEnumA; rw [rB_bind]; congr; funext x ρ1; rw [rB_ofO]
theorem rB_sortK (m : M (List Str)) : rB (mSortK m ρ) k h = rB (m ρ) (fun l ρ1 => k ((sortS (onceS l)).map .str) ρ1) h := by unfold mSortK; rw [rB_bind]; rfl
end
section
variable (k : List Str → Env → T)
def txO (ys : List D) : Option (List Str) := if ys.length ≤ scanBound - 2 then allStr ys else none
def orO (l m : List Str) : Option (List Str) := if l.length + m.length ≤ 30 then some (l ++ m) else none
theorem rB_setOf (a : M D) : rB (mSetOf a ρ) k h = rB (a ρ) (fun x ρ1 => oB (textsD x) fun z => k z ρ1) h := by
 unfold mSetOf; rw [rB_bind]; congr; funext x ρ1; rw [rB_ofO]
theorem rB_setC (a : M (List D)) : rB (mSetC a ρ) k h = rB (a ρ) (fun x ρ1 => oB (txO x) fun z => k z ρ1) h := by
 unfold mSetC; rw [rB_bind]; congr; funext x ρ1; rw [rB_i, rB_ofO]
 unfold txO; split <;> rfl
theorem rB_setOr (a b : M (List Str)) : rB (mSetOr a b ρ) k h = rB (a ρ) (fun x ρ1 => rB (b ρ1) (fun y ρ2 => oB (orO x y) fun z => k z ρ2) h) h := by
 unfold mSetOr; rw [rB_bind]; congr; funext x ρ1; rw [rB_bind]; congr; funext y ρ2
 unfold orO; split <;> rfl
end
section
variable (k : Option Int → Env → T)
theorem rB_bNo : rB (bNo ρ) k h = k none ρ := rfl
theorem rB_bTo (m : M D) : rB (bTo m ρ) k h = rB (m ρ) (fun x ρ1 => oB (iO x) fun i => k (some i) ρ1) h := by
 unfold bTo; rw [rB_bind]; congr; funext x ρ1
 cases x <;> rfl
end
section
variable (k : OV → Env → T)
theorem rB_D (m : M D) : rB (mD m ρ) k h = rB (m ρ) (fun x ρ1 => k (.d x) ρ1) h := by unfold mD; rw [rB_bind]; rfl
theorem rB_lst (m : M (List D)) : rB (mLst m ρ) k h = rB (m ρ) (fun x ρ1 => k (.lst x) ρ1) h := by unfold mLst; rw [rB_bind]; rfl
theorem rB_move (i : Nat) : rB (mMove i ρ) k h = oB (gt ρ i) fun o => k o (ρ.set i none) := by
 unfold mMove gt
 cases ρ[i]? with
 | none => rfl
 | some w => cases w <;> rfl
theorem rB_callRf (avs : List AV) (r : Rf) : rB (callRf avs ρ r) k h = cX r (fun ξ => h ξ ρ) fun o w => k o (putBack ρ avs w) := by cases r <;> rfl
theorem rB_call (f : Fn) (m : M (List AV)) : rB (mCall f m ρ) k h = rB (m ρ) (fun avs ρ1 => oB (gather ρ1 avs) fun y => cX (f y.1) (fun ξ => h ξ y.2) fun o w => k o (putBack y.2 avs w)) h := by
 unfold mCall; rw [rB_bind]; congr; funext avs ρ1
 cases gather ρ1 avs with
 | none => rfl
 | some y => show rB (callRf avs y.2 (f y.1)) k h = _; rw [rB_callRf]; rfl
end
section
variable (k : List AV → Env → T)
theorem rB_gNil : rB (gNil ρ) k h = k [] ρ := rfl
theorem rB_gD (a : M D) (r : M (List AV)) : rB (gD a r ρ) k h = rB (a ρ) (fun x ρ1 => rB (r ρ1) (fun xs ρ2 => k (.d x :: xs) ρ2) h) h := by
 unfold gD; rw [rB_bind]; congr; funext x ρ1; rw [rB_bind]; rfl
theorem rB_gO (i : Nat) (r : M (List AV)) : rB (gO i r ρ) k h = oB (gt ρ i) fun _ => rB (r ρ) (fun xs ρ2 => k (.o i :: xs) ρ2) h := by
 unfold gO gt
 cases ρ[i]? with
 | none => rfl
 | some w => cases w with
  | none => rfl
  | some o =>
   show rB ((r ρ).bind _) k h = rB (r ρ) _ h
   rw [rB_bind]; rfl
end
section
variable (k : List AV × OV → Env → T)
end
theorem gath_nil (k : List OV × Env → T) : oB (gather ρ []) k = k ([], ρ) := rfl
theorem gath_d (x : D) (r : List AV) (k : List OV × Env → T) : oB (gather ρ (.d x :: r)) k = oB (gather ρ r) fun y => k (.d x :: y.1, y.2) := by
 show oB ((gather ρ r).map _) k = _
 cases gather ρ r <;> rfl
theorem gath_o (i : Nat) (r : List AV) (k : List OV × Env → T) : oB (gather ρ (.o i :: r)) k = oB (gt ρ i) fun o => oB (gather (ρ.set i none) r) fun y => k (o :: y.1, y.2) := by
 rw [gather]
 unfold gt
 cases ρ[i]? with
 | none => rfl
 | some w => cases w with
  | none => rfl
  | some o =>
   show oB ((gather (ρ.set i none) r).map _) k = oB (some o) _
   rw [oB_some]
   cases gather (ρ.set i none) r <;> rfl
theorem pb_nil (w : Env) : putBack ρ [] w = ρ := by cases w <;> rfl
theorem pb_d (x : D) (r : List AV) (w : Env) : putBack ρ (.d x :: r) w = putBack ρ r w.tail := by
 cases w with
 | nil => cases r with
  | nil => rfl
  | cons a r => cases a <;> rfl
 | cons o w => rfl
theorem pb_o (i : Nat) (r : List AV) (w : Env) (hi : gt ρ i = none) : putBack ρ (.o i :: r) w = putBack (ρ.set i (gt w 0)) r w.tail := by
 cases w with
 | nil =>
  have e : ρ.set i (gt [] 0) = ρ := set_none_self fun o z => by unfold gt at hi; rw [z] at hi; cases hi
  rw [e]
  show ρ = putBack ρ r []
  cases r with
  | nil => rfl
  | cons a r => cases a <;> rfl
 | cons o w => rfl
section
variable (k : Fl → Env → T)
def sq (f : Fl) (x : T) (y : T) : T := match f with
 | .nx => x
 | _ => y
@[simp] theorem sq_nx (x y : T) : sq .nx x y = x := rfl
@[simp] theorem sq_rt (o : OV) (x y : T) : sq (.rt o) x y = y := rfl
@[simp] theorem sq_bk (x y : T) : sq .bk x y = y := rfl
@[simp] theorem sq_ct (x y : T) : sq .ct x y = y := rfl
theorem rB_seq (a b : M Fl) : rB (sSeq a b ρ) k h = rB (a ρ) (fun f ρ1 => sq f (rB (b ρ1) k h) (k f ρ1)) h := by
 unfold sSeq; rw [rB_bind]; congr; funext f ρ1
 cases f <;> rfl
theorem rB_sNil : rB (sNil ρ) k h = k .nx ρ := rfl
theorem rB_set (i : Nat) (m : M D) : rB (sSet i m ρ) k h = rB (m ρ) (fun x ρ1 => k .nx (ρ1.set i (some (.d x)))) h := by unfold sSet; rw [rB_bind]; rfl
theorem rB_setO (i : Nat) (m : M OV) : rB (sSetO i m ρ) k h = rB (m ρ) (fun x ρ1 => k .nx (ρ1.set i (some x))) h := by unfold sSetO; rw [rB_bind]; rfl
theorem rB_ret (m : M OV) : rB (sRet m ρ) k h = rB (m ρ) (fun x ρ1 => k (.rt x) ρ1) h := by unfold sRet; rw [rB_bind]; rfl
theorem rB_drop (m : M OV) : rB (sDrop m ρ) k h = rB (m ρ) (fun _ ρ1 => k .nx ρ1) h := by unfold sDrop; rw [rB_bind]; rfl
theorem rB_put (i : Nat) (mi mv : M D) : rB (sPut i mi mv ρ) k h = rB (mv ρ) (fun v ρ1 => oB (lO (gt ρ1 i)) fun _ => rB (mi ρ1) (fun x ρ2 => oB (lO (gt ρ2 i)) fun xs => oB ((iO x).bind (ixN xs.length)) fun n => k .nx (ρ2.set i (some (.lst (xs.set n v))))) h) h := by
 unfold sPut; rw [rB_bind]; congr; funext v ρ1
 unfold gt
 cases ρ1[i]? with
 | none => rfl
 | some w => cases w with
  | none => rfl
  | some o => cases o with
   | lst ys =>
    show rB ((mi ρ1).bind _) k h = rB (mi ρ1) _ h
    rw [rB_bind]; congr; funext x ρ2
    cases ρ2[i]? with
    | none => rfl
    | some w => cases w with
     | none => rfl
     | some o => cases o with
      | lst xs =>
       cases x with
       | int j =>
        show rB (match ixN xs.length j with | some n => .ok .nx (ρ2.set i (some (.lst (xs.set n v)))) | none => .bad) k h = oB (ixN xs.length j) _
        cases ixN xs.length j <;> rfl
       | _ => rfl
      | _ => cases x <;> rfl
   | _ => rfl
def twoO (xs : List D) : Option (D × D) := match xs with
 | [x, y] => some (x, y)
 | _ => none
@[simp] theorem twoO_2 (x y : D) : twoO [x, y] = some (x, y) := rfl
theorem rB_par (i j : Nat) (m : M (List D)) : rB (sPar i j m ρ) k h = rB (m ρ) (fun xs ρ1 => oB (twoO xs) fun z => k .nx ((ρ1.set i (some (.d z.1))).set j (some (.d z.2)))) h := by
 unfold sPar; rw [rB_bind]; congr; funext xs ρ1
 rcases xs with _ | ⟨x, _ | ⟨y, _ | _⟩⟩ <;> rfl
theorem rB_tgt (t : D → Env → Option Env) (m : M D) : rB (sTgt t m ρ) k h = rB (m ρ) (fun x ρ1 => oB (t x ρ1) fun ρ2 => k .nx ρ2) h := by
 unfold sTgt; rw [rB_bind]; congr; funext x ρ1
 cases t x ρ1 <;> rfl
theorem rB_aug (g : D → D → Option D) (i : Nat) (m : M D) : rB (sAug g i m ρ) k h = oB (dO (gt ρ i)) fun x => rB (m ρ) (fun y ρ1 => oB (g x y) fun z => k .nx (ρ1.set i (some (.d z)))) h := by
 unfold sAug gt
 cases ρ[i]? with
 | none => rfl
 | some w => cases w with
  | none => rfl
  | some o => cases o with
   | d x =>
    show rB ((m ρ).bind _) k h = rB (m ρ) _ h
    rw [rB_bind]; congr; funext y ρ1
    cases g x y <;> rfl
   | _ => rfl
theorem rB_raise (x : Str) : rB (sRaise x ρ) k h = h ⟨.own x, []⟩ ρ := rfl
theorem rB_sK (vs : List Nat) (m : M Fl) : rB (sK vs m ρ) k h = rB (m ρ) (fun f ρ1 => k f (wipeE ρ1 vs)) h := by unfold sK; rw [rB_bind]; rfl
theorem rB_sKb (vs : List Nat) (m : M Fl) : rB (sKb vs m ρ) k h = rB (m (wipeE ρ vs)) k h := rfl
theorem rB_for (it : M (List D)) (tg : D → Env → Option Env) (b : M Fl) : rB (sFor it tg b ρ) k h = rB (it ρ) (fun xs ρ1 => rB (forGo tg b xs ρ1) k h) h := by unfold sFor; rw [rB_bind]
theorem rB_try (b : M Fl) (hs : List ((ECls → Option Bool) × M Fl)) : rB (sTry b hs ρ) k h = rB (b ρ) k fun ξ ρ1 => rB (tryH hs ξ ρ1) k h := by
 unfold sTry; cases b ρ <;> rfl
theorem rB_noEx (r : Res Fl) : rB (noEx r) k h = rB r k hN := by cases r <;> rfl
theorem rB_h0 (ξ : Exc) : rB (tryH [] ξ ρ) k h = h ξ ρ := rfl
theorem rB_h1 (x : (ECls → Option Bool) × M Fl) (r : List ((ECls → Option Bool) × M Fl)) (ξ : Exc) : rB (tryH (x :: r) ξ ρ) k h = tH (x.1 ξ.c) (rB (x.2 ρ) k hN) (rB (tryH r ξ ρ) k h) := by
 rw [tryH]
 rcases x.1 ξ.c with _ | _ | _
 ·rfl
 ·rfl
 ·show rB (noEx _) k h = _; rw [rB_noEx]; rfl
end
theorem og_name (i : Nat) (x : D) (k : Env → T) : oB (tName i x ρ) k = k (ρ.set i (some (.d x))) := rfl
def tupO (n : Nat) (x : D) : Option (List D) := match x with
 | .tuple xs => if xs.length = n then some xs else none
 | _ => none
theorem og_tup (n : Nat) (u : List D → Env → Option Env) (x : D) (k : Env → T) : oB (tTup n u x ρ) k = oB (tupO n x) fun xs => oB (u xs ρ) k := by
 unfold tTup tupO
 cases x with
 | tuple xs =>
  show oB (if xs.length = n then _ else _) k = oB (if xs.length = n then _ else _) _
  split <;> rfl
 | _ => rfl
def starO (n : Nat) (x : D) : Option (List D) := match x with
 | .tuple xs => if n ≤ xs.length then some (xs.take n ++ [.list (xs.drop n)]) else none
 | .list xs => if n ≤ xs.length then some (xs.take n ++ [.list (xs.drop n)]) else none
 | _ => none
theorem og_star (n : Nat) (u : List D → Env → Option Env) (x : D) (k : Env → T) : oB (tStar n u x ρ) k = oB (starO n x) fun xs => oB (u xs ρ) k := by
 unfold tStar starO
 cases x with
 | tuple xs =>
  show oB (if n ≤ xs.length then _ else _) k = oB (if n ≤ xs.length then _ else _) _
  split <;> rfl
 | list xs =>
  show oB (if n ≤ xs.length then _ else _) k = oB (if n ≤ xs.length then _ else _) _
  split <;> rfl
 | _ => rfl
def nilO (xs : List D) : Option Unit := match xs with
 | [] => some ()
 | _ => none
def conO (xs : List D) : Option (D × List D) := match xs with
 | x :: r => some (x, r)
 | [] => none
@[simp] theorem nilO_n : nilO [] = some () := rfl
@[simp] theorem conO_c (x : D) (r : List D) : conO (x :: r) = some (x, r) := rfl
theorem og_nil (xs : List D) (k : Env → T) : oB (tsNil xs ρ) k = oB (nilO xs) fun _ => k ρ := by cases xs <;> rfl
theorem og_cons (t : D → Env → Option Env) (u : List D → Env → Option Env) (xs : List D) (k : Env → T) : oB (tsCons t u xs ρ) k = oB (conO xs) fun z => oB (t z.1 ρ) fun ρ1 => oB (u z.2 ρ1) k := by
 cases xs with
 | nil => rfl
 | cons x r =>
  show oB ((t x ρ).bind _) k = oB (t x ρ) _
  cases t x ρ <;> rfl
end
end DL
end
section
namespace DL
variable [DL.TheW]
open PySem PySem.Spec PyProof.Rows L2 PySem.W
section
variable {T α β γ σ : Type} [Tg T]
def endF (fx : List Nat) (os : List OV) : Fl → Env → Rf := fun f ρ' => match f with
 | .rt o => .ok o (outsOf fx ρ' 0 os)
 | .nx => .ok (.d .none) (outsOf fx ρ' 0 os)
 | _ => .bad
theorem endF_rt (fx : List Nat) (os : List OV) (o : OV) (ρ' : Env) : endF fx os (.rt o) ρ' = .ok o (outsOf fx ρ' 0 os) := rfl
theorem endF_nx (fx : List Nat) (os : List OV) (ρ' : Env) : endF fx os .nx ρ' = .ok (.d .none) (outsOf fx ρ' 0 os) := rfl
theorem endF_bk (fx : List Nat) (os : List OV) (ρ' : Env) : endF fx os .bk ρ' = .bad := rfl
theorem endF_ct (fx : List Nat) (os : List OV) (ρ' : Env) : endF fx os .ct ρ' = .bad := rfl
theorem fn_eq {n np : Nat} {fx : List Nat} {m : M Fl} {os : List OV} {ρ : Env} (hl : os.length = np) (e : os.map some ++ List.replicate (n - np) none = ρ) : fnOf n np fx m os = rB (m ρ) (endF fx os) hE := by
 unfold fnOf
 rw [if_pos hl, e]
 cases m ρ with
 | ok f ρ' => cases f <;> rfl
 | ex ξ ρ' => rfl
 | bad => rfl
def cn : Fl → Fl
 | .ct => .nx
 | f => f
def stp (t : D → Env → Option Env) (b : M Fl) (x : D) (ρ : Env) : Pr (Fl × Env) := oB (t x ρ) fun ρ1 => rB (b ρ1) (fun f ρ2 => .ok (cn f, ρ2)) hE
@[simp] theorem cn_nx : cn .nx = .nx := rfl
@[simp] theorem cn_ct : cn .ct = .nx := rfl
@[simp] theorem cn_bk : cn .bk = .bk := rfl
@[simp] theorem cn_rt (o : OV) : cn (.rt o) = .rt o := rfl
def forS (b : D → σ → Pr σ) : List D → σ → Pr σ
 | [], s => .ok s
 | x :: xs, s => pB (b x s) fun s => forS b xs s
theorem rB_forGo (t : D → Env → Option Env) (b : M Fl) (x : D) (xs : List D) (ρ : Env) (k : Fl → Env → T) : rB (forGo t b (x :: xs) ρ) k hE = pB (stp t b x ρ) fun z => match z.1 with
  | .nx => rB (forGo t b xs z.2) k hE
  | .ct => rB (forGo t b xs z.2) k hE
  | .bk => k .nx z.2
  | .rt o => k (.rt o) z.2 := by
 rw [forGo_cons]
 unfold stp
 rw [pB_o]
 cases t x ρ with
 | none => rfl
 | some ρ1 =>
  rw [oB_some]
  show rB ((b ρ1).bind _) k hE = _
  rw [rB_bind]
  cases b ρ1 with
  | ok f ρ2 => cases f <;> rfl
  | ex ξ ρ2 => rfl
  | bad => rfl
theorem for_rB {t : D → Env → Option Env} {b : M Fl} {E : σ → Env} {pb : D → σ → Pr σ} (H : ∀ x s, stp t b x (E s) = pB (pb x s) fun s' => .ok (.nx, E s')) (k : Fl → Env → T) : ∀ xs s, rB (forGo t b xs (E s)) k hE = pB (forS pb xs s) fun s' => k .nx (E s')
 | [], s => rfl
 | x :: xs, s => by
  rw [rB_forGo, H, pB_p, forS, pB_p]
  congr
  funext s'
  exact for_rB H k xs s'
inductive Fo (σ : Type) where
 | nx (s : σ)
 | bk (s : σ)
 | rt (o : OV) (s : σ)
def foF (E : σ → Env) : Fo σ → Fl × Env
 | .nx s => (.nx, E s)
 | .bk s => (.bk, E s)
 | .rt o s => (.rt o, E s)
theorem foF_nx (E : σ → Env) (s : σ) : foF E (.nx s) = (.nx, E s) := rfl
theorem foF_bk (E : σ → Env) (s : σ) : foF E (.bk s) = (.bk, E s) := rfl
theorem foF_rt (E : σ → Env) (o : OV) (s : σ) : foF E (.rt o s) = (.rt o, E s) := rfl
def foB (z : Fo σ) (n : σ → T) (r : OV → σ → T) : T := match z with
 | .nx s => n s
 | .bk s => n s
 | .rt o s => r o s
@[simp] theorem foB_nx (s : σ) (n : σ → T) (r : OV → σ → T) : foB (.nx s) n r = n s := rfl
@[simp] theorem foB_rt (o : OV) (s : σ) (n : σ → T) (r : OV → σ → T) : foB (.rt o s) n r = r o s := rfl
theorem pB_fo (z : Fo σ) (n : σ → Pr α) (r : OV → σ → Pr α) (k : α → T) : pB (foB z n r) k = foB z (fun s => pB (n s) k) fun o s => pB (r o s) k := by cases z <;> rfl
theorem nB_fo (z : Fo σ) (n : σ → Pr α) (r : OV → σ → Pr α) (k : α → T) : nB (foB z n r) k = foB z (fun s => nB (n s) k) fun o s => nB (r o s) k := by cases z <;> rfl
def lF (r : Pr (Fo σ)) (rt : OV → σ → T) (k : σ → T) : T := pB r fun z => foB z k rt
theorem lF_d (r : Pr (Fo σ)) (rt : OV → σ → T) (k : σ → T) : lF r rt k = pB r fun z => foB z k rt := rfl
@[simp] theorem lF_nx (s : σ) (rt : OV → σ → T) (k : σ → T) : lF (.ok (.nx s)) rt k = k s := rfl
@[simp] theorem lF_rt (o : OV) (s : σ) (rt : OV → σ → T) (k : σ → T) : lF (.ok (.rt o s)) rt k = rt o s := rfl
def forF (b : D → σ → Pr (Fo σ)) : List D → σ → Pr (Fo σ)
 | [], s => .ok (.nx s)
 | x :: xs, s => pB (b x s) fun z => match z with
  | .nx s => forF b xs s
  | .bk s => .ok (.nx s)
  | .rt o s => .ok (.rt o s)
theorem for_rBF {t : D → Env → Option Env} {b : M Fl} {E : σ → Env} {pb : D → σ → Pr (Fo σ)} (H : ∀ x s, stp t b x (E s) = pB (pb x s) fun z => .ok (foF E z)) (k : Fl → Env → T) : ∀ xs s, rB (forGo t b xs (E s)) k hE = pB (forF pb xs s) fun z => foB z (fun s => k .nx (E s)) fun o s => k (.rt o) (E s)
 | [], s => rfl
 | x :: xs, s => by
  rw [rB_forGo, H, pB_p, forF, pB_p]
  congr
  funext z
  cases z with
  | nx s' => exact for_rBF H k xs s'
  | bk s' => rfl
  | rt o s' => rfl
def lst1 (vs : List Nat) (t : D → Env → Option Env) (tst : M Bool) (e : M D) (x : D) (ρ : Env) : Pr (Option D × Env) := oB (t x ρ) fun ρ1 => rB (tst ρ1) (fun b ρ2 => if b = true then rB (e ρ2) (fun y ρ3 => .ok (some y, wipeE ρ3 vs)) hN else .ok (none, wipeE ρ2 vs)) hN
def opC (o : Option D) (ys : List D) : List D := match o with
 | some y => y :: ys
 | none => ys
def lcP (pe : D → Pr (Option D)) : List D → Pr (List D)
 | [] => .ok []
 | x :: xs => nB (pe x) fun o => nB (lcP pe xs) fun ys => .ok (opC o ys)
def lcS (pe : D → σ → Pr (Option D × σ)) : List D → σ → Pr (List D × σ)
 | [], s => .ok ([], s)
 | x :: xs, s => nB (pe x s) fun o => nB (lcS pe xs o.2) fun z => .ok (opC o.1 z.1, z.2)
theorem rB_lcGo (vs : List Nat) (t : D → Env → Option Env) (tst : M Bool) (e : M D) (x : D) (xs : List D) (ρ : Env) (k : List D → Env → T) (h : Exc → Env → T) : rB (lcGo vs t tst e (x :: xs) ρ) k h = nB (lst1 vs t tst e x ρ) fun o => rB (lcGo vs t tst e xs o.2) (fun ys ρ' => k (opC o.1 ys) ρ') hN := by
 have hd : lcGo vs t tst e (x :: xs) ρ = match t x ρ with
  | none => .bad
  | some ρ1 => (tst ρ1).bindN fun b ρ2 => if b = true then (e ρ2).bindN fun y ρ3 => (lcGo vs t tst e xs (wipeE ρ3 vs)).bindN fun ys ρ4 => .ok (y :: ys) ρ4 else lcGo vs t tst e xs (wipeE ρ2 vs) := rfl
 have nx : ∀ (xs : List D) (ρ : Env) (h h' : Exc → Env → T) (k : List D → Env → T), rB (lcGo vs t tst e xs ρ) k h = rB (lcGo vs t tst e xs ρ) k h' := by
  intro xs
  induction xs with
  | nil => intros; rfl
  | cons x xs ih =>
   intro ρ h h' k
   have hd : lcGo vs t tst e (x :: xs) ρ = match t x ρ with
    | none => .bad
    | some ρ1 => (tst ρ1).bindN fun b ρ2 => if b = true then (e ρ2).bindN fun y ρ3 => (lcGo vs t tst e xs (wipeE ρ3 vs)).bindN fun ys ρ4 => .ok (y :: ys) ρ4 else lcGo vs t tst e xs (wipeE ρ2 vs) := rfl
   rw [hd]
   cases t x ρ with
   | none => rfl
   | some ρ1 =>
    show rB ((tst ρ1).bindN _) k h = rB ((tst ρ1).bindN _) k h'
    rw [rB_bindN, rB_bindN]
    congr
    funext b ρ2
    cases b with
    | true => show rB ((e ρ2).bindN _) k h = rB ((e ρ2).bindN _) k h'; rw [rB_bindN, rB_bindN]; congr; funext y ρ3; rw [rB_bindN, rB_bindN]; rfl
    | false => exact ih _ _ _ _
 rw [hd]
 unfold lst1
 cases t x ρ with
 | none => rfl
 | some ρ1 =>
  rw [oB_some]
  show rB ((tst ρ1).bindN _) k h = _
  rw [rB_bindN]
  cases tst ρ1 with
  | ok b ρ2 =>
   cases b with
   | true =>
    show rB ((e ρ2).bindN _) k h = nB (rB (e ρ2) _ hN) _
    rw [rB_bindN]
    cases e ρ2 with
    | ok y ρ3 =>
     show rB ((lcGo vs t tst e xs (wipeE ρ3 vs)).bindN _) k h = rB (lcGo vs t tst e xs (wipeE ρ3 vs)) _ hN
     rw [rB_bindN]
     rfl
    | ex ξ ρ3 => rfl
    | bad => rfl
   | false => exact nx _ _ _ _ _
  | ex ξ ρ2 => rfl
  | bad => rfl
theorem lc_rB {vs : List Nat} {t : D → Env → Option Env} {tst : M Bool} {e : M D} {ρ : Env} {pe : D → Pr (Option D)} (H : ∀ x, lst1 vs t tst e x ρ = nB (pe x) fun o => .ok (o, ρ)) : ∀ (xs : List D) (k : List D → Env → T) (h : Exc → Env → T), rB (lcGo vs t tst e xs ρ) k h = nB (lcP pe xs) fun ys => k ys ρ
 | [], k, h => rfl
 | x :: xs, k, h => by
  rw [rB_lcGo, H, nB_n, lcP, nB_n]
  congr
  funext o
  rw [nB_ok, lc_rB H xs, nB_n]
  rfl
theorem lc_rBS {vs : List Nat} {t : D → Env → Option Env} {tst : M Bool} {e : M D} {E : σ → Env} {pe : D → σ → Pr (Option D × σ)} (H : ∀ x s, lst1 vs t tst e x (E s) = nB (pe x s) fun o => .ok (o.1, E o.2)) : ∀ (xs : List D) (s : σ) (k : List D → Env → T) (h : Exc → Env → T), rB (lcGo vs t tst e xs (E s)) k h = nB (lcS pe xs s) fun z => k z.1 (E z.2)
 | [], s, k, h => rfl
 | x :: xs, s, k, h => by
  rw [rB_lcGo, H, nB_n, lcS, nB_n]
  congr
  funext o
  rw [nB_ok, lc_rBS H xs, nB_n]
  rfl
theorem rB_lc (vs : List Nat) (it : M (List D)) (t : D → Env → Option Env) (tst : M Bool) (e : M D) (ρ : Env) (k : List D → Env → T) (h : Exc → Env → T) : rB (mLc vs it t tst e ρ) k h = rB (it ρ) (fun xs ρ1 => if dataAt ρ1 vs = true then rB (lcGo vs t tst e xs (wipeE ρ1 vs)) (fun ys ρ2 => k ys (backE ρ1 vs ρ2)) hN else Tg.bad) h := by
 unfold mLc; rw [rB_bind]; congr; funext xs ρ1; rw [rB_i, rB_bindN]; rfl
theorem rB_lcN (c : FC) (it b : M (List D)) (ρ : Env) (k : List D → Env → T) (h : Exc → Env → T) : rB (mLcN c it b ρ) k h = rB (it ρ) (fun xs ρ1 => if dataAt ρ1 c.vs = true then rB (cLoop c b xs (wipeE ρ1 c.vs)) (fun ys ρ2 => k ys (backE ρ1 c.vs ρ2)) hN else Tg.bad) h := by
 unfold mLcN; rw [rB_bind]; congr; funext xs ρ1; rw [rB_i, rB_bindN]; rfl
theorem rB_cIn (c : FC) (it b : M (List D)) (ρ : Env) (k : List D → Env → T) (h : Exc → Env → T) : rB (cIn c it b ρ) k h = rB (it ρ) (fun xs ρ1 => rB (cLoop c b xs (wipeE ρ1 c.vs)) k h) hN := by
 unfold cIn; rw [rB_bindN]
theorem rB_cEnd (e : M D) (ρ : Env) (k : List D → Env → T) (h : Exc → Env → T) : rB (cEnd e ρ) k h = rB (e ρ) (fun y ρ1 => k [y] ρ1) hN := by
 unfold cEnd; rw [rB_bindN]; rfl
def szO (ys : List D) : Option (List D) := if ys.length ≤ sizeLine then some ys else none
theorem rB_lc2 (vs : List Nat) (it : M (List D)) (t : D → Env → Option Env) (tst : M Bool) (vs1 : List Nat) (it1 : M (List D)) (t1 : D → Env → Option Env) (tst1 : M Bool) (e : M D) (ρ : Env) (k : List D → Env → T) (h : Exc → Env → T) : rB (mLc2 vs it t tst vs1 it1 t1 tst1 e ρ) k h = rB (mLcN ⟨vs, t, tst⟩ it (cIn ⟨vs1, t1, tst1⟩ it1 (cEnd e)) ρ) (fun ys ρ1 => oB (szO ys) fun ys => k ys ρ1) h := by
 unfold mLc2; rw [rB_bind]; congr; funext ys ρ1
 unfold szO
 rw [rB_i]
 split <;> rfl
theorem rB_dc (vs : List Nat) (it : M (List D)) (t : D → Env → Option Env) (tst : M Bool) (x y : M D) (ρ : Env) (k : KD → Env → T) (h : Exc → Env → T) : rB (mDc vs it t tst x y ρ) k h = rB (mLcN ⟨vs, t, tst⟩ it (cEnd (mPairE x y)) ρ) (fun ys ρ1 => oB (szO ys) fun ys => k (kdsOf ys) ρ1) h := by
 unfold mDc; rw [rB_bind]; congr; funext ys ρ1
 unfold szO
 rw [rB_i]
 split <;> rfl
noncomputable def iB (c : Prop) (x : T) : T := by
 classical exact if c then x else Tg.bad
theorem iB_t {c : Prop} (h : c) (x : T) : iB c x = x := if_pos h
@[simp] theorem iB_True (x : T) : iB True x = x := if_pos trivial
theorem pB_iB (c : Prop) (x : Pr α) (k : α → T) : pB (iB c x) k = iB c (pB x k) := by
 by_cases h : c
 ·rw [iB_t h, iB_t h]
 ·unfold iB; rw [if_neg h, if_neg h]; rfl
theorem nB_iB (c : Prop) (x : Pr α) (k : α → T) : nB (iB c x) k = iB c (nB x k) := by
 by_cases h : c
 ·rw [iB_t h, iB_t h]
 ·unfold iB; rw [if_neg h, if_neg h]; rfl
theorem rB_tmp (i : Nat) (fb : List Nat) (b : M Fl) (ρ : Env) (k : Fl → Env → T) (h : Exc → Env → T) : rB (sTmp i fb b ρ) k h = oB (lO (gt ρ i)) fun xs => rB (b (ρ.set i (some (.d (.list xs))))) (fun f ρ' => sq f (iB (ρ'[i]? = some (some (.d (.list xs))) ∧ okSlots i fb 0 (ρ.set i (some (.d (.list xs)))) ρ') (k .nx (ρ'.set i (some (.lst xs))))) Tg.bad) hN := by
 unfold sTmp gt
 cases ρ[i]? with
 | none => rfl
 | some w => cases w with
  | none => rfl
  | some o => cases o with
   | lst xs =>
    simp only [lO, oB_some]
    cases b (ρ.set i (some (.d (.list xs)))) with
    | ok f ρ' =>
     cases f with
     | nx =>
      by_cases q : ρ'[i]? = some (some (.d (.list xs))) ∧ okSlots i fb 0 (ρ.set i (some (.d (.list xs)))) ρ'
      ·simp only [rB, sq, iB_t q, if_pos q]
      ·simp only [rB, sq, iB, if_neg q]
     | _ => rfl
    | ex ξ ρ' => rfl
    | bad => rfl
   | _ => rfl
end
section
variable {α σ : Type}
theorem forS_inv {b : D → σ → Pr σ} : ∀ {xs : List D} {s : σ} (I : Nat → σ → Prop), I 0 s → (∀ i x s, xs[i]? = some x → I i s → ∃ s', b x s = .ok s' ∧ I (i + 1) s') → ∃ s', forS b xs s = .ok s' ∧ I xs.length s'
 | [], s, I, h0, _ => ⟨s, rfl, h0⟩
 | x :: xs, s, I, h0, hs => by
  obtain ⟨s1, h2, h3⟩ := hs 0 x s rfl h0
  obtain ⟨s', h4, h5⟩ := forS_inv (xs := xs) (s := s1) (fun i => I (i + 1)) h3 fun i y s hy hp => hs (i + 1) y s (by simpa using hy) hp
  exact ⟨s', by rw [forS, h2]; exact h4, h5⟩
theorem forS_map {b : D → σ → Pr σ} {f : α → D} : ∀ {l : List α} {s : σ} (I : List α → σ → Prop), I [] s → (∀ pre a post s, l = pre ++ a :: post → I pre s → ∃ s', b (f a) s = .ok s' ∧ I (pre ++ [a]) s') → ∃ s', forS b (l.map f) s = .ok s' ∧ I l s'
 | l, s, I, h0, hs => by
  obtain ⟨s', h1, h2⟩ := forS_inv (b := b) (xs := l.map f) (s := s) (fun i s => I (l.take i) s) (by simpa using h0) fun i x s hx hI => by
   rw [List.getElem?_map] at hx
   obtain ⟨a, ha, rfl⟩ := Option.map_eq_some_iff.mp hx
   obtain ⟨hi, e⟩ := List.getElem?_eq_some_iff.mp ha
   have sp : l = l.take i ++ a :: l.drop (i + 1) := by rw [← e]; simp
   obtain ⟨s', k1, k2⟩ := hs _ _ _ s sp hI
   exact ⟨s', k1, by rw [List.take_add_one, ha]; exact k2⟩
  rw [List.length_map, List.take_length] at h2
  exact ⟨s', h1, h2⟩
theorem lcP_no {pe : D → Pr (Option D)} {f : α → D} : ∀ {l : List α}, (∀ a ∈ l, pe (f a) = .ok none) → lcP pe (l.map f) = .ok []
 | [], _ => rfl
 | a :: l, h => by
  rw [List.map_cons, lcP, h a List.mem_cons_self, nB_ok, lcP_no fun y hy => h y (List.mem_cons_of_mem _ hy)]
  rfl
end
end DL
end
section
namespace DL
variable [DL.TheW]
open PySem PySem.Spec PyProof.Rows L2 PySem.W
theorem ite_b {T : Type} (b : Bool) (x y : T) : (if (!b) = true then x else y) = if b = true then y else x := by cases b <;> rfl
theorem if_tt {T : Type} (x y : T) : (if true = true then x else y) = x := rfl
theorem if_ff {T : Type} (x y : T) : (if false = true then x else y) = y := rfl
theorem if_T {T : Type} [d : Decidable True] (x y : T) : (@ite T True d x y) = x := if_pos trivial
theorem if_F {T : Type} [d : Decidable False] (x y : T) : (@ite T False d x y) = y := if_neg id
theorem tt_and (b : Bool) : (true && b) = b := rfl
theorem ff_or (b : Bool) : (false || b) = b := rfl
theorem not_ff : (!false) = true := rfl
theorem cont_n (v : Nat) : ([] : List Nat).contains v = false := rfl
theorem cont_c (a v : Nat) (l : List Nat) : (a :: l).contains v = ((v == a) || l.contains v) := List.contains_cons
theorem gt_getE (a : Option OV) (ρ : Env) (i : Nat) : (a :: ρ)[i + 1]? = ρ[i]? := List.getElem?_cons_succ
theorem gt_z (a : Option OV) (ρ : Env) : (a :: ρ)[0]? = some a := rfl
theorem set_s (a w : Option OV) (ρ : Env) (i : Nat) : List.set (a :: ρ) (i + 1) w = a :: List.set ρ i w := rfl
theorem set_z (a w : Option OV) (ρ : Env) : List.set (a :: ρ) 0 w = w :: ρ := rfl
theorem nil_app' (z : OV) : ([] : List OV) ++ [z] = [z] := rfl
theorem con_app' (a z : OV) (r : List OV) : (a :: r) ++ [z] = a :: (r ++ [z]) := rfl
theorem bind_some' {α β : Type} (a : α) (f : α → Option β) : (some a).bind f = f a := rfl
theorem dAt_nil (ρ : Env) : dataAt ρ [] = true := rfl
theorem dAt_d (ρ : Env) (v : Nat) (vs : List Nat) : dataAt ρ (v :: vs) = ((match gt ρ v with
  | some (.d _) => !vs.contains v
  | some _ => false
  | _ => true) && dataAt ρ vs) := by
 unfold gt
 rw [dataAt]
 cases ρ[v]? with
 | none => rfl
 | some w => cases w with
  | none => rfl
  | some o => cases o <;> rfl
theorem back_nil (ρ1 ρ2 : Env) : backE ρ1 [] ρ2 = ρ2 := rfl
theorem back_cons (ρ1 ρ2 : Env) (v : Nat) (vs : List Nat) : backE ρ1 (v :: vs) ρ2 = backE ρ1 vs (ρ2.set v (gt ρ1 v)) := rfl
theorem fst_d {α β : Type} (a : α) (b : β) : (a, b).1 = a := rfl
theorem snd_d {α β : Type} (a : α) (b : β) : (a, b).2 = b := rfl
abbrev RB1 := And.intro @oB_some (And.intro @oB_none (And.intro @pB_ok (And.intro @pB_ex (And.intro @pB_bad (And.intro @nB_ok (And.intro @nB_ex (And.intro @nB_bad (And.intro @cX_ok (And.intro @cX_ex (And.intro @cX_bad (And.intro @tH_t (And.intro @tH_f (And.intro @bad_rf (And.intro @ex_rf (And.intro @bad_pr (And.intro @ex_pr (And.intro @pB_o (And.intro @pB_p (And.intro @pB_n (And.intro @pB_x (And.intro @pB_i (And.intro @pB_h (And.intro @nB_o (And.intro @nB_p (And.intro @nB_n (And.intro @nB_x (And.intro @nB_i (And.intro @cB_d (And.intro @gt_0 (And.intro @gt_s (And.intro @gt_tail (And.intro @dO_d (And.intro @lO_l (And.intro @lk_d (And.intro @lk_l (And.intro @fz_d (And.intro @fz_l (And.intro @bO_b (And.intro @iO_i (And.intro @sO_s (And.intro @foB_nx (And.intro @foB_rt (And.intro @pB_fo (And.intro @nB_fo (And.intro @lF_d (And.intro @pB_iB @nB_iB))))))))))))))))))))))))))))))))))))))))))))))
abbrev RB2 := And.intro @rB_ok (And.intro @rB_ex (And.intro @rB_bad (And.intro @rB_i (And.intro @rB_var (And.intro @rB_C (And.intro @rB_look (And.intro @rB_frzV (And.intro @rB_bin (And.intro @rB_f1 (And.intro @rB_chain (And.intro @rB_andV (And.intro @rB_orV (And.intro @rB_notV (And.intro @rB_tup (And.intro @rB_lstF (And.intro @rB_frz (And.intro @rB_sl (And.intro @rB_LM (And.intro @rB_extend (And.intro @rB_lenK (And.intro @rB_txt (And.intro @rB_dict (And.intro @rB_dcF (And.intro @rB_pairE (And.intro @rB_nilP (And.intro @rB_consP (And.intro @rB_B (And.intro @rB_and (And.intro @rB_or (And.intro @rB_not (And.intro @rB_yes (And.intro @rB_if (And.intro @rB_nil (And.intro @rB_cons (And.intro @rB_fN (And.intro @rB_binN (And.intro @rB_items (And.intro @rB_itemsP (And.intro @rB_range1 (And.intro @rB_zip (And.intro @rB_enumA (And.intro @rB_sortK (And.intro @rB_setOf (And.intro @rB_setC (And.intro @rB_setOr (And.intro @rB_bNo (And.intro @rB_bTo (And.intro @rB_D (And.intro @rB_lst @rB_move)))))))))))))))))))))))))))))))))))))))))))))))))
abbrev RB3 := And.intro @rB_call (And.intro @rB_gNil (And.intro @rB_gD (And.intro @rB_gO (And.intro @gath_nil (And.intro @gath_d (And.intro @gath_o (And.intro @pb_nil (And.intro @pb_d (And.intro @pb_o (And.intro @sq_nx (And.intro @sq_rt (And.intro @sq_bk (And.intro @sq_ct (And.intro @rB_seq (And.intro @rB_sNil (And.intro @rB_set (And.intro @rB_setO (And.intro @rB_ret (And.intro @rB_drop (And.intro @rB_put (And.intro @rB_par (And.intro @rB_tgt (And.intro @rB_aug (And.intro @rB_raise (And.intro @rB_sK (And.intro @rB_sKb (And.intro @rB_for (And.intro @rB_try (And.intro @rB_h0 (And.intro @rB_h1 (And.intro @og_name (And.intro @og_tup (And.intro @og_star (And.intro @og_nil (And.intro @og_cons (And.intro @twoO_2 (And.intro @nilO_n (And.intro @conO_c (And.intro @endF_rt (And.intro @endF_nx (And.intro @endF_bk (And.intro @endF_ct (And.intro @cn_nx (And.intro @cn_ct (And.intro @cn_bk (And.intro @cn_rt (And.intro @foF_nx (And.intro @foF_bk (And.intro @foF_rt (And.intro @rB_lc (And.intro @rB_lcN (And.intro @rB_cIn (And.intro @rB_cEnd (And.intro @rB_lc2 (And.intro @rB_dc @rB_tmp)))))))))))))))))))))))))))))))))))))))))))))))))))))))
abbrev RB4 := And.intro @tt_and (And.intro @ff_or (And.intro @not_ff (And.intro @cont_n (And.intro @cont_c (And.intro @if_T (And.intro @if_F (And.intro @ite_b (And.intro @if_tt (And.intro @if_ff (And.intro @gt_getE (And.intro @gt_z (And.intro @set_s (And.intro @set_z (And.intro @nil_app' (And.intro @con_app' (And.intro @bind_some' (And.intro @dAt_nil (And.intro @dAt_d (And.intro @back_nil (And.intro @back_cons (And.intro @wipeE_nil (And.intro @wipeE_cons (And.intro @fst_d @snd_d)))))))))))))))))))))))
abbrev RB := And.intro @RB1 (And.intro @RB2 (And.intro @RB3 @RB4))
end DL
end
section
namespace DL
variable [DL.TheW]
open PySem PySem.Spec PyProof.Rows L2
def slA : Option Nat → Addr → Sl → Sl
 | none, _, σ => σ
 | some i, a, σ => σ.set i (some (.ref a))
def slE : Option Nat → Sl → Sl
 | none, σ => σ
 | some i, σ => σ.set i none
def endA (i : Option Nat) (D : Ends) : Ends := { nx := fun σ H => D.nx (slE i σ) H, rt := D.rt, bk := fun σ H => D.bk (slE i σ) H, ct := fun σ H => D.ct (slE i σ) H }
abbrev HTr := Value × Option Nat × (Addr → Value → Option Addr → TS)
def wMix (K : Frag) (Wo : WX) (D : Ends) : List HTr → WX
 | [] => Wo
 | h :: r => fun cls d σ H => ∃ b, PySem.W.exmOne K cls h.1 = some b ∧ (b = true → ∀ a, H a = none → h.2.2 a cls d (endA h.2.1 D) (slA h.2.1 a σ) H) ∧ (b = false → wMix K Wo D r cls d σ H)
inductive OnOk (X : Cx) : Option Str → Option Nat → Prop
 | no : OnOk X none none
 | as {n : Str} {i : Nat} (hN : X.N.Nodup) (hi : X.N[i]? = some n) (hl : X.env.kindOf n = some .local) : OnOk X (some n) (some i)
inductive HdsM (X : Cx) : List ExceptHandler → List HTr → Prop
 | nil : HdsM X [] []
 | cons {x : Str} {h : HTr} {b₀ : Stmt} {suite : List Stmt} {np pos' : Pos} {hds : List ExceptHandler} {l : List HTr} {on : Option Str} (hc : Names X x h.1) (ho : OnOk X on h.2.1)
   (hsu : ∀ (a : Addr) (oe : Obj) (cls : Value) (d : Option Addr) (pn : List (Addr × Obj)), Zc cls d oe → (∃ vs, oe.data = .fields vs) → PSs (X.suite a ((a, oe) :: pn)) (b₀ :: suite) (h.2.2 a cls d)) (r : HdsM X hds l) :
   HdsM X (.ExceptHandler (some (.Name x np)) on (b₀ :: suite) pos' :: hds) (h :: l)
section
variable {X : Cx} {Wo : WX} {D : Ends} {a : Addr} {B : Heap} {sI s' : Shared} {pins : List (Addr × Obj)} {σ : Sl} {H : Hp} {cls : Value} {d : Option Addr}
theorem mix_go (hs : X.stack = X.env :: X.outer) (hf : X.env.frame = some X.env.locals) (tk : TakesR rg X Wo) (J : Inv X pins σ H sI) (nb : ∀ b o, sI.heap.get? b = some o → b ∉ frs X.stack → B.get? b = some o)
  (fl : HandSPX.FlyingZ B (X.env :: X.outer) a (ZR rg cls d) s'.heap) (up : sI.heap.UpToSlots s'.heap) (na : H a = none) (os : s'.os = sI.os) (ag : AllBare s'.gens) :
  ∀ {hds : List ExceptHandler} {l : List HTr}, HdsM X hds l → wMix X.K Wo D l cls d σ H → wpAny (model X.prog X.w) X.A (handleBy (.ref a) X.env hds) (L2.SP X pins D) X.xe s'
 | _, _, .nil, w => by
  refine wpAny_handleBy_nil ?_
  obtain ⟨_, _, _, _, _, T, _, _, he, _, hd, h1, _⟩ := id fl
  unfold PySem.passOn
  refine wpAny_bind (wpAny_field he hd h1 ?_)
  rw [if_neg (show ¬ ((Value.ref T == Value.none) = true) from by simp)]
  have q : wpAny (model X.prog X.w) X.A (setFlight (.ref a) X.env.frame) (fun _ s4 => wpAny (model X.prog X.w) X.A (throw (.ref a) : Sem Flow) (L2.SP X pins D) X.xe s4) X.xe s' := by
   rw [hf]
   refine HandSPX.setFlight_upZ fl fun h4 hh up4 => wpAny_throw (tk.at J nb (up.trans up4) (.inr (.inr (by rw [hs]; exact hh))) na os ag w)
  first
   | exact wpAny_bind (wpAny_pure (wpAny_bind q))
   | exact wpAny_bind q
 | _, _, .cons (x := x) (h := h) (b₀ := b₀) (suite := suite) (np := np) (pos' := pos') hc ho hsu r, w => by
  obtain ⟨b, hb, yes, no⟩ := w
  have ok := J.ok
  obtain ⟨oe, vs, he, hz, hd⟩ := fl.there
  have apart : ∀ {g : Heap} {o : Obj} {vs : Array Value}, g.FunFrames B (X.env :: X.outer) → g.get? a = some o → o.data = .fields vs → a ≠ X.env.locals ∧ a ∉ X.fs := fun {g o vs} ff e dd => by
   have nm : a ∉ frs (X.env :: X.outer) := fun hm => by
    obtain ⟨_, o', e', hnf⟩ := ff.mem hm
    rw [e] at e'
    cases e'
    exact hnf _ dd
   refine ⟨fun z => nm (List.mem_filterMap.mpr ⟨X.env, List.mem_cons_self, by rw [hf, z]⟩), fun hm => ?_⟩
   obtain ⟨e, he, q⟩ := List.mem_filterMap.mp hm
   exact nm (List.mem_filterMap.mpr ⟨e, List.mem_cons_of_mem _ he, q⟩)
  obtain ⟨nL, nF⟩ := apart fl.2.2.1 he hd
  have S := (J.landed nb fl.1 up os ag).suite he hd na nL nF
  refine wpAny_handleBy_cons (codeAny_handlers_test ?_) (by intro q; cases q)
  have LT : PySem.W.Looks (model X.prog X.w) s'.heap (typeOf (.ref a)) cls := fun A Q E s k q => wpAny_typeOf_ref (k _ _ he) (by rw [hz.zc.1]; exact q)
  have test : ∀ {Q : Value → Shared → Prop} {E : Value → Shared → Prop}, Q h.1 s' → wpAny (model X.prog X.w) (X.A.mark (some (.ref a))) (eval (.Name x np) X.env) Q E s' := fun {Q E} q => by
   obtain ⟨hg, hdb, hm | ⟨hm, hv, hnn⟩⟩ := hc
   ·exact ld_glob (X := X.suite a ((a, oe) :: (X.pn ++ pins))) S hg hm q hdb
   ·exact ld_blt (X := X.suite a ((a, oe) :: (X.pn ++ pins))) S hg hm hv q hnn hdb
  refine test ((PySem.W.exm_one (M := model X.prog X.w) S.kIn LT hb).here ?_)
  cases b with
  | false =>
   show wpAny _ X.A (handleBy (.ref a) X.env _) _ _ _
   exact mix_go hs hf tk J nb fl up na os ag r (no rfl)
  | true =>
   have w2 := yes rfl a na
   revert w2
   generalize h.2.1 = oi at ho
   cases ho with
   | no =>
    intro w2
    refine codeAny_handlers_suite (HandSPX.lands_againZ fl fun h4 fl4 up4 => ?_)
    obtain ⟨oe4, vs4, he4, hz4, hd4⟩ := fl4.there
    have S4 := (J.landed (s' := { s' with heap := h4 }) nb fl4.1 (up.trans up4) os ag).suite he4 hd4 na nL nF
    refine wpAny_mono ((hsu a oe4 cls d (X.pn ++ pins) hz4.zc ⟨_, hd4⟩).run [] _ _ H _ S4 w2) (fun f s6 z => ?_) (fun _ _ z => False.elim z)
    cases f with
    | ret u =>
     obtain ⟨v6, σ6, H6, S6, r6, q6⟩ := z
     exact ⟨_, _, _, S6.unsuite ok, r6, q6⟩
    | next => obtain ⟨σ6, H6, S6, q6⟩ := z; exact ⟨_, _, S6.unsuite ok, q6⟩
    | brk => obtain ⟨σ6, H6, S6, q6⟩ := z; exact ⟨_, _, S6.unsuite ok, q6⟩
    | cont => obtain ⟨σ6, H6, S6, q6⟩ := z; exact ⟨_, _, S6.unsuite ok, q6⟩
   | @as n i hN hi hl =>
    intro w2
    refine codeAny_handlers_suite_as (HandSPX.lands_againZ fl fun h4 fl4 up4 => ?_)
    obtain ⟨oe4, vs4, he4, hz4, hd4⟩ := fl4.there
    have S4 := (J.landed (s' := { s' with heap := h4 }) nb fl4.1 (up.trans up4) os ag).suite he4 hd4 na nL nF
    refine store_ok (X := X.suite a ((a, oe4) :: (X.pn ++ pins))) (v := .ref a) S4 hN hi (.inl hl) rfl (fun s5 S5 => ?_) (.inr hl)
    refine wpAny_mono ((hsu a oe4 cls d (X.pn ++ pins) hz4.zc ⟨_, hd4⟩).run [] s5 _ H _ S5 w2) (fun f s6 z => ?_) (fun _ _ z => False.elim z)
    have fin : ∀ {σ6 : Sl} {H6 : Hp} {Q : Shared → Prop}, Inv (X.suite a ((a, oe4) :: (X.pn ++ pins))) [] σ6 H6 s6 → (∀ s7, Inv X pins (σ6.set i none) H6 s7 → Q s7) →
      wpAny (model X.prog X.w) X.A (do bindName X.env n .none; unbindBehindTheSuite X.env n pos') (fun _ s7 => Q s7) X.xe s6 := fun S6 q => gone_ok (S6.unsuite ok) hN hi hl q
    cases f with
    | ret u =>
     obtain ⟨v6, σ6, H6, S6, r6, q6⟩ := z
     exact fin S6 fun s7 J7 => ⟨_, _, _, J7, r6, q6⟩
    | next => obtain ⟨σ6, H6, S6, q6⟩ := z; exact fin S6 fun s7 J7 => ⟨_, _, J7, q6⟩
    | brk => obtain ⟨σ6, H6, S6, q6⟩ := z; exact fin S6 fun s7 J7 => ⟨_, _, J7, q6⟩
    | cont => obtain ⟨σ6, H6, S6, q6⟩ := z; exact fin S6 fun s7 J7 => ⟨_, _, J7, q6⟩
theorem sp_ofTry {X : Cx} {pins : List (Addr × Obj)} {D : Ends} {W : WX} {xe : Value → Shared → Prop} {f : Flow} {s : Shared} (ok : X.Ok) (h : L2.SP (X.tr (X.pn ++ pins) xe) [] D f s) : L2.SP X pins D f s := by
 cases f with
 | ret u => obtain ⟨v, σ', H', J', r, q⟩ := h; exact ⟨v, σ', H', J'.ofTry ok, r, q⟩
 | next => obtain ⟨σ', H', J', q⟩ := h; exact ⟨σ', H', J'.ofTry ok, q⟩
 | brk => obtain ⟨σ', H', J', q⟩ := h; exact ⟨σ', H', J'.ofTry ok, q⟩
 | cont => obtain ⟨σ', H', J', q⟩ := h; exact ⟨σ', H', J'.ofTry ok, q⟩
theorem ps_try_mix {body : List Stmt} {h₀ : ExceptHandler} {hds : List ExceptHandler} {l : List HTr} {pos : Pos} {tb : WX → TS} (hs : X.stack = X.env :: X.outer) (hf : X.env.frame = some X.env.locals) (tk : TakesR rg X Wo)
  (hb : ∀ (W : WX) (pn : List (Addr × Obj)) (xe : Value → Shared → Prop), TakesR rg (X.tr pn xe) W → PassesOwn (model X.prog X.w) X.A X.env xe → PSs (X.tr pn xe) body (tb W))
  (hh : HdsM X (h₀ :: hds) l) : PS X (.Try body (h₀ :: hds) [] [] pos) (fun D σ H => tb (wMix X.K Wo D l) D σ H) := by
 refine ⟨fun pins s σ H D I h => ?_⟩
 have ok := I.ok
 refine wpAny_Try_except (wpAny_mono ((hb (wMix X.K Wo D l) (X.pn ++ pins) (fun e s₁ => wpAny (model X.prog X.w) X.A (noteFrame e X.env) (fun _ s₂ => wpAny (model X.prog X.w) X.A (setFlight e none) (fun _ s₃ =>
  wpAny (model X.prog X.w) X.A (handleBy e X.env (h₀ :: hds)) (L2.SP X pins D) X.xe s₃) X.xe s₂) X.xe s₁) (TakesR.mk fun a B sI s' pins' σ' H' cls d J' nb up sky na os ag w => ?_) PassesOwn.looking).run [] s σ H D (I.toTry _) h) (fun f s1 z => ?_) (fun e s1 he => he))
 ·have fr : X.A.frames = some (X.env :: X.outer) := by rw [ok.frames, hs]
  have sky2 : Sky B (X.env :: X.outer) a (ZR rg cls d) X.env.locals s'.heap := by rw [← hs]; exact sky
  show wpAny (model X.prog X.w) X.A (noteFrame (.ref a) X.env) _ _ _
  refine landR fr hf sky2 fun h3 fl up3 => mix_go (s' := { s' with heap := h3 }) hs hf tk (J'.ofTry ok) nb fl (up.trans up3) na os ag hh w
 ·have z2 : L2.SP X pins D f s1 := sp_ofTry (W := Wo) ok z
  cases f with
  | next => exact wpAny_execs_nil z2
  | brk => exact z2
  | cont => exact z2
  | ret u => exact z2
end
end DL
end
section
namespace DL
variable [DL.TheW]
open PySem PySem.Spec PyProof.Rows L2
section
variable {K : Frag} {ca : Str → Addr} {F H : Hp}
mutual
theorem OwR.noxd : ∀ {v : V} {o : OV} {O : List Addr}, OwR K ca F H v o O → ∀ b ∈ O, ∀ fs, H b ≠ some (.xd fs)
 | _, _, _, .d _, b, hb, _ => by cases hb
 | _, _, _, .lst h _, b, hb, fs => by
  rw [List.mem_singleton.mp hb, h]
  exact fun z => by cases z
 | _, _, _, .dcK h _, b, hb, fs => by
  rw [List.mem_singleton.mp hb, h]
  exact fun z => by cases z
 | _, _, _, .dcT h _ _, b, hb, fs => by
  rw [List.mem_singleton.mp hb, h]
  exact fun z => by cases z
 | _, _, _, .obj h1 h2 r, b, hb, fs => by
  rcases List.mem_cons.mp hb with e | hb
  ·rw [e, h1]; exact fun z => by cases z
  ·rcases List.mem_cons.mp hb with e | hb
   ·rw [e, h2]; exact fun z => by cases z
   ·exact r.noxd b hb fs
 | _, _, _, .tup _ r, b, hb, fs => r.noxd b hb fs
 | _, _, _, .bag h r, b, hb, fs => by
  rcases List.mem_cons.mp hb with e | hb
  ·rw [e, h]; exact fun z => by cases z
  ·exact r.noxd b hb fs
theorem OwF.noxd : ∀ {fvs : List (Str × V)} {fs : List (Str × OV)} {O : List Addr}, OwF K ca F H fvs fs O → ∀ b ∈ O, ∀ gs, H b ≠ some (.xd gs)
 | _, _, _, .nil, b, hb, _ => by cases hb
 | _, _, _, .cons h r, b, hb, gs => by
  rcases List.mem_append.mp hb with hb | hb
  ·exact h.noxd b hb gs
  ·exact r.noxd b hb gs
end
theorem SlR.noxd : ∀ {σ : Sl} {ρ : Env} {O : List Addr}, SlR K ca F H σ ρ O → ∀ b ∈ O, ∀ fs, H b ≠ some (.xd fs)
 | _, _, _, .nil, b, hb, _ => by cases hb
 | _, _, _, .no r, b, hb, fs => r.noxd b hb fs
 | _, _, _, .so h r, b, hb, fs => by
  rcases List.mem_append.mp hb with hb | hb
  ·exact h.noxd b hb fs
  ·exact r.noxd b hb fs
theorem SlR.setS {v : Option V} : ∀ {i : Nat} {σ : Sl} {ρ : Env} {O : List Addr}, SlR K ca F H σ ρ O → (∀ o, ρ[i]? ≠ some (some o)) → SlR K ca F H (σ.set i v) ρ O
 | _, _, _, _, .nil, _ => .nil
 | 0, _, _, _, .no r, _ => .no r
 | i + 1, _, _, _, .no r, h => .no (r.setS fun o z => h o z)
 | 0, _, _, _, .so w r, h => absurd rfl (h _)
 | i + 1, _, _, _, .so w r, h => .so w (r.setS fun o z => h o z)
end
def cutI : Option Nat → Env → Env
 | none, ρ => ρ
 | some i, ρ => ρ.set i none
def notFx : Option Nat → List Nat → Bool
 | none, _ => true
 | some i, fx => !fx.contains i
theorem cut_no {ρ : Env} {i : Nat} (o : OV) : (ρ.set i none)[i]? ≠ some (some o) := fun z => by
 by_cases h : i < ρ.length
 ·rw [List.getElem?_set_self h] at z; cases z
 ·rw [List.getElem?_eq_none (by simpa using h)] at z; cases z
abbrev Ct.su (c : Ct) (F H : Hp) (O : List Addr) (σ : Sl) (i : Option Nat) : Ct := ⟨c.ca, F, H, O, (match i with | some i => i :: c.fx | none => c.fx), σ, fun _ _ _ _ => False⟩
section
variable {K : Frag} {c : Ct} {F H F1 H1 : Hp} {σ σ1 : Sl} {ρ ρ1 : Env} {O O1 : List Addr} {a : Addr}
theorem EnvR.setS (e : EnvR K c F H σ ρ O) {i : Nat} {v : Option V} (h : ∀ o, ρ[i]? ≠ some (some o)) (n : c.fx.contains i = false) : EnvR K c F H (σ.set i v) ρ O where
 sub := e.sub
 f0 := e.f0
 h0 := e.h0
 n0 := e.n0
 sl := e.sl.setS h
 nd := e.nd
 ow := e.ow
 fx := fun j hj => by
  rw [List.getElem?_set_ne (fun z => by
   subst z
   rw [List.contains_eq_mem] at n
   simp at n
   exact n hj)]
  exact e.fx j hj
theorem EnvR.cutA (e : EnvR K c F H σ ρ O) (i : Option Nat) (n : notFx i c.fx = true) (a : Addr) : ∃ O', EnvR K c F H (slA i a σ) (cutI i ρ) O' := by
 cases i with
 | none => exact ⟨O, e⟩
 | some i =>
  obtain ⟨O', _, e1⟩ := e.kill1 i
  exact ⟨O', e1.setS (fun o => cut_no o) (by simpa [notFx] using n)⟩
theorem EnvR.cutE (e : EnvR K c F H σ ρ O) (i : Option Nat) (n : notFx i c.fx = true) : ∃ O', (∀ b ∈ O', b ∈ O) ∧ EnvR K c F H (slE i σ) (cutI i ρ) O' := by
 cases i with
 | none => exact ⟨O, fun _ h => h, e⟩
 | some i =>
  obtain ⟨O', h, e1⟩ := e.kill1 i
  exact ⟨O', h, e1.setS (fun o => cut_no o) (by simpa [notFx] using n)⟩
theorem EnvR.selfSu (e : EnvR K c F H σ ρ O) (i : Option Nat) : EnvR K (c.su F H O σ i) F H σ ρ O :=
 ⟨e.sub, Same.refl _, fun b o q _ => q, fun b _ _ q => q, e.sl, e.nd, fun p hp => ⟨(e.ow p hp).1, .inl hp⟩, fun i _ => rfl⟩
theorem EnvR.toAt {i : Option Nat} (b : EnvR K (c.su F1 H1 O1 σ1 i) F H σ ρ O) : EnvR K (c.at F1 H1 O1 σ1) F H σ ρ O :=
 ⟨b.sub, b.f0, b.h0, b.n0, b.sl, b.nd, b.ow, fun j hj => b.fx j (by cases i with | none => exact hj | some i => exact List.mem_cons_of_mem _ hj)⟩
theorem ends_su {i : Option Nat} {Dn : Ends} {f : Fl} {ρ' : Env} (n : notFx i c.fx = true) (e : EnvR K c F1 H1 σ1 ρ1 O1) (h : PS' K c Dn f (cutI i ρ')) : PS' K (c.su F1 H1 O1 σ1 i) (endA i Dn) f ρ' := by
 cases f with
 | nx => exact fun σ' F' H' O' e' => by obtain ⟨O2, _, e2⟩ := (e.trans e'.toAt).cutE i n; exact h _ F' H' O2 e2
 | bk => exact fun σ' F' H' O' e' => by obtain ⟨O2, _, e2⟩ := (e.trans e'.toAt).cutE i n; exact h _ F' H' O2 e2
 | ct => exact fun σ' F' H' O' e' => by obtain ⟨O2, _, e2⟩ := (e.trans e'.toAt).cutE i n; exact h _ F' H' O2 e2
 | rt o =>
   intro σ' F' H' O' A v e' r ap
   obtain ⟨O2, h2, e2⟩ := (e.trans e'.toAt).cutE i n
   have ap1 : Apart c F' A O' := Apart.trans e (b := (⟨ap.nd, ap.ow⟩ : Apart (c.at F1 H1 O1 σ1) F' A O'))
   exact h _ F' H' O2 A v e2 r (ap1.less h2 e2.nd)
end
structure HdX where
 cv : Value
 isa : ECls → Option Bool
 ix : Option Nat
 m : Exc → M Fl
abbrev HP := (ECls → Option Bool) × Option Nat × (Exc → M Fl)
def HdX.p (h : HdX) : HP := (h.isa, h.ix, h.m)
def cutR (i : Option Nat) : Res Fl → Res Fl
 | .ok f ρ => .ok f (cutI i ρ)
 | _ => .bad
def tryX : List HP → Exc → M Fl
 | [], ξ => fun ρ => .ex ξ ρ
 | h :: r, ξ => fun ρ => match h.1 ξ.c with
  | some true => cutR h.2.1 (h.2.2 ξ (cutI h.2.1 ρ))
  | some false => tryX r ξ ρ
  | none => .bad
def sTryX (b : M Fl) (hs : List HP) : M Fl := fun ρ => match b ρ with
 | .ok f ρ1 => .ok f ρ1
 | .ex ξ ρ1 => tryX hs ξ ρ1
 | .bad => .bad
structure SuF (K : Frag) (c : Ct) (i : Option Nat) (a : Addr) (cls : Value) (d : Option Addr) (ξ : Exc) : Prop where
 nm : ∀ j, i = some j → j ∈ c.fx ∧ (c.σ[j]? = some (some (.ref a)) ∨ c.σ[j]? = none)
 xr : XR K c.ca c.F c.H cls d ξ
 no : ∀ b ∈ c.O, ∀ fs, c.H b ≠ some (.xd fs)
inductive HsX (X : Cx) (c : Ct) : List ExceptHandler → List HdX → Prop
 | nil : HsX X c [] []
 | cons {x : Str} {h : HdX} {b₀ : Stmt} {suite : List Stmt} {np pos' : Pos} {hds : List ExceptHandler} {l : List HdX} {on : Option Str} (hc : Names X x h.cv) (ho : OnOk X on h.ix) (nf : notFx h.ix c.fx = true)
   (hi : ∀ e b, h.isa e = some b → PySem.W.exmOne X.K (ecV c.ca e) h.cv = some b)
   (hsu : ∀ (a : Addr) (oe : Obj) (cls : Value) (d : Option Addr) (pn : List (Addr × Obj)) (F H : Hp) (O : List Addr) (σ : Sl) (ξ : Exc), Zc cls d oe → (∃ vs, oe.data = .fields vs) → SuF X.K (c.su F H O σ h.ix) h.ix a cls d ξ →
    PSs (X.suite a ((a, oe) :: pn)) (b₀ :: suite) (ts X.K (c.su F H O σ h.ix) (h.m ξ))) (r : HsX X c hds l) :
   HsX X c (.ExceptHandler (some (.Name x np)) on (b₀ :: suite) pos' :: hds) (h :: l)
def hdTX (K : Frag) (c : Ct) (l : List HdX) : List HTr := l.map fun h => (h.cv, h.ix, fun a cls d D σ H => ∃ F O ξ, SuF K (c.su F H O σ h.ix) h.ix a cls d ξ ∧ ts K (c.su F H O σ h.ix) (h.m ξ) D σ H)
section
variable {X : Cx} {c : Ct} {body : List Stmt} {hds : List ExceptHandler} {h₀ : ExceptHandler} {l : List HdX} {b : M Fl} {pos : Pos}
theorem hsx_ok : ∀ {hds : List ExceptHandler} {l : List HdX}, HsX X c hds l → HdsM X hds (hdTX X.K c l)
 | _, _, .nil => .nil
 | _, _, .cons hc ho nf hi hsu r => .cons hc ho (fun a oe cls d pn z1 z2 => ⟨fun pins s σ H D I ⟨F, O, ξ, sf, q⟩ => (hsu a oe cls d pn F H O σ ξ z1 z2 sf).run pins s σ H D I q⟩) (hsx_ok r)
theorem hsx_many : ∀ {hds : List ExceptHandler} {l : List HdX}, HsX X c hds l → ∀ {Dn : Ends} {ξ : Exc} {ρ : Env} {σ : Sl} {F H : Hp} {O : List Addr} {cls : Value} {d : Option Addr}, EnvR X.K c F H σ ρ O → XR X.K c.ca F H cls d ξ → (tryX (l.map HdX.p) ξ ρ).post (PS' X.K c Dn) (PXs X.K c) →
  wMix X.K c.W Dn (hdTX X.K c l) cls d σ H
 | _, _, .nil, Dn, ξ, ρ, σ, F, H, O, cls, d, e, x, h => h σ F H O cls d e x
 | _, _, .cons (h := hd) hc ho nf hi hsu r, Dn, ξ, ρ, σ, F, H, O, cls, d, e, x, h => by
  have h : (match hd.isa ξ.c with
   | some true => cutR hd.ix (hd.m ξ (cutI hd.ix ρ))
   | some false => tryX (List.map HdX.p _) ξ ρ
   | none => .bad).post (PS' X.K c Dn) (PXs X.K c) := h
  cases q : hd.isa ξ.c with
  | none => rw [q] at h; exact h.elim
  | some b =>
   rw [q] at h
   refine ⟨b, by rw [x.1]; exact hi _ _ q, fun hb a ha => ?_, fun hb => ?_⟩
   ·subst hb
    obtain ⟨O1, e1⟩ := e.cutA hd.ix nf a
    refine ⟨F, O1, ξ, ⟨fun j hj => ?_, x, fun b hb fs => e1.sl.noxd b hb fs⟩, F, cutI hd.ix ρ, O1, e1.selfSu _, ?_⟩
    ·show j ∈ (match hd.ix with | some i => i :: c.fx | none => c.fx) ∧ ((slA hd.ix a σ)[j]? = some (some (.ref a)) ∨ (slA hd.ix a σ)[j]? = none)
     rw [hj]
     refine ⟨List.mem_cons_self, ?_⟩
     by_cases hl : j < σ.length
     ·exact .inl (List.getElem?_set_self hl)
     ·exact .inr (List.getElem?_eq_none (by show (List.set σ j _).length ≤ j; rw [List.length_set]; omega))
    ·have h : (cutR hd.ix (hd.m ξ (cutI hd.ix ρ))).post (PS' X.K c Dn) (PXs X.K c) := h
     cases r : hd.m ξ (cutI hd.ix ρ) with
     | ok f ρ1 => rw [r] at h; exact ends_su nf e1 h
     | ex _ _ => rw [r] at h; exact h.elim
     | bad => rw [r] at h; exact h.elim
   ·subst hb
    exact hsx_many r e x h
theorem sv_tryX (hs : X.stack = X.env :: X.outer) (hf : X.env.frame = some X.env.locals) (tk : TakesR rg X c.W)
  (hb : ∀ (W : WX) (pn : List (Addr × Obj)) (xe : Value → Shared → Prop), TakesR rg (X.tr pn xe) W → PassesOwn (model X.prog X.w) X.A X.env xe → PSs (X.tr pn xe) body (ts X.K (c.wish W) b))
  (hh : HsX X c (h₀ :: hds) l) {l2 : List HP} (hl : l.map HdX.p = l2 := by rfl) : PS X (.Try body (h₀ :: hds) [] [] pos) (ts X.K c (sTryX b l2)) := (ps_try_mix hs hf tk (tb := fun W => ts X.K (c.wish W) b) hb (hsx_ok hh)).imp fun Dn σ H ⟨F, ρ, O, ev, h⟩ => by
 refine ⟨F, ρ, O, ev.wish, ?_⟩
 unfold sTryX at h
 cases r : b ρ with
 | bad => rw [r] at h; exact h.elim
 | ok f ρ1 =>
  rw [r] at h
  cases f with
  | nx => exact fun σ' F' H' O' e' => h σ' F' H' O' e'.unwish
  | bk => exact fun σ' F' H' O' e' => h σ' F' H' O' e'.unwish
  | ct => exact fun σ' F' H' O' e' => h σ' F' H' O' e'.unwish
  | rt o => exact fun σ' F' H' O' A v e' r' a' => h σ' F' H' O' A v e'.unwish r' ⟨a'.nd, a'.ow⟩
 | ex ξ ρ1 =>
  rw [r] at h
  exact fun σ' F' H' O' cls d e' x => hsx_many hh e'.unwish x (by rw [hl]; exact h)
end
def xfO (ys : List Str) (ξ : Exc) (f : Str) : Option D := match ξ.c with
 | .own y => if y ∈ ys then ξ.fs.lookup f else none
 | .blt _ => none
def mXf (ys : List Str) (ξ : Exc) (f : Str) : M D := fun ρ => ofO (xfO ys ξ f) ρ
section
variable {X : Cx} {c : Ct} {a : Addr} {oe : Obj} {cls : Value} {d : Option Addr} {pn : List (Addr × Obj)} {ξ : Exc} {pos pos' : Pos} {f x : Str}
end
end DL
end
section
namespace DL
variable [DL.TheW]
open PySem PySem.Spec PyProof.Rows L2
structure XbC (K : Frag) (S : Addr) : Prop where
 ga : PySem.W.specialIn K (.ref S) "__getattribute__" = some (some (.builtin "type.__getattribute__"))
 rd : PySem.W.readsIn K S (.type "type") = true
 fi : PySem.W.findCls K (.ref S) (.type "type") "__init__" = some (.val (.builtin "ValueError.__init__"))
section
variable {X : Cx} {e : Expr} {es : List Expr} {ta : TA} {x : Str} {S : Addr} {p1 p2 pos : Pos}
theorem pe_oinit {pl : Sem Bool} (T : XbC X.K S) (hg : Gl X x) (hm : X.mg x = some (.ref S)) (hdb : (x == ("__debug__" : Str)) = false) (ha : PA X (e :: es) ta)
  (hc : eval (.Call (.Attribute (.Name x p1) "__init__" p2) (e :: es) [] pos) X.env = (do
   let ov ← eval (.Name x p1) X.env
   standAt p2.atName
   let (f, first) ← holding [ov] (getMethod ov "__init__" pl)
   callWith pos f first (backTo pos (starEach (e :: es) X.env)) (backToKw pos (keywordEach [] X.env))) := by rfl)
  (he : starEach (e :: es) X.env = (false, eval e X.env) :: starEach es X.env := by rfl) (hpl : (backTo pos (starEach es X.env)).any (·.1) = false := by rfl) :
  PE X (.Call (.Attribute (.Name x p1) "__init__" p2) (e :: es) [] pos) (tVeI X.K ta) := by
 refine ⟨fun pins s σ H Q I h => ?_⟩
 refine PySem.W.methodCall_KW (ld_glob I hg hm ?_ hdb) hc
 refine PySem.W.method_cls I.kIn T.ga (PySem.W.cls_value I.kIn T.rd T.fi rfl ?_)
 show wpAny _ _ (callWith pos (Value.builtin "ValueError.__init__") [] (backTo pos (starEach (e :: es) X.env)) []) _ _ _
 refine callWith_method1 (thn (ha.run pos pins _ σ H _ (I.tok _) h) fun us s1 ⟨vs, H1, I1, r1, a, C, ws, ev, hl, T1, ea, q⟩ => ?_) he hpl
 subst ev
 cases r1 with
 | @cons _ u0 _ ur ra rw' =>
  obtain rfl : u0 = Value.ref a := ra
  have hlen : ur.length ≤ sizeLine := by
   rw [← Paired.length rw', sizeLine_eq]
   omega
  exact oinit_ok T1 I1 ea hlen fun s' J => ⟨.non, H1, J, rfl, q⟩
end
def spI (C : Addr) (gs : List Str) : Sp := fun vs H Q _ => ∃ (a : Addr) (ys : List V), vs = .ref a :: ys ∧ ys.length = gs.length ∧ H a = some (exo a C none) ∧
 ∀ dx H', H dx = none → dx ≠ a → H' a = some (exo a C (some dx)) → H' dx = some (exd dx (gs.zip ys).reverse) → (∀ b, b ≠ a → b ≠ dx → H' b = H b) → Q .non H'
section
variable {P : Program} {w : World} {K : Frag} {mg : Str → Option Value} {base : Heap} {x qual g g2 : Str} {params : Arguments} {body : List Stmt} {scope : Scope} {dvs : List V} {kws : List (Str × V)} {f C : Addr} {fd : FuncData} {k : Nat} {m : V}
theorem fn_init1 (Fd : FunD K x qual params body scope dvs kws f fd) (S : FnScope ["self", g] ["self", g] scope) (T : OexC K C) (no : PySem.W.findIn K (.ref C) g = some none)
  (hb : ∀ (cdv : Value) (A : Around) (outer : List PySem.Env) (s : Shared) (H : Hp) (E : XK), PSs (cxOf (CXR rg P w) P w K mg base ["self", g] qual scope f cdv A outer s H E) body (tSeq (tDrop (tVeI K (tCons (tVar 0) (tCons (tC m) tNil)))) (tOst K g (tVar 0) (tVar 1)))) :
  FnOk P w K mg base (CXR rg P w) (k + 1) f fd ["self", g] (spI C [g]) := by
 refine Fd.ok S (fun vs H Q E h => ?_) fun cdv A outer s H vs Q E hr h => ⟨_, hb cdv A outer s H E, ?_⟩
 ·obtain ⟨a, ys, rfl, hl, _⟩ := h
  rw [List.length_cons, hl] <;> rfl
 ·obtain ⟨a, ys, rfl, hl, ea, q⟩ := h
  match ys, hl with
  | [y], _ =>
   refine ⟨.ref a, rfl, a, C, [m], rfl, by simp, T, ea, ⟨y, rfl, .ref a, rfl, a, C, rfl, T, no, .inl ⟨ea, fun dx hd ne => ?_⟩⟩⟩
   refine q dx _ hd ne upd_same ?_ fun b h1 h2 => ?_
   ·rw [upd_ne ne, upd_same] <;> rfl
   ·rw [upd_ne h1, upd_ne h2]
theorem fn_init2 (Fd : FunD K x qual params body scope dvs kws f fd) (S : FnScope ["self", g, g2] ["self", g, g2] scope) (T : OexC K C) (no : PySem.W.findIn K (.ref C) g = some none) (no2 : PySem.W.findIn K (.ref C) g2 = some none)
  (hb : ∀ (cdv : Value) (A : Around) (outer : List PySem.Env) (s : Shared) (H : Hp) (E : XK), PSs (cxOf (CXR rg P w) P w K mg base ["self", g, g2] qual scope f cdv A outer s H E) body (tSeq (tDrop (tVeI K (tCons (tVar 0) (tCons (tC m) tNil)))) (tSeq (tOst K g (tVar 0) (tVar 1)) (tOst K g2 (tVar 0) (tVar 2))))) :
  FnOk P w K mg base (CXR rg P w) (k + 1) f fd ["self", g, g2] (spI C [g, g2]) := by
 refine Fd.ok S (fun vs H Q E h => ?_) fun cdv A outer s H vs Q E hr h => ⟨_, hb cdv A outer s H E, ?_⟩
 ·obtain ⟨a, ys, rfl, hl, _⟩ := h
  rw [List.length_cons, hl] <;> rfl
 ·obtain ⟨a, ys, rfl, hl, ea, q⟩ := h
  match ys, hl with
  | [y, z], _ =>
   refine ⟨.ref a, rfl, a, C, [m], rfl, by simp, T, ea, ⟨y, rfl, .ref a, rfl, a, C, rfl, T, no, .inl ⟨ea, fun dx hd ne => ?_⟩⟩⟩
   refine ⟨z, rfl, .ref a, rfl, a, C, rfl, T, no2, .inr ⟨dx, [(g, y)], upd_same, ?_, by show 1 ≤ 900; omega, ?_⟩⟩
   ·exact (upd_ne ne).trans upd_same
   refine q dx _ hd ne ?_ upd_same fun b h1 h2 => ?_
   ·rw [upd_ne (Ne.symm ne), upd_same]
   ·rw [upd_ne h2, upd_ne h1, upd_ne h2]
end
theorem passes_callR {rg : Bool} {X : Cx} {W : WX} {E : XK} (tk : TakesR rg X W) (hW : ∀ cls d σ H, E cls d H → W cls d σ H) : Passes (CXR rg X.prog X.w) X E := match rg, tk with
 | true, tk => L2N.passes_call tk hW
 | false, tk => L2.passes_call tk hW
structure XnC (K : Frag) (C fI : Addr) : Prop where
 T : OexC K C
 iC : PySem.W.findIn K (.ref C) "__init__" = some (some (.ref fI))
 tI : PySem.W.typeIn K (.ref fI) = some (.type "function")
def avD : List AV → Option (List D)
 | [] => some []
 | .d x :: r => (avD r).map (x :: ·)
 | .o _ :: _ => none
def sRaiseX (y : Str) (gs : List Str) (m : M (List AV)) : M Fl := fun ρ => (m ρ).bind fun as ρ1 => match avD as with
 | some xs => if xs.length = gs.length then .ex ⟨.own y, (gs.zip xs).reverse⟩ ρ1 else .bad
 | none => .bad
theorem avD_ok {K : Frag} {F : Hp} {σ : Sl} : ∀ {vs : List V} {as : List AV} {xs : List D}, AvAll K F σ vs as → avD as = some xs → RpAll K F vs xs
 | _, _, _, .nil, h => by cases h; exact .nil
 | _, _, _, .d (as := as) r h, e => by
  unfold avD at e
  cases q : avD as with
  | none => rw [q] at e; cases e
  | some zs =>
   rw [q] at e
   cases e
   exact .cons r (avD_ok h q)
 | _, _, _, .o _ _, e => by cases e
theorem rpAll_len {K : Frag} {F : Hp} : ∀ {vs : List V} {xs : List D}, RpAll K F vs xs → vs.length = xs.length
 | _, _, .nil => rfl
 | _, _, .cons _ h => by rw [List.length_cons, List.length_cons, rpAll_len h]
theorem zip_snd {α : Type} : ∀ {gs : List Str} {ys : List α}, ys.length = gs.length → (gs.zip ys).map (·.2) = ys
 | [], [], _ => rfl
 | _ :: gs, _ :: ys, h => by
  rw [List.zip_cons_cons, List.map_cons, zip_snd (gs := gs) (by simpa using h)]
theorem zip_fst {α : Type} : ∀ {gs : List Str} {ys : List α}, ys.length = gs.length → (gs.zip ys).map (·.1) = gs
 | [], [], _ => rfl
 | _ :: gs, _ :: ys, h => by
  rw [List.zip_cons_cons, List.map_cons, zip_fst (gs := gs) (by simpa using h)]
section
variable {X : Cx} {c : Ct} {CX : CXT} {C fI : Addr} {fd : FuncData} {ps gs : List Str} {k : Nat} {x y : Str} {e : Expr} {es : List Expr} {m : M (List AV)} {p pos pos' : Pos}
theorem sv_raiseX (hc : X.calm = true) (tk : TakesR rg X c.W) (N : XnC X.K C fI) (F1 : FnOk X.prog X.w X.K X.mg X.base CX k fI fd ps (spI C gs)) (hr : Room (k + 1) X.A) (hb : Binds X.K fd ps []) (hx : Passes CX X (fun _ _ _ => False))
  (gC : X.mg x = some (.ref C)) (hca : c.ca y = C) (hl : gs.length ≤ 1000) (ha : PA X (e :: es) (tg X.K c m)) (hg : Gl X x := by rfl) (hdb : (x == ("__debug__" : Str)) = false := by decide)
  (he : starEach (e :: es) X.env = (false, eval e X.env) :: starEach es X.env := by rfl) (hpl : (backTo pos (starEach es X.env)).any (·.1) = false := by rfl) (hgs : gs ≠ [] := by decide) :
  PS X (.Raise (some (.Call (.Name x p) (e :: es) [] pos)) none pos') (ts X.K c (sRaiseX y gs m)) := (ps_raise_oex hc tk N.T N.iC N.tI F1 hr hb .nil hx hg gC ha hdb he hpl).imp fun Dn σ H ⟨F, ρ, O, ev, h⟩ => by
 refine ⟨F, ρ, O, ev, Res.post_imp (Res.post_bind h) (fun as ρ1 h1 F1 H1 O1 vs e1 s1 av => ?_) fun ξ ρ1 h1 => h1 σ⟩
 have h1 : (match avD as with
  | some xs => if xs.length = gs.length then Res.ex ⟨.own y, (gs.zip xs).reverse⟩ ρ1 else .bad
  | none => .bad : Res Fl).post (PS' X.K c Dn) (PXs X.K c) := h1
 cases q : avD as with
 | none => rw [q] at h1; exact h1.elim
 | some xs =>
  rw [q] at h1
  have rp := avD_ok av q
  by_cases hn : xs.length = gs.length
  ·have h1 : (if xs.length = gs.length then Res.ex ⟨.own y, (gs.zip xs).reverse⟩ ρ1 else .bad : Res Fl).post (PS' X.K c Dn) (PXs X.K c) := h1
   rw [if_pos hn] at h1
   have lv : vs.length = gs.length := (rpAll_len rp).trans hn
   refine ⟨by rw [lv]; exact hl, fun a na => ⟨a, vs, by rw [List.append_nil], lv, upd_same, fun dx H' hd ne ea ed ot => ?_⟩⟩
   rw [upd_ne ne] at hd
   refine ⟨rfl, dx, _, ea, ed, hd, ?_⟩
   have eq : upd (del H' a) dx (.xd (gs.zip vs).reverse) = upd H1 dx (.xd (gs.zip vs).reverse) := by
    funext b
    by_cases hbd : b = dx
    ·subst hbd; rw [upd_same, upd_same]
    ·rw [upd_ne hbd, upd_ne hbd]
     by_cases hba : b = a
     ·subst hba; rw [del_same, na]
     ·rw [del_ne hba, ot b hba hbd, upd_ne hba]
   rw [eq]
   have nw := New.one e1.sub hd (.xd (gs.zip vs).reverse)
   refine h1 σ _ _ O1 (.ref C) (some dx) (e1.new nw) ⟨by show _ = Value.ref (c.ca y); rw [hca], fun _ => ⟨dx, _, rfl, upd_same, ?_, ?_⟩, fun z => ?_⟩
   ·rw [List.map_reverse, List.map_reverse, zip_fst lv, zip_fst hn]
   ·rw [List.map_reverse, List.map_reverse, zip_snd lv, zip_snd hn]
    exact rpAll_rev (rp.mono nw.fF)
   ·exfalso
    have z : (gs.zip xs).reverse = [] := z
    have z2 := congrArg List.length z
    rw [List.length_reverse, List.length_zip, hn, Nat.min_self] at z2
    exact hgs (List.length_eq_zero_iff.mp z2)
  ·have h1 : (if xs.length = gs.length then Res.ex ⟨.own y, (gs.zip xs).reverse⟩ ρ1 else .bad : Res Fl).post (PS' X.K c Dn) (PXs X.K c) := h1
   rw [if_neg hn] at h1
   exact h1.elim
end
end DL
end
section
namespace DL
variable [DL.TheW]
open PySem PySem.Spec PyProof.Rows L2
theorem oexB_ok {K : Frag} {C : Addr} (h : oexB K C = true) : OexC K C := by
 obtain ⟨h1, h⟩ := Bool.and_eq_true_iff.mp h
 obtain ⟨h2, h⟩ := Bool.and_eq_true_iff.mp h
 obtain ⟨h3, h⟩ := Bool.and_eq_true_iff.mp h
 obtain ⟨h4, h5⟩ := Bool.and_eq_true_iff.mp h
 refine ⟨?_, of_decide_eq_true h2, of_decide_eq_true h3, of_decide_eq_true h4, h5⟩
 split at h1
 case h_2 => cases h1
 case h_1 t dd cd sl ho =>
  obtain ⟨e1, g1⟩ := Bool.and_eq_true_iff.mp h1
  have e1 : t = "type" := of_decide_eq_true e1
  subst e1
  clear h1
  split at g1
  case h_2 => cases g1
  case h_1 D bm k0 k1 k2 k3 n k5 hm hs =>
   obtain ⟨q1, g2⟩ := Bool.and_eq_true_iff.mp g1
   obtain ⟨q2, g3⟩ := Bool.and_eq_true_iff.mp g2
   obtain ⟨hdel, g4⟩ := Bool.and_eq_true_iff.mp g3
   obtain ⟨hdi, hv⟩ := Bool.and_eq_true_iff.mp g4
   have hdl : cd.hasDel = false := by simpa using hdel
   clear hdel g3 g2 g1 g4
   have q1 : D = C := of_decide_eq_true q1
   have q2 : n = "ValueError.__new__" := of_decide_eq_true q2
   subst q1 q2
   obtain ⟨nm, bs, mro, ns, qn, hd, sn, sub, ab, col, del⟩ := cd
   dsimp only at hm hdl hdi
   subst hm hdl hdi
   have hsl : sl = #[k0, k1, k2, k3, some (.builtin "ValueError.__new__"), k5] := by
    obtain ⟨l⟩ := sl
    simp only at hs
    rw [hs]
   subst hsl
   exact ⟨nm, qn, ns, bs, bm, sn, sub, ab, col, dd, k0, k1, k2, k3, k5, ho, hv⟩
theorem xbB_ok {K : Frag} {S : Addr} (h : xbB K S = true) : XbC K S := by
 obtain ⟨h1, h⟩ := Bool.and_eq_true_iff.mp h
 obtain ⟨h2, h3⟩ := Bool.and_eq_true_iff.mp h
 refine ⟨of_decide_eq_true h1, h2, ?_⟩
 split at h3
 case h_2 => cases h3
 case h_1 n e => rw [e, of_decide_eq_true h3]
structure EcK (K : Frag) (C : Addr) : Prop where
 hcl : (PySem.W.clsIn K C).isSome = true
 hga : PySem.W.findIn K (.ref C) "__getattribute__" = some (some (.builtin "BaseException.__getattribute__"))
 hgt : PySem.W.findIn K (.ref C) "__getattr__" = some none
 hsub : PySem.W.subIn K (.ref C) (.type "BaseException") = some true
 ha : PySem.W.findIn K (.ref C) "__class__" = some (some (.builtin "object.__class__"))
 hn : PySem.W.specialIn K (.builtin "object.__class__") "__get__" = some (some (.builtin "getset_descriptor.__get__"))
 htk : PySem.W.takesIn K (.builtin "object.__class__") = some true
 hm : PySem.W.mroIn K C (.type "object") = some true
 hd : PySem.W.hasDictIn K C = true
theorem ecB_ok {K : Frag} {C : Addr} (h : ecB K C = true) : EcK K C := by
 obtain ⟨h1, h⟩ := Bool.and_eq_true_iff.mp h
 obtain ⟨h2, h⟩ := Bool.and_eq_true_iff.mp h
 obtain ⟨h3, h⟩ := Bool.and_eq_true_iff.mp h
 obtain ⟨h4, h⟩ := Bool.and_eq_true_iff.mp h
 obtain ⟨h5, h⟩ := Bool.and_eq_true_iff.mp h
 obtain ⟨h6, h⟩ := Bool.and_eq_true_iff.mp h
 obtain ⟨h7, h⟩ := Bool.and_eq_true_iff.mp h
 obtain ⟨h8, h9⟩ := Bool.and_eq_true_iff.mp h
 exact ⟨h1, of_decide_eq_true h2, of_decide_eq_true h3, of_decide_eq_true h4, of_decide_eq_true h5, of_decide_eq_true h6, of_decide_eq_true h7, of_decide_eq_true h8, h9⟩
structure IoK (K : Frag) (C : Addr) : Prop where
 ha : PySem.W.findIn K (.ref C) "__class__" = some (some (.builtin "object.__class__"))
 hn : PySem.W.specialIn K (.builtin "object.__class__") "__get__" = some (some (.builtin "getset_descriptor.__get__"))
 htk : PySem.W.takesIn K (.builtin "object.__class__") = some true
 hm : PySem.W.mroIn K C (.type "object") = some true
 hk : PySem.W.kitOne K (.ref C) (.ref C) = some true
theorem fx_at {l : List Fx} {K : Frag} (c : fxB l K = true) (i : Nat) {f : Fx} (h : l[i]? = some f) : f.ok K = true := List.all_eq_true.mp c f (List.mem_of_getElem? h)
theorem xn_ok {K : Frag} {x : Str} (c : (Fx.oex x).ok K = true) (m : (He.Fa.meth x "__init__").ok K = true) : XnC K (He.ga K x) (He.ma K (He.ga K x) "__init__") := by
 obtain ⟨m1, m2, m3⟩ := He.meth_ok m
 exact ⟨oexB_ok c, m1, beq_iff_eq.mp m2⟩
theorem xk_ok {K : Frag} {y : Str} (c : (Fx.xk y).ok K = true) : EcK K (He.ga K y) := ecB_ok c
theorem ki_ok {K : Frag} {y x : Str} {b : Bool} (c : (Fx.ki y x b).ok K = true) : PySem.W.kitOne K (.ref (He.ga K y)) (.ref (He.ga K x)) = some b := of_decide_eq_true c
theorem kb_ok {K : Frag} {y : Str} {n : String} {b : Bool} (c : (Fx.kb y n b).ok K = true) : PySem.W.kitOne K (.ref (He.ga K y)) (.type n) = some b := of_decide_eq_true c
theorem kn_ok {K : Frag} {x : Str} (c : (Fx.kn x).ok K = true) : PySem.W.kitOne K (.type "NoneType") (.ref (He.ga K x)) = some false := of_decide_eq_true c
theorem xf_ok {K : Frag} {x : Str} (c : (Fx.xf x).ok K = true) : XfC K (He.ga K x) := xfB_ok c
theorem xb_ok {K : Frag} {x : Str} (c : (Fx.xb x).ok K = true) : XbC K (He.ga K x) := xbB_ok c
section
variable {T : Type} [Tg T] {ρ : DL.Env}
section
variable {k : D → DL.Env → T} {h : Exc → DL.Env → T}
theorem rB_xf (ys : List Str) (ξ : Exc) (f : Str) : rB (mXf ys ξ f ρ) k h = oB (xfO ys ξ f) fun x => k x ρ := by unfold mXf; rw [rB_ofO]
end
variable {k : Fl → DL.Env → T} {h : Exc → DL.Env → T}
def xcO (y : Str) (gs : List Str) (as : List AV) : Option Exc := (avD as).bind fun xs => if xs.length = gs.length then some ⟨.own y, (gs.zip xs).reverse⟩ else none
theorem xcO_1 (y g : Str) (x : D) : xcO y [g] [.d x] = some ⟨.own y, [(g, x)]⟩ := rfl
theorem xcO_2 (y g g2 : Str) (x z : D) : xcO y [g, g2] [.d x, .d z] = some ⟨.own y, [(g2, z), (g, x)]⟩ := rfl
theorem rB_raiseX (y : Str) (gs : List Str) (m : M (List AV)) : rB (sRaiseX y gs m ρ) k h = rB (m ρ) (fun as ρ1 => oB (xcO y gs as) fun ξ => h ξ ρ1) h := by
 unfold sRaiseX; rw [rB_bind]; congr; funext as ρ1
 unfold xcO
 cases avD as with
 | none => rfl
 | some xs =>
  show rB (if xs.length = gs.length then _ else _) k h = oB (if xs.length = gs.length then _ else _) _
  by_cases e : xs.length = gs.length
  ·rw [if_pos e, if_pos e]; rfl
  ·rw [if_neg e, if_neg e]; rfl
theorem rB_tryX (b : M Fl) (hs : List HP) : rB (sTryX b hs ρ) k h = rB (b ρ) k fun ξ ρ1 => rB (tryX hs ξ ρ1) k h := by
 unfold sTryX; cases b ρ <;> rfl
theorem rB_tx0 (ξ : Exc) : rB (tryX [] ξ ρ) k h = h ξ ρ := rfl
theorem rB_tx1 (x : HP) (r : List HP) (ξ : Exc) : rB (tryX (x :: r) ξ ρ) k h = tH (x.1 ξ.c) (rB (x.2.2 ξ (cutI x.2.1 ρ)) (fun f ρ1 => k f (cutI x.2.1 ρ1)) hN) (rB (tryX r ξ ρ) k h) := by
 rw [tryX]
 rcases x.1 ξ.c with _ | _ | _
 ·rfl
 ·rfl
 ·show rB (cutR _ _) k h = rB _ _ _
  cases x.2.2 ξ (cutI x.2.1 ρ) <;> rfl
theorem cutI_n (ρ : DL.Env) : cutI none ρ = ρ := rfl
theorem cutI_s (i : Nat) (ρ : DL.Env) : cutI (some i) ρ = ρ.set i none := rfl
end
abbrev hX (a : ECls → Option Bool) (i : Option Nat) (f : Exc → M Fl) : HP := (a, i, f)
abbrev RBX := And.intro @rB_xf (And.intro @xcO_1 (And.intro @xcO_2 (And.intro @rB_raiseX (And.intro @rB_tryX (And.intro @rB_tx0 (And.intro @rB_tx1 (And.intro @cutI_n @cutI_s)))))))
end DL
end
namespace DL
open PySem PySem.Spec PyProof.Rows L2
section
variable [DL.TheW] {X : Cx} {c : Ct} {pos : Pos}
theorem vvA (i : Nat) {x : Str} (hN : X.N[i]? = some x := by rfl) (hv : visB X.env.scope x = true := by kernel_rfl) (hd : (x == ("__debug__" : Str)) = false := by kernel_rfl) (hcd : (x == ("__classdict__" : Str)) = false := by kernel_rfl) : PE X (.Name x pos) (te X.K c false true (mVar i)) := se_var i hN (vis_of hv) hd hcd
theorem vkA (i : Nat) {x : Str} (hN : X.N[i]? = some x := by rfl) (hv : visB X.env.scope x = true := by kernel_rfl) (hd : (x == ("__debug__" : Str)) = false := by kernel_rfl) (hcd : (x == ("__classdict__" : Str)) = false := by kernel_rfl) : PE X (.Name x pos) (te X.K c true true (mLook i)) := se_look i hN (vis_of hv) hd hcd
theorem loA {sc : Scope} {x : Str} (h : locB sc x = true := by kernel_rfl) : Loc sc x := loc_of h
theorem glA {X : Cx} {x : Str} (h : X.env.scope.names.lookup x = some .globalImplicit := by kernel_rfl) : Gl X x := gl_of h
end
end DL
section
namespace DL
variable [DL.TheW]
open PySem PySem.Spec PyProof.Rows L2 PySem.W
section
variable {X : Cx} {c : Ct} {a b : Expr} {pos : Pos} {ka kb pa pb : Bool} {ma mb : M D}
end
end DL
end
section
namespace PySem.W
open PySem PySem.Calls PyProof.Rows
section
variable {M : Model} {A : Around} {E : Value → Shared → Prop} {s : Shared}
end
section
variable {prog : Program} {w : World} {A : Around} {E : Value → Shared → Prop} {s : Shared}
variable {β : Type} {vs : List Value} {bs : List β} {enc : β → PyData} {R : Value → β → Prop}
end
end PySem.W
namespace DL
variable [DL.TheW]
open PySem PySem.Spec PyProof.Rows L2 PySem.W
end DL
end
section
namespace DL
variable [DL.TheW]
open PySem PySem.Spec PyProof.Rows L2 PySem.W
inductive AW where
 | d (x : D) | o (i : Nat) | n (o : OV)
def gatX : Env → List AW → Option (List OV × Env)
 | ρ, [] => some ([], ρ)
 | ρ, .d x :: r => (gatX ρ r).map fun z => (.d x :: z.1, z.2)
 | ρ, .n o :: r => (gatX ρ r).map fun z => (o :: z.1, z.2)
 | ρ, .o i :: r => match ρ[i]? with
  | some (some o) => (gatX (ρ.set i none) r).map fun z => (o :: z.1, z.2)
  | _ => none
def backX : Env → List AW → Env → Env
 | ρ, .d _ :: r, _ :: s => backX ρ r s
 | ρ, .n _ :: r, _ :: s => backX ρ r s
 | ρ, .o i :: r, o :: s => backX (ρ.set i o) r s
 | ρ, _, _ => ρ
def callXf (ws : List AW) (ρ2 : Env) (r : Rf) : Res OV := match r with
 | .ok r outs => .ok r (backX ρ2 ws outs)
 | .ex ξ => .ex ξ ρ2
 | .exS _ _ => .bad
 | .bad => .bad
def callXe (f : Fn) (dds : List D) (ws : List AW) (z : Option (List OV × Env)) : Res OV := match z with
 | none => .bad
 | some y => callXf ws y.2 (f (y.1 ++ dds.map .d))
def mCallX (f : Fn) (dds : List D) (m : M (List AW)) : M OV := fun ρ => (m ρ).bind fun ws ρ1 => callXe f dds ws (gatX ρ1 ws)
def wNil : M (List AW) := fun ρ => .ok [] ρ
def wD (a : M D) (r : M (List AW)) : M (List AW) := fun ρ => (a ρ).bind fun x ρ1 => (r ρ1).bind fun xs ρ2 => .ok (.d x :: xs) ρ2
def wN (a : M OV) (r : M (List AW)) : M (List AW) := fun ρ => (a ρ).bind fun x ρ1 => (r ρ1).bind fun xs ρ2 => .ok (.n x :: xs) ρ2
def wO (i : Nat) (r : M (List AW)) : M (List AW) := fun ρ => match ρ[i]? with
 | some (some _) => (r ρ).bind fun xs ρ2 => .ok (.o i :: xs) ρ2
 | _ => .bad
inductive AwAll (K : Frag) (ca : Str → Addr) (F H : Hp) (σ : Sl) : List V → List AW → List Addr → Prop where
 | nil : AwAll K ca F H σ [] [] []
 | d {v : V} {x : D} {vs : List V} {as : List AW} {A : List Addr} : Rp K F v x → AwAll K ca F H σ vs as A → AwAll K ca F H σ (v :: vs) (.d x :: as) A
 | o {v : V} {i : Nat} {vs : List V} {as : List AW} {A : List Addr} : σ[i]? = some (some v) → AwAll K ca F H σ vs as A → AwAll K ca F H σ (v :: vs) (.o i :: as) A
 | n {v : V} {o : OV} {vs : List V} {as : List AW} {A B : List Addr} : OwR K ca F H v o A → AwAll K ca F H σ vs as B → AwAll K ca F H σ (v :: vs) (.n o :: as) (A ++ B)
section
variable {X : Cx} {c : Ct} {e : Expr} {es : List Expr} {pos p : Pos} {p1 : Bool} {me : M D} {mo : M OV} {ms : M (List AW)}
end
end DL
end
section
namespace DL
variable [DL.TheW]
open PySem PySem.Spec PyProof.Rows L2 PySem.W
section
variable {K : Frag} {ca : Str → Addr} {F H : Hp}
end
section
variable {X : Cx} {c : Ct} {e : Expr} {es : List Expr} {pos p : Pos} {ms : M (List AW)} {k : Nat} {f : Addr} {fd : FuncData} {ps : List Str} {fn : Fn} {x : Str} {ds : List Value} {dvs : List V} {dds : List D}
end
end DL
end
section
namespace DL
variable [DL.TheW]
open PySem PySem.Spec PyProof.Rows L2 PySem.W
section
variable {X : Cx} {c : Ct} {a b : Expr} {pos p : Pos} {ka pa kb pb : Bool} {ma mb : M D} {g : D → D → Option D} {id : String} {x : Str}
end
def min2D : D → D → Option D
 | .int i, .int j => some (.int (if j < i then j else i))
 | _, _ => none
section
variable {T : Type} [Tg T] {ρ : DL.Env} {h : Exc → DL.Env → T}
theorem rB_callX (k : OV → DL.Env → T) (f : Fn) (dds : List D) (m : M (List AW)) : rB (mCallX f dds m ρ) k h = rB (m ρ) (fun ws ρ1 => oB (gatX ρ1 ws) fun y => cX (f (y.1 ++ dds.map .d)) (fun ξ => h ξ y.2) fun o w => k o (backX y.2 ws w)) h := by
 unfold mCallX; rw [rB_bind]; congr; funext ws ρ1
 cases gatX ρ1 ws with
 | none => rfl
 | some y =>
  show rB (callXf ws y.2 (f (y.1 ++ dds.map .d))) k h = cX _ _ _
  cases f (y.1 ++ dds.map .d) <;> rfl
variable (k : List AW → DL.Env → T)
theorem rB_wNil : rB (wNil ρ) k h = k [] ρ := rfl
theorem rB_wD (a : M D) (r : M (List AW)) : rB (wD a r ρ) k h = rB (a ρ) (fun x ρ1 => rB (r ρ1) (fun xs ρ2 => k (.d x :: xs) ρ2) h) h := by
 unfold wD; rw [rB_bind]; congr; funext x ρ1; rw [rB_bind]; rfl
end
section
variable {T : Type} [Tg T] {ρ : DL.Env} (k : List OV × DL.Env → T)
theorem gx_nil : oB (gatX ρ []) k = k ([], ρ) := rfl
theorem gx_d (x : D) (r : List AW) : oB (gatX ρ (.d x :: r)) k = oB (gatX ρ r) fun y => k (.d x :: y.1, y.2) := by
 show oB ((gatX ρ r).map _) k = _
 cases gatX ρ r <;> rfl
theorem gx_n (x : OV) (r : List AW) : oB (gatX ρ (.n x :: r)) k = oB (gatX ρ r) fun y => k (x :: y.1, y.2) := by
 show oB ((gatX ρ r).map _) k = _
 cases gatX ρ r <;> rfl
theorem gx_o (i : Nat) (r : List AW) : oB (gatX ρ (.o i :: r)) k = oB (gt ρ i) fun o => oB (gatX (ρ.set i none) r) fun y => k (o :: y.1, y.2) := by
 rw [gatX]
 unfold gt
 cases ρ[i]? with
 | none => rfl
 | some w => cases w with
  | none => rfl
  | some o =>
   show oB ((gatX (ρ.set i none) r).map _) k = oB (some o) _
   rw [oB_some]
   cases gatX (ρ.set i none) r <;> rfl
end
theorem bx_nil (ρ w : DL.Env) : backX ρ [] w = ρ := by cases w <;> rfl
theorem bx_e (ρ : DL.Env) (r : List AW) : backX ρ r [] = ρ := by
 cases r with
 | nil => rfl
 | cons a r => cases a <;> rfl
theorem bx_d (ρ : DL.Env) (x : D) (r : List AW) (w : DL.Env) : backX ρ (.d x :: r) w = backX ρ r w.tail := by
 cases w with
 | nil => rw [List.tail_nil, bx_e, bx_e]
 | cons o w => rfl
theorem bx_n (ρ : DL.Env) (x : OV) (r : List AW) (w : DL.Env) : backX ρ (.n x :: r) w = backX ρ r w.tail := by
 cases w with
 | nil => rw [List.tail_nil, bx_e, bx_e]
 | cons o w => rfl
theorem bx_o (ρ : DL.Env) (i : Nat) (r : List AW) (w : DL.Env) (hi : gt ρ i = none) : backX ρ (.o i :: r) w = backX (ρ.set i (gt w 0)) r w.tail := by
 cases w with
 | nil =>
  have e : ρ.set i (gt [] 0) = ρ := set_none_self fun o z => by unfold gt at hi; rw [z] at hi; cases hi
  rw [e, List.tail_nil, bx_e, bx_e]
 | cons o w => rfl
theorem ov_nil (xs : List OV) : ([] : List OV) ++ xs = xs := rfl
theorem ov_cons (x : OV) (r xs : List OV) : (x :: r) ++ xs = x :: (r ++ xs) := rfl
theorem md_nil : ([] : List D).map OV.d = [] := rfl
theorem md_cons (x : D) (r : List D) : (x :: r).map OV.d = .d x :: r.map OV.d := rfl
abbrev RBY := And.intro @RBX (And.intro @rB_callX (And.intro @rB_wNil (And.intro @rB_wD (And.intro @gx_nil (And.intro @gx_d (And.intro @gx_n (And.intro @gx_o (And.intro @bx_nil (And.intro @bx_d (And.intro @bx_n (And.intro @bx_o (And.intro @ov_nil (And.intro @ov_cons (And.intro @md_nil @md_cons))))))))))))))
end DL
end
section
namespace DL
variable [DL.TheW]
open PySem PySem.Spec PyProof.Rows L2 PySem.W
section
variable {X : Cx} {c : Ct} {a b : Expr} {pos : Pos} {ka pa kb pb : Bool} {ma mb : M D}
end
end DL
end
section
namespace DL
variable [DL.TheW]
open PySem PySem.Spec PyProof.Rows L2
def idxL (xs : List D) (y : D) : Option D := match allStr xs, y with
 | some l, .str z => if z ∈ l then some (.int (l.idxOf z : Nat)) else none
 | _, _ => none
def seqO : D → Option (List D)
 | .list xs => some xs
 | .tuple xs => some xs
 | _ => none
def mIdx (ma me : M D) : M D := fun ρ => (ma ρ).bind fun x ρ1 => match seqO x with
 | some xs => (me ρ1).bind fun y ρ2 => ofO (idxL xs y) ρ2
 | none => .bad
section
variable {X : Cx} {c : Ct} {a e : Expr} {pos apos : Pos} {ka pa pu : Bool} {ma me : M D}
end
def kdO : D → Option (List (D × D))
 | .dict kvs => match cells kvs with
  | some _ => none
  | none => some kvs
 | _ => none
def mGet2 (ma mk mx : M D) : M D := fun ρ => (ma ρ).bind fun x ρ1 => match kdO x with
 | some kvs => (mk ρ1).bind fun y ρ2 => (mx ρ2).bind fun z ρ3 => ofO (getKD kvs y z) ρ3
 | none => .bad
section
variable {X : Cx} {c : Ct} {a e f : Expr} {pos apos : Pos} {ka pa pb pc : Bool} {ma mk mx : M D}
end
end DL
end
section
namespace DL
variable [DL.TheW]
open PySem PySem.Spec PyProof.Rows L2
section
variable {X : Cx} {c : Ct} {e : Expr} {p pos : Pos} {ka pu : Bool} {me : M D} {mo : M OV}
def OV.frzK : OV → Option D
 | .dct kvs => some (.dict kvs)
 | _ => none
end
def wMore (dos : List OV) (m : M (List AW)) : M (List AW) := fun ρ => (m ρ).bind fun ws ρ1 => .ok (ws ++ dos.map .n) ρ1
section
variable {X : Cx} {c : Ct} {e : Expr} {es : List Expr} {pos p : Pos} {x : Str} {mw : M (List AW)} {k : Nat} {f : Addr} {fd : FuncData} {ps : List Str} {fn : Fn} {dvs : List V} {dos : List OV}
end
section
variable {X : Cx} {c : Ct} {a b : Expr} {rest : List Expr} {pos : Pos} {pa pb : Bool} {ma mb : M D}
end
section
variable {T : Type} [Tg T] {ρ : DL.Env} {h : Exc → DL.Env → T}
section
variable {k : D → DL.Env → T}
theorem rB_idx (ma me : M D) : rB (mIdx ma me ρ) k h = rB (ma ρ) (fun x ρ1 => oB (seqO x) fun xs => rB (me ρ1) (fun y ρ2 => oB (idxL xs y) fun z => k z ρ2) h) h := by
 unfold mIdx; rw [rB_bind]; congr; funext x ρ1
 cases seqO x with
 | none => rfl
 | some xs =>
  show rB ((me ρ1).bind fun y ρ2 => ofO (idxL xs y) ρ2) k h = rB (me ρ1) _ h
  rw [rB_bind]; congr; funext y ρ2; rw [rB_ofO]
theorem rB_get2 (ma mk mx : M D) : rB (mGet2 ma mk mx ρ) k h = rB (ma ρ) (fun x ρ1 => oB (kdO x) fun kvs => rB (mk ρ1) (fun y ρ2 => rB (mx ρ2) (fun z ρ3 => oB (getKD kvs y z) fun u => k u ρ3) h) h) h := by
 unfold mGet2; rw [rB_bind]; congr; funext x ρ1
 cases kdO x with
 | none => rfl
 | some xs =>
  show rB ((mk ρ1).bind fun y ρ2 => (mx ρ2).bind fun z ρ3 => ofO (getKD xs y z) ρ3) k h = rB (mk ρ1) _ h
  rw [rB_bind]; congr; funext y ρ2; rw [rB_bind]; congr; funext z ρ3; rw [rB_ofO]
end
theorem rB_wMore {k : List AW → DL.Env → T} (dos : List OV) (m : M (List AW)) : rB (wMore dos m ρ) k h = rB (m ρ) (fun ws ρ1 => k (ws ++ dos.map .n) ρ1) h := by
 unfold wMore; rw [rB_bind]; rfl
theorem aw_nil (xs : List AW) : ([] : List AW) ++ xs = xs := rfl
theorem aw_cons (x : AW) (r xs : List AW) : (x :: r) ++ xs = x :: (r ++ xs) := rfl
theorem mn_nil : ([] : List OV).map AW.n = [] := rfl
theorem mn_cons (x : OV) (r : List OV) : (x :: r).map AW.n = .n x :: r.map AW.n := rfl
@[simp] theorem frzK_d (kvs : List (D × D)) : (OV.dct kvs).frzK = some (.dict kvs) := rfl
end
abbrev RBU := And.intro @rB_idx (And.intro @rB_get2 (And.intro @rB_wMore (And.intro @aw_nil (And.intro @aw_cons (And.intro @mn_nil (And.intro @mn_cons @frzK_d))))))
end DL
end
section
namespace PySem.W
open PySem PySem.Calls PyProof.Rows
section
variable {prog : Program} {w : World} {A : Around} {E : Value → Shared → Prop} {s : Shared}
variable {κ : PyProof.Rows.KeyKind}
variable {β : Type} {vs : List Value} {bs : List β} {enc : β → PyData} {R : Value → β → Prop}
end
end PySem.W
namespace DL
variable [DL.TheW]
open PySem PySem.Spec PyProof.Rows L2 PySem.W
section
variable {X : Cx} {xs : List Stmt} {c : Ct} {m1 m2 m3 m4 m5 m6 r : M Fl}
end
end DL
end
section
namespace DL
variable [DL.TheW]
open PySem PySem.Spec PyProof.Rows L2
def kdsO : List (D × D) → Option KD
 | [] => some []
 | (k, v) :: r => (keyOf k).bind fun j => (kdsO r).map fun l => (j, v) :: l
def unK (l : KD) : List (D × D) := l.map fun p => (kD p.1, p.2)
def putD (kvs : List (D × D)) (k v : D) : Option (List (D × D)) := (kdsO kvs).bind fun l => (keyOf k).bind fun j => if l.length < sizeLine then some (unK (putKD l j v)) else none
section
variable {K : Frag} {c : Ct} {F H : Hp} {σ : Sl} {ρ : Env} {O : List Addr}
end
def mDict0 : M OV := fun ρ => .ok (.dct []) ρ
section
variable {X : Cx} {c : Ct} {pos : Pos}
end
def sPutK (i : Nat) (mk mv : M D) : M Fl := fun ρ => (mv ρ).bind fun v ρ1 => match ρ1[i]? with
 | some (some (.dct _)) => (mk ρ1).bind fun k ρ2 => match ρ2[i]? with
  | some (some (.dct l)) => match putD l k v with
   | some z => .ok .nx (ρ2.set i (some (.dct z)))
   | none => .bad
  | _ => .bad
 | _ => .bad
section
variable {X : Cx} {c : Ct} {e o ix : Expr} {pos spos npos : Pos} {p1 p2 : Bool} {mi mv : M D} {x : Str}
end
def OV.frzA : OV → Option D
 | .d x => some x
 | .dct l => some (.dict l)
 | _ => none
def mFrzKV (i : Nat) : M D := fun ρ => match ρ[i]? with
 | some (some o) => match o.frzA with
  | some x => .ok x (ρ.set i (some (.d x)))
  | none => .bad
 | _ => .bad
section
variable {X : Cx} {c : Ct} {pos : Pos}
end
def OV.frzU : OV → Option D
 | .d x => some x
 | .lst xs => some (.list xs)
 | .dct l => some (.dict l)
 | _ => none
section
variable {X : Cx} {c : Ct} {e : Expr} {mo : M OV}
end
def sFz (i : Nat) (m : M Fl) : M Fl := fun ρ => match ρ[i]? with
 | some (some o) => match o.frzU with
  | some x => m (ρ.set i (some (.d x)))
  | none => .bad
 | _ => .bad
section
variable {X : Cx} {c : Ct} {st : Stmt} {m : M Fl}
end
section
variable {X : Cx} {c : Ct} {e : Expr} {pos apos cpos npos : Pos} {pu : Bool} {me : M D} {x : Str}
end
def kO (w : Option OV) : Option (List (D × D)) := match w with
 | some (.dct l) => some l
 | _ => none
def fzA (w : Option OV) : Option D := match w with
 | some o => o.frzA
 | none => none
def fzU (w : Option OV) : Option D := match w with
 | some o => o.frzU
 | none => none
@[simp] theorem fzU_d (x : D) : fzU (some (.d x)) = some x := rfl
@[simp] theorem fzU_l (l : List D) : fzU (some (.lst l)) = some (.list l) := rfl
@[simp] theorem fzU_k (l : List (D × D)) : fzU (some (.dct l)) = some (.dict l) := rfl
@[simp] theorem kO_d (l : List (D × D)) : kO (some (.dct l)) = some l := rfl
@[simp] theorem frzU_d (x : D) : (OV.d x).frzU = some x := rfl
@[simp] theorem frzU_l (x : List D) : (OV.lst x).frzU = some (.list x) := rfl
@[simp] theorem frzU_k (x : List (D × D)) : (OV.dct x).frzU = some (.dict x) := rfl
@[simp] theorem fzA_d (x : D) : fzA (some (.d x)) = some x := rfl
@[simp] theorem fzA_k (l : List (D × D)) : fzA (some (.dct l)) = some (.dict l) := rfl
@[simp] theorem lk_k (l : List (D × D)) : lk (some (.dct l)) = some (.dict l) := rfl
section
variable {T : Type} [Tg T] {ρ : DL.Env} {h : Exc → DL.Env → T}
theorem rB_fz {k : Fl → DL.Env → T} (i : Nat) (m : M Fl) : rB (sFz i m ρ) k h = oB (fzU (gt ρ i)) fun x => rB (m (ρ.set i (some (.d x)))) k h := by
 unfold sFz gt
 cases ρ[i]? with
 | none => rfl
 | some w => cases w with
  | none => rfl
  | some o =>
   show rB (match o.frzU with | some x => m (ρ.set i (some (.d x))) | none => .bad) k h = oB o.frzU _
   cases o.frzU <;> rfl
theorem rB_dict0 {k : OV → DL.Env → T} : rB (mDict0 ρ) k h = k (.dct []) ρ := rfl
theorem rB_frzKV {k : D → DL.Env → T} (i : Nat) : rB (mFrzKV i ρ) k h = oB (fzA (gt ρ i)) fun x => k x (ρ.set i (some (.d x))) := by
 unfold mFrzKV gt
 cases ρ[i]? with
 | none => rfl
 | some w => cases w with
  | none => rfl
  | some o =>
   show rB (match o.frzA with | some x => .ok x (ρ.set i (some (.d x))) | none => .bad) k h = oB o.frzA _
   cases o.frzA <;> rfl
theorem rB_putK {k : Fl → DL.Env → T} (i : Nat) (mk mv : M D) : rB (sPutK i mk mv ρ) k h = rB (mv ρ) (fun v ρ1 => oB (kO (gt ρ1 i)) fun _ => rB (mk ρ1) (fun y ρ2 => oB (kO (gt ρ2 i)) fun l => oB (putD l y v) fun z => k .nx (ρ2.set i (some (.dct z)))) h) h := by
 unfold sPutK; rw [rB_bind]; congr; funext v ρ1
 unfold gt
 cases ρ1[i]? with
 | none => rfl
 | some w => cases w with
  | none => rfl
  | some o => cases o with
   | dct l0 =>
    show rB ((mk ρ1).bind _) k h = rB (mk ρ1) _ h
    rw [rB_bind]; congr; funext y ρ2
    cases ρ2[i]? with
    | none => rfl
    | some w => cases w with
     | none => rfl
     | some o => cases o with
      | dct l =>
       show rB (match putD l y v with | some z => .ok .nx (ρ2.set i (some (.dct z))) | none => .bad) k h = oB (putD l y v) _
       cases putD l y v <;> rfl
      | _ => rfl
   | _ => rfl
end
abbrev RBW := And.intro @rB_dict0 (And.intro @rB_frzKV (And.intro @rB_putK (And.intro @kO_d (And.intro @fzA_d (And.intro @fzA_k (And.intro @lk_k (And.intro @frzU_d (And.intro @frzU_l (And.intro @frzU_k (And.intro @rB_fz (And.intro @fzU_d (And.intro @fzU_l @fzU_k))))))))))))
end DL
end
section
namespace PySem.W
open PySem PySem.Calls PyProof.Rows
section
variable {prog : Program} {w : World} {A : Around} {E : Value → Shared → Prop} {s : Shared}
variable {β : Type} {vs : List Value} {bs : List β} {enc : β → PyData} {R : Value → β → Prop}
end
end PySem.W
namespace DL
variable [DL.TheW]
open PySem PySem.Spec PyProof.Rows L2 PySem.W
end DL
end
section
namespace DL
variable [DL.TheW]
open PySem PySem.Spec PyProof.Rows L2 PySem.W
section
variable {κ : Type} [DecidableEq κ] {P : Program} {w : World} (knd : KeyKind P w κ)
abbrev Row (κ : Type) := Addr × List κ
abbrev hk (k : List κ) : Int := tupleKeyHash knd k
def rowVs (L : List (Row κ)) : List (Int × Value) := L.map fun r => (hk knd r.2, Value.ref r.1)
structure TR (h : Heap) (a : Addr) (L : List (Row κ)) (es : Array (Int × Value)) (ep : Nat) (t : SetTable) : Prop where
 obj : ∃ o, h.get? a = some o ∧ o.ExactSet ∧ o.data = .set es ep t
 rows : es.toList = rowVs knd L
 tab : TabOk t (L.map fun r => hk knd r.2)
 nd : (L.map (·.2)).Nodup
 key : ∀ r ∈ L, IsTupleKey knd h r.2 r.1
 led : w.params.followText "set-order" = true ∨ t.led = true
 free : L.length * 5 < t.mask * 3
 few : L.length < 64
end
section
variable {κ : Type} [DecidableEq κ] {P : Program} {w : World} {knd : KeyKind P w κ} {A : Around} {E : Value → Shared → Prop} {s : Shared}
variable {a : Addr} {L : List (Row κ)} {es : Array (Int × Value)} {ep : Nat} {t : SetTable}
end
end DL
end
section
namespace DL
variable [DL.TheW]
open PySem PySem.Spec PyProof.Rows L2 PySem.W PySem.Calls
section
variable {κ : Type} [DecidableEq κ] {P : Program} {w : World} {knd : KeyKind P w κ} {A : Around} {E : Value → Shared → Prop} {s : Shared} {a : Addr} {L : List (Row κ)} {es : Array (Int × Value)} {ep : Nat} {t : SetTable}
structure Of (rs : List (Row κ)) (i : Nat) (L : List (Row κ)) : Prop where
 sub : ∀ r ∈ L, r ∈ rs.take i
 all : ∀ r ∈ rs.take i, r.2 ∈ L.map (·.2)
 len : L.length ≤ i
end
section
variable {κ : Type} [DecidableEq κ] {P : Program} {w : World} {knd : KeyKind P w κ} {A : Around} {R : Result → Shared → Prop} {I S : Addr} {fp wr : List Addr} {G : Array GenState → Array GenState → Prop} {n : Nat} {Pv : Nat → Value → Prop} {St : Nat → Shared → Prop}
end
section
variable {κ : Type} [DecidableEq κ] {P : Program} {w : World} {knd : KeyKind P w κ} {A : Around} {E : Value → Shared → Prop} {s : Shared}
end
end DL
end
section
namespace DL
variable [DL.TheW]
open PySem PySem.Spec PyProof.Rows L2 PySem.W PySem.Calls
section
variable {X : Cx} {pins : List (Addr × Obj)} {σ : Sl} {H F : Hp} {s : Shared}
end
section
variable {P : Program} {w : World} {A : Around} {E : Value → Shared → Prop} {s : Shared} {a : Addr} {L : List (Row Str)} {es : Array (Int × Value)} {ep : Nat} {t : SetTable}
end
section
variable {X : Cx} {c : Ct} {e : Expr} {pos pos2 p p2 : Pos} {ka pu : Bool} {me : M D}
end
section
variable {X : Cx} {c : Ct} {e : Expr} {pos pos2 p p2 : Pos} {ka pu : Bool} {me : M D}
end
end DL
end
section
namespace DL
variable [DL.TheW]
open PySem PySem.Spec PyProof.Rows L2 PySem.W
section
variable {prog : Program} {w : World} {A : Around} {E : Value → Shared → Prop} {s : Shared}
end
section
variable {X : Cx} {c : Ct} {a b : Expr} {p2 pos : Pos} {ka kb pa pb : Bool} {ma mb : M D}
end
end DL
end
section
namespace DL
variable [DL.TheW]
open PySem PySem.Spec PyProof.Rows
section
variable {prog : Program} {w : World} {A : Around} {E : Value → Shared → Prop} {s : Shared}
end
end DL
end
section
namespace DL
variable [DL.TheW]
open PySem PySem.Spec PyProof.Rows
section
variable {prog : Program} {w : World} {A : Around} {E : Value → Shared → Prop} {s : Shared}
end
open L2 PySem.Calls
section
variable {prog : Program} {w : World} {A : Around} {E : Value → Shared → Prop} {s : Shared}
end
end DL
end
section
namespace DL
variable [DL.TheW]
open PySem PySem.Spec PyProof.Rows L2 PySem.Calls
section
variable {prog : Program} {w : World} {A : Around} {E : Value → Shared → Prop} {s : Shared}
end
section
variable {M : Model} {A : Around} {E : Value → Shared → Prop} {s : Shared} {env : PySem.Env}
end
section
variable {X : Cx} {c : Ct} {e e2 : Expr} {pos p tpos cp kp : Pos} {p1 p2 : Bool} {ma mb : M D} {elts : List Expr} {kk ck : Nat}
end
section
variable {T : Type} [Tg T] {ρ : Env} {k : List D → Env → T} {h : Exc → Env → T}
end
abbrev RBZ := @rB_ok
end DL
end
section
namespace DL
variable [DL.TheW]
open PySem PySem.Spec PyProof.Rows L2 PySem.Calls
section
variable {X : Cx} {c : Ct} {k n : Nat} {f : Addr} {fd : FuncData} {ps ks : List Str} {fn : Fn} {x : Str} {p pos : Pos} {e : Expr} {es : List Expr} {kws : List Keyword} {ma mk ms : M (List AV)}
end
end DL
end
section
namespace DL
variable [DL.TheW]
open PySem PySem.Spec PyProof.Rows L2
section
variable {X : Cx} {c : Ct} {tg e elt : Expr} {pos : Pos} {pi pt pe : Bool} {mi : M (List D)} {t : D → Env → Option Env} {tst : M Bool} {me : M D} {scope : Scope} {own : List (Str × Nat)} {ifs : List Expr} {fb : List Nat}
end
section
variable {X : Cx} {c : Ct} {tg e elt : Expr} {pos : Pos} {pi pt pe : Bool} {mi : M (List D)} {t : D → Env → Option Env} {tst : M Bool} {me : M D} {scope : Scope} {own : List (Str × Nat)} {ifs : List Expr} {fb : List Nat}
end
end DL
end
section
namespace DL
variable [DL.TheW]
open PySem PySem.Spec PyProof.Rows L2
section
variable {X : Cx}
end
section
variable {X : Cx} {c : Ct} {tg iter kx vx : Expr} {pos : Pos} {pi pt pk pv : Bool} {mi : M (List D)} {t : D → Env → Option Env} {tst : M Bool} {mk mv : M D} {scope : Scope} {own : List (Str × Nat)} {ifs : List Expr} {fb : List Nat}
end
end DL
end
section
namespace SH
variable [DL.TheW]
open PySem PySem.Spec PyProof.Rows L2 DL
noncomputable abbrev e1_is_called : M D := (mOrV (mBin inD (mVar 2) (mVar 1)) (mBin inD (mVar 2) (mC (.str "0123456789"))))
noncomputable def m_is_called : M Fl := (sSeq (mIf (mOr (mNot (mB (mF1 (isiD .str) (mVar 0)))) (mOr (mNot (mB (mChain leD leD (mC (.int 1)) (mF1 lenD (mVar 0)) (mC (.int 8))))) (mB (mBin ninD (mBin ixD (mVar 0) (mC (.int 0))) (mVar 1))))) (sRet (mD (mC (.bool false)))) sNil)
 (sRet (mD (mF1 allD (mLstF (mLc [2] (mItems (mVar 0)) (tName 2) mYes e1_is_called))))))
noncomputable def f_is_called : Fn := fnOf 3 2 [] m_is_called
noncomputable def m_is_name : M Fl := (sRet (mCall SH.f_is_called (gD (mVar 0) (gD (mC (.str "abcdefghijklmnopqrstuvwxyz")) gNil))))
noncomputable def f_is_name : Fn := fnOf 1 1 [] m_is_name
noncomputable abbrev e1_is_turn : M D := (mAndV (mF1 (isiD .tup) (mVar 1)) (mBin eqD (mF1 lenD (mVar 1)) (mC (.int 2))))
noncomputable abbrev e2_is_turn : M D := (mAndV (mFrz (mCall SH.f_is_name (gD (mVar 2) gNil))) (mAndV (mFrz (mCall SH.f_is_name (gD (mVar 3) gNil))) (mBin neD (mVar 2) (mVar 3))))
noncomputable def m_is_turn : M Fl := (sSeq (mIf (mOr (mNot (mB (mF1 (isiD .tup) (mVar 0)))) (mNot (mB (mF1 allD (mLstF (mLc [1] (mItems (mVar 0)) (tName 1) mYes e1_is_turn)))))) (sRet (mD (mC (.bool false)))) sNil)
 (sSeq (mIf (mNot (mB (mF1 allD (mLstF (mLc [2, 3] (mItems (mVar 0)) (tTup 2 (tsCons (tName 2) (tsCons (tName 3) tsNil))) mYes e2_is_turn))))) (sRet (mD (mC (.bool false)))) sNil)
 (sSeq (sSet 4 (mLstF (mLc [2, 3] (mItems (mVar 0)) (tTup 2 (tsCons (tName 2) (tsCons (tName 3) tsNil))) mYes (mVar 2))))
 (sRet (mD (mAndV (mBin eqD (mVar 4) (mLstF (mSortK (mSetOf (mVar 4))))) (mBin eqD (mLstF (mFN sortO (mLstF (mLc [2, 3] (mItems (mVar 0)) (tTup 2 (tsCons (tName 2) (tsCons (tName 3) tsNil))) mYes (mVar 3))))) (mVar 4))))))))
noncomputable def f_is_turn : Fn := fnOf 5 1 [] m_is_turn
noncomputable abbrev b1_sure_turns : M Fl := (mIf (mNot (mB (mFrz (mCall SH.f_is_turn (gD (mVar 1) gNil))))) (sRaise "NoTurn") sNil)
noncomputable def m_sure_turns : M Fl := (sFor (mItems (mVar 0)) (tName 1) b1_sure_turns)
noncomputable def f_sure_turns : Fn := fnOf 2 1 [] m_sure_turns
noncomputable abbrev b1_led_name : M Fl := (mIf (mB (mBin eqD (mVar 2) (mVar 1))) (sRet (mD (mVar 3))) sNil)
noncomputable def m_led_name : M Fl := (sSeq (sFor (mItems (mVar 0)) (tTup 2 (tsCons (tName 2) (tsCons (tName 3) tsNil))) b1_led_name)
 (sRet (mD (mVar 1))))
noncomputable def f_led_name : Fn := fnOf 4 2 [] m_led_name
noncomputable abbrev w1_rounds_of : M Bool := (mB (mBin neD (mFrz (mCall SH.f_led_name (gD (mVar 0) (gD (mBin ixD (mLook 5) (mF1 negD (mC (.int 1)))) gNil)))) (mVar 3)))
noncomputable abbrev b2_rounds_of : M Fl := (sDrop (mD (mLM 5 appendD (mCons (mFrz (mCall SH.f_led_name (gD (mVar 0) (gD (mBin ixD (mLook 5) (mF1 negD (mC (.int 1)))) gNil)))) mNil))))
noncomputable abbrev b3_rounds_of : M Fl := (mIf (mB (mBin ninD (mVar 3) (mLook 2))) (sSeq (sSetO 5 (mLst (mCons (mVar 3) mNil)))
 (sSeq (sWhile w1_rounds_of b2_rounds_of)
 (sSeq (sDrop (mD (mExtend 2 (mLook 5))))
 (sDrop (mD (mLM 1 appendD (mCons (mF1 tupD (mLook 5)) mNil))))))) sNil)
noncomputable def m_rounds_of : M Fl := (sSeq (sDrop (mCall SH.f_sure_turns (gD (mLstF (mCons (mVar 0) mNil)) gNil)))
 (sSeq (sSetO 1 (mLst mNil))
 (sSeq (sSetO 2 (mLst mNil))
 (sSeq (sFor (mItems (mVar 0)) (tTup 2 (tsCons (tName 3) (tsCons (tName 4) tsNil))) b3_rounds_of)
 (sRet (mMove 1))))))
noncomputable def f_rounds_of : Fn := fnOf 6 1 [] m_rounds_of
noncomputable abbrev p1_turn_from : M Bool := (mB (mBin neD (mVar 1) (mVar 2)))
noncomputable abbrev e2_turn_from : M D := (mTup (mCons (mVar 1) (mCons (mVar 2) mNil)))
noncomputable def m_turn_from : M Fl := (sRet (mD (mF1 tupD (mLstF (mFN sortO (mLstF (mLc [1, 2] (mItemsP (mVar 0)) (tTup 2 (tsCons (tName 1) (tsCons (tName 2) tsNil))) p1_turn_from e2_turn_from)))))))
noncomputable def f_turn_from : Fn := fnOf 3 1 [] m_turn_from
end SH
end
section
namespace ST
variable [DL.TheW]
open PySem PySem.Spec PyProof.Rows L2 DL
end ST
end
section
namespace SH
variable [DL.TheW]
open PySem PySem.Spec PyProof.Rows L2 DL
structure Pile (B : Nat) (p : List D) : Prop where
 ex : ∃ d m j : Int, p = [.int d, .int m, .int j] ∧ 0 ≤ d ∧ 0 ≤ m ∧ m < 2 ^ 32 ∧ 0 ≤ j ∧ j ≤ B
end SH
end
section
namespace SH
variable [DL.TheW]
open PySem PySem.Spec PyProof.Rows L2 DL
end SH
end
section
namespace SH
variable [DL.TheW]
open PySem PySem.Spec PyProof.Rows L2 DL
def isSm (c : Nat) : Prop := 97 ≤ c ∧ c ≤ 122
def isFg (c : Nat) : Prop := 48 ≤ c ∧ c ≤ 57
instance (c : Nat) : Decidable (isSm c) := inferInstanceAs (Decidable (_ ∧ _))
instance (c : Nat) : Decidable (isFg c) := inferInstanceAs (Decidable (_ ∧ _))
abbrev abc : Str := "abcdefghijklmnopqrstuvwxyz"
theorem abc_cps : abc.cps.toList = (List.range 26).map (97 + ·) := by decide +kernel
theorem mem_abc (c : Nat) : c ∈ abc.cps.toList ↔ isSm c := by
 rw [abc_cps, List.mem_map]
 constructor
 ·rintro ⟨k, hk, rfl⟩
  have := List.mem_range.mp hk
  exact ⟨by omega, by omega⟩
 ·rintro ⟨h1, h2⟩
  exact ⟨c - 97, List.mem_range.mpr (by omega), by omega⟩
theorem str_len (s : Str) : s.cps.toList.length = s.length := by simp [Str.length]
theorem app_cps (a b : Str) : (a ++ b).cps.toList = a.cps.toList ++ b.cps.toList := by
 show (a.cps ++ b.cps).toList = _
 simp
theorem app_len (a b : Str) : (a ++ b).length = a.length + b.length := by
 rw [← str_len, app_cps, List.length_append, str_len, str_len]
theorem size_big : 1000 ≤ sizeLine := by decide +kernel
structure NmS (s : Str) : Prop where
 len : s.length ≤ 8
 hd : ∃ c r, s.cps.toList = c :: r ∧ isSm c
 all : ∀ c ∈ s.cps.toList, isSm c ∨ isFg c
theorem nm_one {c : Nat} (h : isSm c) : NmS ⟨#[c]⟩ := ⟨by simp [Str.length], ⟨c, [], rfl, h⟩, fun d hd => by simp at hd; subst hd; exact .inl h⟩
theorem nm_app {s : Str} {c : Nat} (h : NmS s) (hl : s.length < 8) (hc : isSm c ∨ isFg c) : NmS (s ++ ⟨#[c]⟩) := by
 refine ⟨by rw [app_len]; simp [Str.length] at hl ⊢; omega, ?_, fun d hd => ?_⟩
 ·obtain ⟨a, r, e, h1⟩ := h.hd
  exact ⟨a, r ++ [c], by rw [app_cps, e]; rfl, h1⟩
 ·rw [app_cps] at hd
  rcases List.mem_append.mp hd with hd | hd
  ·exact h.all d hd
  ·simp at hd
   subst hd
   exact hc
end SH
end
section
namespace SH
variable [DL.TheW]
open PySem PySem.Spec PyProof.Rows L2 DL
def okC (c : Nat) : Bool := decide (isSm c) || decide (isFg c)
def nmS (s : Str) : Bool := decide (s.length ≤ 8) && (match s.cps.toList with
 | [] => false
 | c :: _ => decide (isSm c)) && s.cps.toList.all okC
def nmB : D → Bool
 | .str s => nmS s
 | _ => false
structure FitS (s : Str) : Prop where
 len : s.length ≤ 20
 ok : PyData.strOk s = true
def FitM : D → Prop
 | .str s => FitS s
 | .dict kvs => cells kvs = none
 | _ => True
theorem canAll {xs : List D} (h : ∀ x ∈ xs, x.canLay0 = true) : PyData.canLayAll0 xs = true := by
 induction xs with
 | nil => rfl
 | cons x xs ih => rw [PyData.canLayAll0, h x List.mem_cons_self, ih fun y hy => h y (List.mem_cons_of_mem _ hy)]; rfl
theorem depAll {n : Nat} {xs : List D} (h : ∀ x ∈ xs, x.depth ≤ n) : PyData.depthAll xs ≤ n := by
 induction xs with
 | nil => exact Nat.zero_le _
 | cons x xs ih => rw [PyData.depthAll]; exact Nat.max_le.mpr ⟨h x List.mem_cons_self, ih fun y hy => h y (List.mem_cons_of_mem _ hy)⟩
theorem eq_s (a b : Str) : eqD (.str a) (.str b) = some (.bool (decide (a = b))) := rfl
theorem ne_s (a b : Str) : neD (.str a) (.str b) = some (.bool (!decide (a = b))) := rfl
theorem sOk_iff {s : Str} : PyData.strOk s = true ↔ ∀ c ∈ s.cps.toList, c < 0x110000 := by
 unfold PyData.strOk
 rw [Array.all_eq_true_iff_forall_mem]
 simp
theorem NmS.fit {s : Str} (h : NmS s) : FitS s := ⟨by have := h.len; omega, sOk_iff.mpr fun c hc => by
 rcases h.all c hc with h | h
 ·have := h.2; omega
 ·have := h.2; omega⟩
end SH
end
section
namespace SH
variable [DL.TheW]
open PySem PySem.Spec PyProof.Rows L2 DL
end SH
end
section
namespace SH
variable [DL.TheW]
open PySem PySem.Spec PyProof.Rows L2 DL
def FitP : D → Prop
 | .tuple xs => xs.length ≤ 3 ∧ ∀ x ∈ xs, FitM x
 | .dict kvs => cells kvs = none
 | _ => True
def Fit : D → Prop
 | .tuple xs => xs.length ≤ 20 ∧ ∀ x ∈ xs, FitP x
 | .dict kvs => cells kvs = none
 | _ => True
def neB : D → D → Bool
 | .str a, .str b => !decide (a = b)
 | _, _ => false
def okP : D → Bool
 | .tuple [a, b] => nmB a && nmB b && neB a b
 | _ => false
def keyD : D → D
 | .tuple (a :: _) => a
 | _ => .none
def toD : D → D
 | .tuple [_, b] => b
 | _ => .none
def keyS (x : D) : Str := match keyD x with
 | .str a => a
 | _ => ""
def toS (x : D) : Str := match toD x with
 | .str a => a
 | _ => ""
def turnB : D → Bool
 | .tuple xs => xs.all okP && (decide (xs.map keyS = sortS (onceS (xs.map keyS))) && decide (sortS (xs.map toS) = xs.map keyS))
 | _ => false
end SH
end
section
namespace SH
variable [DL.TheW]
open PySem PySem.Spec PyProof.Rows L2 DL
end SH
end
section
namespace SH
variable [DL.TheW]
open PySem PySem.Spec PyProof.Rows L2 DL
def PrD (x : D) : Prop := ∃ a b, x = .tuple [.str a, .str b] ∧ NmS a ∧ NmS b
structure Prs (n : Nat) (xs : List D) : Prop where
 len : xs.length ≤ n
 all : ∀ x ∈ xs, PrD x
end SH
end
section
namespace SH
variable [DL.TheW]
open PySem PySem.Spec PyProof.Rows L2 DL
structure FitA (x : D) : Prop where
 m : FitM x
 p : FitP x
 t : Fit x
end SH
end
section
namespace SH
variable [DL.TheW]
open PySem PySem.Spec PyProof.Rows L2 DL
end SH
end
section
namespace SH
variable [DL.TheW]
open PySem PySem.Spec PyProof.Rows L2 DL
end SH
end
section
namespace SH
variable [DL.TheW]
open PySem PySem.Spec PyProof.Rows L2 DL
end SH
end
section
namespace SH
variable [DL.TheW]
open PySem PySem.Spec PyProof.Rows L2 DL
structure Tn (xs : List D) : Prop where
 len : xs.length ≤ 20
 ok : xs.all okP = true
 srt : xs.map keyS = sortS (onceS (xs.map keyS))
 tos : sortS (xs.map toS) = xs.map keyS
end SH
end
section
namespace SH
variable [DL.TheW]
open PySem PySem.Spec PyProof.Rows L2 DL
def led : List D → Str → Str
 | [], s => s
 | x :: xs, s => if keyS x = s then toS x else led xs s
end SH
end
section
namespace SH
variable [DL.TheW]
open PySem PySem.Spec PyProof.Rows L2 DL
end SH
end
section
namespace SH
variable [DL.TheW]
open PySem PySem.Spec PyProof.Rows L2 DL
structure Ring (xs : List D) (a : Str) (pre : List Str) (z : Str) : Prop where
 nd : (pre ++ [z]).Nodup
 sub : ∀ s ∈ pre ++ [z], s ∈ xs.map keyS
 from' : ∀ t ∈ pre ++ [z], t = a ∨ ∃ s ∈ pre, led xs s = t
end SH
end
section
namespace SH
variable [DL.TheW]
open PySem PySem.Spec PyProof.Rows L2 DL
end SH
end
section
namespace SH
variable [DL.TheW]
open PySem PySem.Spec PyProof.Rows L2 DL
end SH
end
section
namespace SH
variable [DL.TheW]
open PySem PySem.Spec PyProof.Rows L2 DL
end SH
end
section
namespace SH
variable [DL.TheW]
open PySem PySem.Spec PyProof.Rows L2 DL
abbrev PL := List (Str × Str)
def pd (p : Str × Str) : D := .tuple [.str p.1, .str p.2]
def tD (t : PL) : D := .tuple (t.map pd)
where leS_refl (b : Str) : leS b b = true := by unfold leS; rw [decide_eq_true_eq]; exact List.le_refl _
def Nm2 (l : PL) : Prop := ∀ p ∈ l, NmS p.1 ∧ NmS p.2
def ltN (a b : Str) : Prop := leS a b = true ∧ a ≠ b
def mkT (f : Str → Str) (l : List Str) : PL := ((sortS (onceS l)).filter fun s => !decide (s = f s)).map fun s => (s, f s)
def keys (t : PL) : List Str := t.map (·.1)
def ledP (t : PL) (s : Str) : Str := match t with
 | [] => s
 | p :: r => if p.1 = s then p.2 else ledP r s
structure Turn (t : PL) : Prop where
 nm : Nm2 t
 ne : ∀ p ∈ t, p.1 ≠ p.2
 srt : (keys t).Pairwise ltN
 perm : (t.map (·.2)).Perm (keys t)
end SH
end
section
namespace SH
variable [DL.TheW]
open PySem PySem.Spec PyProof.Rows L2 DL
def both (t u : PL) : PL := mkT (fun s => ledP u (ledP t s)) (keys t ++ keys u)
end SH
end
section
namespace SH
variable [DL.TheW]
open PySem PySem.Spec PyProof.Rows L2 DL
end SH
end
section
namespace SH
variable [DL.TheW]
open PySem PySem.Spec PyProof.Rows L2 DL
structure Names (n : Nat) (l : List Str) : Prop where
 len : l.length ≤ n
 nd : l.Nodup
 nm : ∀ s ∈ l, NmS s
end SH
end
section
namespace SH
variable [DL.TheW]
open PySem PySem.Spec PyProof.Rows L2 DL
def rot1 : List Str → List Str
 | [] => []
 | a :: q => q ++ [a]
structure Cyc (f : Str → Str) (r : List Str) : Prop where
 ne : r ≠ []
 go : r.map f = rot1 r
structure Part (f : Str → Str) (N : List Str) (rs : List (List Str)) : Prop where
 cyc : ∀ r ∈ rs, Cyc f r
 perm : rs.flatten.Perm N
structure Rnds (t : PL) (rs : List (List Str)) : Prop where
 cyc : ∀ r ∈ rs, Cyc (ledP t) r
 perm : rs.flatten.Perm (keys t)
 two : ∀ r ∈ rs, 2 ≤ r.length
 least : ∀ r ∈ rs, ∀ a q, r = a :: q → ∀ s ∈ q, ltN a s
 rise : (rs.map fun r => r.headD "").Pairwise ltN
section
variable {t : PL} {rs : List (List Str)}
end
end SH
end
section
namespace SH
variable [DL.TheW]
open PySem PySem.Spec PyProof.Rows L2 DL
structure Rg2 (t : PL) (seen : List Str) (a : Str) (pre : List Str) (z : Str) : Prop where
 nd : (pre ++ [z]).Nodup
 sub : ∀ s ∈ pre ++ [z], s ∈ keys t
 no : ∀ s ∈ pre ++ [z], s ∉ seen
 go : a :: pre.map (ledP t) = pre ++ [z]
structure Sofar (t : PL) (i : Nat) (rs : List (List Str)) : Prop where
 cyc : ∀ r ∈ rs, Cyc (ledP t) r
 nd : rs.flatten.Nodup
 sub : ∀ s ∈ rs.flatten, s ∈ keys t
 all : ∀ s ∈ (keys t).take i, s ∈ rs.flatten
 least : ∀ r ∈ rs, ∀ a q, r = a :: q → ∀ s ∈ q, ltN a s
 rise : (rs.map fun r => r.headD "").Pairwise ltN
 hd : ∀ r ∈ rs, r.headD "" ∈ (keys t).take i
end SH
end
section
namespace SH
variable [DL.TheW]
open PySem PySem.Spec PyProof.Rows L2 DL
end SH
end
section
namespace SH
variable [DL.TheW]
open PySem PySem.Spec PyProof.Rows L2 DL
theorem range_ok (n : Nat) (h : n ≤ 1000) : range1 (.int n) = some (rangeL 0 n) := by
 have big := size_big
 have h : (n : Int).toNat ≤ sizeLine ∧ -(2 ^ 62) ≤ (n : Int) := ⟨by omega, by omega⟩
 have e : range1 (.int n) = if (n : Int).toNat ≤ sizeLine ∧ -(2 ^ 62) ≤ (n : Int) then some (rangeL 0 (n : Int).toNat) else none := rfl
 rw [e, if_pos h, Int.toNat_natCast]
end SH
end
section
namespace SH
variable [DL.TheW]
open PySem PySem.Spec PyProof.Rows L2 DL
end SH
end
section
namespace SH
variable [DL.TheW]
open PySem PySem.Spec PyProof.Rows L2 DL
end SH
end
section
namespace SH
variable [DL.TheW]
open PySem PySem.Spec PyProof.Rows L2 DL
end SH
end
section
namespace SH
variable [DL.TheW]
open PySem PySem.Spec PyProof.Rows L2 DL
section
variable {t u v : PL}
end
end SH
end
section
namespace ST
variable [DL.TheW]
open PySem PySem.Spec PyProof.Rows L2 DL SH
def isGt (c : Nat) : Prop := 65 ≤ c ∧ c ≤ 90
instance (c : Nat) : Decidable (isGt c) := inferInstanceAs (Decidable (_ ∧ _))
structure HlS (s : Str) : Prop where
 len : s.length ≤ 8
 hd : ∃ c r, s.cps.toList = c :: r ∧ isGt c
 all : ∀ c ∈ s.cps.toList, isGt c ∨ isFg c
def okG (c : Nat) : Bool := decide (isGt c) || decide (isFg c)
def hlS (s : Str) : Bool := decide (s.length ≤ 8) && (match s.cps.toList with
 | [] => false
 | c :: _ => decide (isGt c)) && s.cps.toList.all okG
def hlB : D → Bool
 | .str s => hlS s
 | _ => false
end ST
end
section
namespace ST
variable [DL.TheW]
open PySem PySem.Spec PyProof.Rows L2 DL SH
def termN : Nat → D → Bool
 | 0, _ => false
 | n + 1, x => match x with
  | .tuple [.str k, y] => decide (k = "name") && nmB y
  | .tuple [.str k, a, b] => if k = "hole" then turnB a && hlB b else if k = "shut" then nmB a && termN n b else decide (k = "sign") && (nmB a && match b with
   | .tuple ys => ys.all (termN n)
   | _ => false)
  | _ => false
def partsT : D → List D
 | .tuple xs => xs
 | _ => []
def FitT : Nat → D → Prop
 | 0, _ => False
 | n + 1, x => FitM x ∧ (partsT x).length ≤ 20 ∧ (∀ y ∈ partsT x, FitM y) ∧ ∀ k b c, x = .tuple [.str k, b, c] → (k = "hole" → Fit b) ∧ (k = "shut" → FitT n c) ∧ (k = "sign" → (partsT c).length ≤ 20 ∧ ∀ y ∈ partsT c, FitT n y)
end ST
end
section
namespace ST
variable [DL.TheW]
open PySem PySem.Spec PyProof.Rows L2 DL SH
end ST
end
section
namespace ST
variable [DL.TheW]
open PySem PySem.Spec PyProof.Rows L2 DL SH
inductive Tm where
 | nm (s : Str)
 | hole (t : PL) (x : Str)
 | shut (a : Str) (b : Tm)
 | sign (a : Str) (ts : List Tm)
mutual
def tmD : Tm → D
 | .nm s => .tuple [.str "name", .str s]
 | .hole t x => .tuple [.str "hole", tD t, .str x]
 | .shut a b => .tuple [.str "shut", .str a, tmD b]
 | .sign a ts => .tuple [.str "sign", .str a, .tuple (tmDs ts)]
def tmDs : List Tm → List D
 | [] => []
 | t :: ts => tmD t :: tmDs ts
end
def OkT : Nat → Tm → Prop
 | 0, _ => False
 | _ + 1, .nm s => NmS s
 | _ + 1, .hole t x => Turn t ∧ t.length ≤ 6 ∧ HlS x
 | n + 1, .shut a b => NmS a ∧ OkT n b
 | n + 1, .sign a ts => NmS a ∧ ts.length ≤ 6 ∧ ∀ b ∈ ts, OkT n b
def innerT : Tm → List Tm
 | .shut _ b => [b]
 | .sign _ ts => ts
 | _ => []
def everyP : Nat → Tm → List Tm
 | 0, _ => []
 | n + 1, t => t :: (innerT t).flatMap (everyP n)
end ST
end
section
namespace ST
variable [DL.TheW]
open PySem PySem.Spec PyProof.Rows L2 DL SH
end ST
end
section
namespace ST
variable [DL.TheW]
open PySem PySem.Spec PyProof.Rows L2 DL SH
structure OkTs (ts : List Tm) : Prop where
 ok : ∀ t ∈ ts, OkT 40 t
 few : ∀ t ∈ ts, (everyP 40 t).length ≤ 500
end ST
end
section
namespace ST
variable [DL.TheW]
open PySem PySem.Spec PyProof.Rows L2 DL SH
theorem lay_tup {n : Nat} {xs : List D} (h : ∀ x ∈ xs, x.canLay0 = true ∧ x.depth ≤ n) : (PyData.tuple xs).canLay0 = true ∧ (PyData.tuple xs).depth ≤ n + 1 := by
 refine ⟨by rw [PyData.canLay0]; exact canAll fun x hx => (h x hx).1, ?_⟩
 rw [PyData.depth]
 have := depAll fun x hx => (h x hx).2
 omega
theorem str_lay {s : Str} (h : PyData.strOk s = true) (n : Nat) : (PyData.str s).canLay0 = true ∧ (PyData.str s).depth ≤ n := ⟨by rw [PyData.canLay0]; exact h, by rw [PyData.depth]; omega⟩
end ST
end
section
namespace ST
variable [DL.TheW]
open PySem PySem.Spec PyProof.Rows L2 DL SH
end ST
end
section
namespace ST
variable [DL.TheW]
open PySem PySem.Spec PyProof.Rows L2 DL SH
section
variable {x : D}
end
structure Term28 (t : Tm) : Prop where
 ok : OkT 28 t
 few : (everyP 40 t).length ≤ 500
section
variable {t : Tm}
end
end ST
end
section
namespace ST
variable [DL.TheW]
open PySem PySem.Spec PyProof.Rows L2 DL SH
end ST
end
section
namespace ST
variable [DL.TheW]
open PySem PySem.Spec PyProof.Rows L2 DL SH
end ST
end
section
namespace ST
variable [DL.TheW]
open PySem PySem.Spec PyProof.Rows L2 DL SH
end ST
end
section
namespace ST
variable [DL.TheW]
open PySem PySem.Spec PyProof.Rows L2 DL SH
end ST
end
section
namespace SU
variable [DL.TheW]
open PySem PySem.Spec PyProof.Rows L2 DL
end SU
end
section
namespace ST
variable [DL.TheW]
open PySem PySem.Spec PyProof.Rows L2 DL SH SU
def OfT (l hs : List Str) : Nat → Tm → Prop
 | 0, _ => False
 | _ + 1, .nm s => s ∈ l
 | _ + 1, .hole t x => Turn t ∧ t.length ≤ 6 ∧ (∀ s ∈ keys t, s ∈ l) ∧ x ∈ hs
 | n + 1, .shut a b => a ∈ l ∧ OfT l hs n b
 | n + 1, .sign a ts => NmS a ∧ ts.length ≤ 6 ∧ ∀ b ∈ ts, OfT l hs n b
def Few (k : Nat) (t : Tm) : Prop := ∀ m, (everyP m t).length ≤ k
structure Drawn (l hs : List Str) (lv cnt B : Nat) (t : Tm) (p' : List D) (hs' : List Str) : Prop where
 of : OfT l hs lv t
 few : Few cnt t
 sub : ∀ s ∈ hs', s ∈ hs
 len : hs'.length ≤ hs.length
 pile : Pile B p'
end ST
end
section
namespace ST
variable [DL.TheW]
open PySem PySem.Spec PyProof.Rows L2 DL SH SU
end ST
end
section
namespace ST
variable [DL.TheW]
open PySem PySem.Spec PyProof.Rows L2 DL SH SU
def Ly (n : Nat) (x : D) : Prop := x.canLay0 = true ∧ x.depth ≤ n
theorem Ly.up {n m : Nat} {x : D} (h : Ly n x) (hm : n ≤ m) : Ly m x := ⟨h.1, Nat.le_trans h.2 hm⟩
theorem Ly.tup {n : Nat} {xs : List D} (h : ∀ x ∈ xs, Ly n x) : Ly (n + 1) (.tuple xs) := lay_tup h
theorem Ly.lst {n : Nat} {xs : List D} (h : ∀ x ∈ xs, Ly n x) : Ly (n + 1) (.list xs) := by
 obtain ⟨a, b⟩ := lay_tup h
 exact ⟨by simpa only [PyData.canLay0] using a, by simpa only [PyData.depth] using b⟩
theorem ly_str {s : Str} (h : FitS s) (n : Nat) : Ly n (.str s) := str_lay h.ok n
section
variable {n : Nat} {t : Tm}
structure Odd (x : D) : Prop where
 m : FitM x
 f : Fit x
 len : (partsT x).length ≤ 20
 t : ∀ k, FitT (k + 1) x
 p : ∀ y ∈ partsT x, ∀ k, FitT (k + 1) y
end
end ST
end
section
namespace ST
variable [DL.TheW]
open PySem PySem.Spec PyProof.Rows L2 DL SH SU
def LeT (u t : Tm) : Prop := ∀ m, (everyP m u).length ≤ (everyP m t).length
def StayT (n : Nat) (t : Tm) (x : D) : Prop := ∀ k, termN k x = true → ∃ u, x = tmD u ∧ OkT n u ∧ LeT u t
section
variable {n : Nat} {t : Tm}
end
end ST
end
section
namespace ST
variable [DL.TheW]
open PySem PySem.Spec PyProof.Rows L2 DL SH SU
section
variable (t : Tm)
end
structure Bent (lv : Nat) (t : Tm) (o : OV) (x : D) : Prop where
 frz : o.frz = some x
 fit : ∀ k, FitT (lv + 2 + k) x
 stay : StayT (lv + 1) t x
end ST
end
section
namespace SV
variable [DL.TheW]
open PySem PySem.Spec PyProof.Rows L2 DL
end SV
end
section
namespace ST
variable [DL.TheW]
open PySem PySem.Spec PyProof.Rows L2 DL SH SU SV
mutual
def ledT (u : PL) : Tm → Tm
 | .nm s => .nm (ledP u s)
 | .hole t x => .hole (both t u) x
 | .shut a b => .shut (ledP u a) (ledT u b)
 | .sign a ts => .sign a (ledTs u ts)
def ledTs (u : PL) : List Tm → List Tm
 | [] => []
 | t :: ts => ledT u t :: ledTs u ts
end
theorem ne_same {x : D} {n : Nat} (h : Ly n x) (hn : n ≤ 60) : neD x x = some (.bool false) ∧ eqD x x = some (.bool true) := by
 have sh : SeqAt.shaped x = true := by
  unfold SeqAt.shaped
  rw [h.1, Bool.true_and, decide_eq_true_eq]
  have := h.2
  omega
 have e : PyData.eqv x x = true := PySem.SeqAt.eqv_refl x h.1
 have k1 : (∃ s, x = .str s) ∨ (neD x x = if SeqAt.shaped x = true ∧ SeqAt.shaped x = true then some (.bool (!PyData.eqv x x)) else none) ∧ eqD x x = if SeqAt.shaped x = true ∧ SeqAt.shaped x = true then some (.bool (PyData.eqv x x)) else none := by
  cases x with
  | str s => exact .inl ⟨s, rfl⟩
  | list xs => cases xs <;> exact .inr ⟨rfl, rfl⟩
  | _ => exact .inr ⟨rfl, rfl⟩
 rcases k1 with ⟨s, rfl⟩ | ⟨k1, k2⟩
 ·rw [ne_s, eq_s, decide_eq_true rfl]; exact ⟨rfl, rfl⟩
 ·rw [k1, k2, if_pos ⟨sh, sh⟩, if_pos ⟨sh, sh⟩, e]; exact ⟨rfl, rfl⟩
end ST
end
section
namespace ST
variable [DL.TheW]
open PySem PySem.Spec PyProof.Rows L2 DL SH SU SV
end ST
end
section
namespace SW
variable [DL.TheW]
open PySem PySem.Spec PyProof.Rows L2 DL
end SW
end
section
namespace ST
variable [DL.TheW]
open PySem PySem.Spec PyProof.Rows L2 DL SH SU SV
theorem ly_int (i : Int) (n : Nat) : Ly n (.int i) := ⟨by rw [PyData.canLay0], by rw [PyData.depth]; omega⟩
end ST
end
section
namespace ST
variable [DL.TheW]
open PySem PySem.Spec PyProof.Rows L2 DL SH SU SV SW
end ST
end
section
namespace ST
variable [DL.TheW]
open PySem PySem.Spec PyProof.Rows L2 DL SH SU SV SW
end ST
end
section
namespace ST
variable [DL.TheW]
open PySem PySem.Spec PyProof.Rows L2 DL SH SU SV SW
end ST
end
section
namespace ST
variable [DL.TheW]
open PySem PySem.Spec PyProof.Rows L2 DL SH SU SV SW
end ST
end
section
namespace ST
variable [DL.TheW]
open PySem PySem.Spec PyProof.Rows L2 DL SH SU SV SW
end ST
end
section
namespace ST
variable [DL.TheW]
open PySem PySem.Spec PyProof.Rows L2 DL SH SU SV SW
structure Sm (t : Tm) : Prop where
 ok : OkT 13 t
 few : Few 60 t
end ST
end
section
namespace ST
variable [DL.TheW]
open PySem PySem.Spec PyProof.Rows L2 DL SH SU SV SW
end ST
end
section
namespace ST
variable [DL.TheW]
open PySem PySem.Spec PyProof.Rows L2 DL SH SU SV SW
end ST
end
section
namespace ST
variable [DL.TheW]
open PySem PySem.Spec PyProof.Rows L2 DL SH SU SV SW
end ST
end
section
namespace SX
variable [DL.TheW]
open PySem PySem.Spec PyProof.Rows L2 DL
end SX
end
section
namespace ST
variable [DL.TheW]
open PySem PySem.Spec PyProof.Rows L2 DL SH SU SV SW SX
inductive Fm where
 | nm (s : Str)
 | lev (k : Nat)
 | shut (f : Fm)
 | sign (a : Str) (fs : List Fm)
mutual
def fmD : Fm → D
 | .nm s => .tuple [.str "name", .str s]
 | .lev k => .tuple [.str "level", .int (k : Nat)]
 | .shut f => .tuple [.str "shut", fmD f]
 | .sign a fs => .tuple [.str "sign", .str a, .tuple (fmDs fs)]
def fmDs : List Fm → List D
 | [] => []
 | f :: fs => fmD f :: fmDs fs
end
mutual
def levT : List Str → Tm → Fm
 | ab, .nm s => if s ∈ ab then .lev (ab.idxOf s) else .nm s
 | _, .hole _ _ => .nm ""
 | ab, .shut a b => .shut (levT (a :: ab) b)
 | ab, .sign a ts => .sign a (levTs ab ts)
def levTs : List Str → List Tm → List Fm
 | _, [] => []
 | ab, t :: ts => levT ab t :: levTs ab ts
end
section
variable {l : List Str}
end
end ST
end
section
namespace ST
variable [DL.TheW]
open PySem PySem.Spec PyProof.Rows L2 DL SH SU SV SW SX
mutual
def freeL : List Str → Tm → List Str
 | ab, .nm s => if s ∈ ab then [] else [s]
 | _, .hole _ _ => []
 | ab, .shut a b => freeL (a :: ab) b
 | ab, .sign _ ts => freeLs ab ts
def freeLs : List Str → List Tm → List Str
 | _, [] => []
 | ab, t :: ts => freeL ab t ++ freeLs ab ts
end
section
variable {l hs : List Str}
end
mutual
def nmsU (ab : List Str) : Nat → Fm → List Str
 | _, .nm s => [s]
 | d, .lev k => if d ≤ k then [ab.getD (k - d) ""] else []
 | d, .shut f => nmsU ab (d + 1) f
 | d, .sign _ fs => nmsUs ab d fs
def nmsUs (ab : List Str) : Nat → List Fm → List Str
 | _, [] => []
 | d, f :: fs => nmsU ab d f ++ nmsUs ab d fs
end
theorem frz_l (xs : List D) : OV.frz (.lst xs) = some (.list xs) := rfl
end ST
end
section
namespace ST
variable [DL.TheW]
open PySem PySem.Spec PyProof.Rows L2 DL SH SU SV SW SX
section
variable {l : List Str}
end
end ST
end
section
namespace ST
variable [DL.TheW]
open PySem PySem.Spec PyProof.Rows L2 DL SH SU SV SW SX
structure Ren (l : List Str) (n B : Nat) (t : Tm) (t' : Tm) (p' : List D) : Prop where
 of : OfT l [] n t'
 len : (everyP n t').length = (everyP n t).length
 pile : Pile (B + 2 * (everyP n t).length) p'
end ST
end
section
namespace ST
variable [DL.TheW]
open PySem PySem.Spec PyProof.Rows L2 DL SH SU SV SW SX
structure IsT (x : D) : Prop where
 fit : FitT 40 x
 tm : termN 40 x = true
structure NoT (x : D) : Prop where
 fit : FitT 40 x
 tm : termN 40 x = false
structure Pln (l : List Str) (t : Tm) : Prop where
 nm : ∀ s ∈ l, NmS s
 of : OfT l [] 20 t
 few : (everyP 40 t).length ≤ 400
section
variable {l : List Str} {t u : Tm}
end
end ST
end
section
namespace ST
variable [DL.TheW]
open PySem PySem.Spec PyProof.Rows L2 DL SH SU SV SW SX
section
variable {l : List Str} {t u : Tm}
end
end ST
end
section
namespace ST
variable [DL.TheW]
open PySem PySem.Spec PyProof.Rows L2 DL SH SU SV SW SX
section
variable {L : List Str}
end
end ST
end
section
namespace ST
variable [DL.TheW]
open PySem PySem.Spec PyProof.Rows L2 DL SH SU SV SW SX
def ltr (i : Nat) : Str := ⟨#[97 + i]⟩
def ltrs : List Str := (List.range 26).map ltr
def firstC (xs : List Str) : Str := ((ltrs.filter fun s => !decide (s ∈ xs)).head?).getD ""
structure First (xs : List Str) (i : Nat) : Prop where
 lt : i < 26
 out : ltr i ∉ xs
 before : ∀ j, j < i → ltr j ∈ xs
 is : firstC xs = ltr i
 head : ∃ r, ltrs.filter (fun s => !decide (s ∈ xs)) = ltr i :: r
mutual
def toldF : List Str → Fm → Tm
 | _, .nm s => .nm s
 | ab, .lev k => .nm (ab.getD k "")
 | ab, .shut f => .shut (firstC (nmsU ab 1 f)) (toldF (firstC (nmsU ab 1 f) :: ab) f)
 | ab, .sign a fs => .sign a (toldFs ab fs)
def toldFs : List Str → List Fm → List Tm
 | _, [] => []
 | ab, f :: fs => toldF ab f :: toldFs ab fs
end
def FmL (L : List Str) : Nat → Nat → Fm → Prop
 | 0, _, _ => False
 | _ + 1, _, .nm s => s ∈ L
 | _ + 1, m, .lev k => k < m
 | n + 1, m, .shut f => FmL L n (m + 1) f
 | n + 1, m, .sign a fs => NmS a ∧ fs.length ≤ 6 ∧ ∀ f ∈ fs, FmL L n m f
mutual
def lvs : Fm → Nat
 | .nm _ => 1
 | .lev _ => 1
 | .shut f => lvs f
 | .sign _ fs => lvss fs
def lvss : List Fm → Nat
 | [] => 0
 | f :: fs => lvs f + lvss fs
end
section
variable {L : List Str}
end
end ST
end
section
namespace ST
variable [DL.TheW]
open PySem PySem.Spec PyProof.Rows L2 DL SH SU SV SW SX
section
variable {L : List Str}
end
end ST
end
section
namespace ST
variable [DL.TheW]
open PySem PySem.Spec PyProof.Rows L2 DL SH SU SV SW SX
mutual
def pureD : D → Bool
 | .str _ => true
 | .int _ => true
 | .tuple xs => pureDs xs
 | .none => false
 | .bool _ => false
 | .list _ => false
 | .dict _ => false
def pureDs : List D → Bool
 | [] => true
 | x :: xs => pureD x && pureDs xs
end
structure Tol (L : List Str) (t : Tm) : Prop where
 nm : ∀ s ∈ L, NmS s
 len : L.length ≤ 12
 of : OfT L [] 14 t
 few : (everyP 40 t).length ≤ 400
section
variable {L : List Str} {t u : Tm}
end
end ST
end
section
namespace ST
variable [DL.TheW]
open PySem PySem.Spec PyProof.Rows L2 DL SH SU SV SW SX
end ST
end
section
namespace ST
variable [DL.TheW]
open PySem PySem.Spec PyProof.Rows L2 DL SH SU SV SW SX
mutual
def putF (tb : Str → Option Fm) : Fm → Fm
 | .nm s => (tb s).getD (.nm s)
 | .lev k => .lev k
 | .shut f => .shut (putF tb f)
 | .sign a fs => .sign a (putFs tb fs)
def putFs (tb : Str → Option Fm) : List Fm → List Fm
 | [] => []
 | f :: fs => putF tb f :: putFs tb fs
end
mutual
def cntF : Fm → Nat
 | .nm _ => 1
 | .lev _ => 1
 | .shut f => 1 + cntF f
 | .sign _ fs => 1 + cntFs fs
def cntFs : List Fm → Nat
 | [] => 0
 | f :: fs => cntF f + cntFs fs
end
section
variable {L : List Str}
structure TolF (L : List Str) (f : Fm) : Prop where
 nm : ∀ s ∈ L, NmS s
 len : L.length ≤ 12
 fm : FmL L 14 0 f
 few : cntF f ≤ 400
variable {f : Fm}
end
end ST
end
section
namespace ST
variable [DL.TheW]
open PySem PySem.Spec PyProof.Rows L2 DL SH SU SV SW SX
section
variable {L : List Str} {t : Tm} {ps : List (Str × Tm)}
end
end ST
end
section
namespace DL
variable [DL.TheW]
open PySem PySem.Spec PyProof.Rows L2 PySem.W
def putO (f : Str) (o : OV) : List (Str × OV) → List (Str × OV)
 | [] => [(f, o)]
 | (g, x) :: r => if g = f then (g, o) :: r else (g, x) :: putO f o r
theorem lookup_self {α : Type} (f : Str) (v : α) (r : List (Str × α)) : ((f, v) :: r).lookup f = some v := by simp [List.lookup]
theorem lookup_next {α : Type} {f g : Str} (v : α) (r : List (Str × α)) (e : g ≠ f) : ((g, v) :: r).lookup f = r.lookup f := by
 have hb : (f == g) = false := beq_eq_false_iff_ne.mpr fun z => e z.symm
 simp only [List.lookup, hb]
section
variable {K : Frag} {ca : Str → Addr} {F H : Hp}
end
section
variable {K : Frag} {c : Ct} {F H : Hp} {σ : Sl} {ρ : Env} {O A : List Addr} {i : Nat} {cl f : Str} {fs : List (Str × OV)} {o : OV}
end
end DL
end
section
namespace DL
variable [DL.TheW]
open PySem PySem.Spec PyProof.Rows L2 PySem.W
def fldV (cl f : Str) : Option OV → Option OV
 | some (.obj c fs) => if c = cl then fs.lookup f else none
 | _ => none
def lkF (cl f : Str) (w : Option OV) : Option D := (fldV cl f w).bind OV.look
def setV (cl f : Str) (w : Option OV) (o : OV) : Option OV := match w with
 | some (.obj c fs) => if c = cl ∧ fs.length < 1000 then some (.obj c (putO f o fs)) else none
 | _ => none
def mFld (i : Nat) (cl f : Str) : M D := fun ρ => match ρ[i]? with
 | some w => ofO (lkF cl f w) ρ
 | none => .bad
def sFldSet (i : Nat) (cl f : Str) (m : M OV) : M Fl := fun ρ => (m ρ).bind fun o ρ1 => match ρ1[i]? with
 | some w => match setV cl f w o with
  | some o' => .ok .nx (ρ1.set i (some o'))
  | none => .bad
 | none => .bad
section
variable {X : Cx} {c : Ct} {e : Expr} {es : List Expr} {pos apos cpos npos fpos : Pos} {ka pu p1 p2 : Bool} {ms : M (List D)} {me : M D} {mo : M OV} {g : List D → List D → Option (List D × D)} {x f cl name : Str} {id : String}
end
end DL
end
section
namespace DL
variable [DL.TheW]
open PySem PySem.Spec PyProof.Rows L2 PySem.W
def objO (cl m : Str) (w : Option OV) : Option Unit := match w with
 | some (.obj c fs) => if c = cl ∧ fs.lookup m = none then some () else none
 | _ => none
def gOb (i : Nat) (cl m : Str) (r : M (List AV)) : M (List AV) := fun ρ => match ρ[i]? with
 | some w => match objO cl m w with
  | some _ => (r ρ).bind fun xs ρ2 => .ok (.o i :: xs) ρ2
  | none => .bad
 | none => .bad
section
variable {X : Cx} {c : Ct} {e : Expr} {es : List Expr} {pos apos npos : Pos} {ms : M (List AV)} {x cl m : Str} {k : Nat} {f : Addr} {fd : FuncData} {ps : List Str} {fn : Fn}
end
def mkO : OV → Env → Option OV
 | .d .none, some o :: _ => some o
 | _, _ => none
def mkR (ρ : Env) : Rf → Res OV
 | .ok v w => ofO (mkO v w) ρ
 | .ex ξ => .ex ξ ρ
 | .exS _ _ => .bad
 | .bad => .bad
def mMake (cl : Str) (fn : Fn) (ms : M (List D)) : M OV := fun ρ => (ms ρ).bind fun xs ρ1 => mkR ρ1 (fn (.obj cl [] :: xs.map .d))
section
variable {X : Cx} {c : Ct} {e : Expr} {es : List Expr} {pos : Pos} {ms : M (List D)} {x cl : Str} {k : Nat} {f : Addr} {fd : FuncData} {ps : List Str} {fn : Fn} {pu : Bool}
end
end DL
end
section
namespace DL
variable [DL.TheW]
open PySem PySem.Spec PyProof.Rows L2 PySem.W
section
variable {T : Type} [Tg T] {ρ : DL.Env} {h : Exc → DL.Env → T}
theorem rB_fld {k : D → DL.Env → T} (i : Nat) (cl f : Str) : rB (mFld i cl f ρ) k h = oB (lkF cl f (gt ρ i)) fun x => k x ρ := by
 unfold mFld gt
 cases ρ[i]? with
 | none => rfl
 | some w => show rB (ofO (lkF cl f w) ρ) k h = _; rw [rB_ofO]
theorem rB_fldSet {k : Fl → DL.Env → T} (i : Nat) (cl f : Str) (m : M OV) : rB (sFldSet i cl f m ρ) k h = rB (m ρ) (fun o ρ1 => oB (setV cl f (gt ρ1 i) o) fun z => k .nx (ρ1.set i (some z))) h := by
 unfold sFldSet; rw [rB_bind]; congr; funext o ρ1
 unfold gt
 cases ρ1[i]? with
 | none => rfl
 | some w =>
  show rB (match setV cl f w o with | some z => .ok .nx (ρ1.set i (some z)) | none => .bad) k h = oB (setV cl f w o) _
  cases setV cl f w o <;> rfl
theorem rB_gOb {k : List AV → DL.Env → T} (i : Nat) (cl m : Str) (r : M (List AV)) : rB (gOb i cl m r ρ) k h = oB (objO cl m (gt ρ i)) fun _ => rB (r ρ) (fun xs ρ2 => k (.o i :: xs) ρ2) h := by
 unfold gOb gt
 cases ρ[i]? with
 | none => rfl
 | some w =>
  simp only
  cases objO cl m w with
  | none => rfl
  | some _ =>
   show rB ((r ρ).bind _) k h = rB (r ρ) _ h
   rw [rB_bind]; rfl
theorem rB_make {k : OV → DL.Env → T} (cl : Str) (f : Fn) (m : M (List D)) : rB (mMake cl f m ρ) k h = rB (m ρ) (fun xs ρ1 => cX (f (.obj cl [] :: xs.map .d)) (fun ξ => h ξ ρ1) fun v w => oB (mkO v w) fun o => k o ρ1) h := by
 unfold mMake; rw [rB_bind]; congr; funext xs ρ1
 cases f (.obj cl [] :: xs.map .d) with
 | ok v w =>
  show rB (ofO (mkO v w) ρ1) k h = _
  rw [rB_ofO]; rfl
 | ex ξ => rfl
 | exS _ _ => rfl
 | bad => rfl
end
abbrev RBV := And.intro @rB_fld (And.intro @rB_fldSet (And.intro @rB_gOb @rB_make))
end DL
end
section
namespace DL
variable [DL.TheW]
open PySem PySem.Spec PyProof.Rows L2 PySem.W
section
variable {σ T : Type} [Tg T]
end
def fdF (cl f : Str) (w : Option OV) : Option D := match fldV cl f w with
 | some (.d x) => some x
 | _ => none
def mFldD (i : Nat) (cl f : Str) : M D := fun ρ => match ρ[i]? with
 | some w => ofO (fdF cl f w) ρ
 | none => .bad
section
variable {X : Cx} {c : Ct} {pos npos : Pos} {x f cl : Str}
end
section
variable {T : Type} [Tg T] {ρ : DL.Env} {h : Exc → DL.Env → T}
theorem rB_fldD {k : D → DL.Env → T} (i : Nat) (cl f : Str) : rB (mFldD i cl f ρ) k h = oB (fdF cl f (gt ρ i)) fun x => k x ρ := by
 unfold mFldD gt
 cases ρ[i]? with
 | none => rfl
 | some w => show rB (ofO (fdF cl f w) ρ) k h = _; rw [rB_ofO]
end
abbrev RBV2 := And.intro @RBV @rB_fldD
end DL
end
section
namespace DL
variable [DL.TheW]
open PySem PySem.Spec PyProof.Rows L2 PySem.W
section
variable {X : Cx} {c : Ct} {a : Expr} {lo hi : Option Expr} {pos p2 : Pos} {ka pa pl pu : Bool} {ma : M D} {ml mu : M (Option Int)}
end
section
variable {T α : Type} [Tg T] {ρ : Env} {h : Exc → Env → T}
end
abbrev RBV3 := @RBV2
end DL
end
section
namespace DL
variable [DL.TheW]
open PySem PySem.Spec PyProof.Rows L2 PySem.W
open PySem.SeqAt PySem.MeetsSeq PySem.AutoSeq1
section
variable {A : Around} {s : Shared}
end
inductive EqE (K : Frag) (H : Hp) : V → V → Bool → Prop
 | same {v w : V} {d e : D} : Dp K H v d → Dp K H w e → SeqAt.shaped d = true → SeqAt.shaped e = true → d.depth ≤ 63 → EqE K H v w (PyData.eqv d e)
 | lst {a c : Addr} {xs ys : List V} : SqT K H a xs → SqL K H c ys → EqE K H (.ref a) (.ref c) false
 | dct {a c : Addr} {xs : List V} {kvs : List (Key × V)} : SqT K H a xs → Rd H c (.dK kvs) → EqE K H (.ref a) (.ref c) false
section
variable {X : Cx} {pins : List (Addr × Obj)} {σ : L2.St} {H : Hp} {s : Shared}
end
section
variable {X : Cx}
end
end DL
end
section
namespace DLv
open PySem PySem.Calls PyProof.Rows PyProof.V PySem.Spec PySem.W
section
variable {prog : Program} {w : World} {K : Type} [DecidableEq K] {knd : KeyKind prog w K} {A : Around} {s : Shared} {R : Result → Shared → Prop} {kvs : List (K × Value)} {ep : Nat}
end
section
variable {prog : Program} {w : World} {K : Type} [DecidableEq K] {knd : KeyKind prog w K} {A : Around} {E : Value → Shared → Prop} {s : Shared} {r d : Addr} {kvs : List (K × Value)} {ep : Nat}
end
end DLv
namespace DL
variable [DL.TheW]
open PySem PySem.Spec PyProof.Rows L2
section
variable {X : Cx} {e : Expr} {te : TE} {p apos cpos pos : Pos}
end
section
variable {X : Cx} {c : Ct} {a : Expr} {p apos cpos pos : Pos} {ka pa : Bool} {ma : M D}
end
section
variable {T α : Type} [Tg T] {ρ : Env} {h : Exc → Env → T}
end
abbrev RBV4 := @RBV3
end DL
end
section
namespace DL
variable [DL.TheW]
open PySem PySem.Spec PyProof.Rows L2 PySem.Calls
section
variable {X : Cx} {c : Ct} {k n : Nat} {f : Addr} {fd : FuncData} {ps ks : List Str} {fn : Fn} {x : Str} {p pos : Pos} {e : Expr} {es : List Expr} {kws : List Keyword} {ma mk ms : M (List AV)}
end
end DL
namespace DL
variable [DL.TheW]
open PySem PySem.Spec PyProof.Rows L2
theorem appN (bs : List AV) : [] ++ bs = bs := rfl
theorem appC (x : AV) (as bs : List AV) : (x :: as) ++ bs = x :: (as ++ bs) := rfl
theorem revA (x y : AV) : [x, y].reverse = [y, x] := rfl
section
variable {T α : Type} [Tg T] {ρ : Env} {h : Exc → Env → T}
end
abbrev RBV5 := And.intro @RBV4 (And.intro @revA (And.intro @appC @appN))
end DL
end
section
namespace L2
open PySem PySem.Spec PyProof.Rows PySem.Calls
section
variable {K : PySem.W.Frag} {x qual : Str} {params : Arguments} {body : List Stmt} {scope : Scope} {kws : List (Str × V)} {f : Addr} {fd : FuncData} {ps : List Str}
end
end L2
namespace DL
variable [DL.TheW]
open PySem PySem.Spec PyProof.Rows L2 PySem.Calls
section
variable {X : Cx} {c : Ct} {k n : Nat} {f : Addr} {fd : FuncData} {ps ks : List Str} {fn : Fn} {x : Str} {p pos : Pos} {e : Expr} {es : List Expr} {kws : List Keyword} {ma mk ms : M (List AV)} {dv : V} {y : D}
end
end DL
namespace DL
variable [DL.TheW]
open PySem PySem.Spec PyProof.Rows L2
section
variable {T α : Type} [Tg T] {ρ : Env} {h : Exc → Env → T}
end
abbrev RBV6 := @RBV5
end DL
end
section
namespace DL
variable [DL.TheW]
open PySem PySem.Spec PyProof.Rows L2 PySem.Calls
def putF (g : Addr → Obj) : Hp → List Addr → List (Key × V) → Hp
 | H, a :: as, p :: kvs => putF g (upd H a (.frz (g a) (.tup [kV p.1, p.2]))) as kvs
 | H, _, _ => H
variable {g : Addr → Obj}
section
variable {X : Cx} {e : Expr} {te : TE} {p apos cpos pos : Pos}
end
section
variable {X : Cx} {c : Ct} {a : Expr} {p apos cpos pos : Pos} {ka pa : Bool} {ma : M D}
end
section
variable {T α : Type} [Tg T] {ρ : Env} {h : Exc → Env → T}
end
abbrev RBV7 := @RBV6
end DL
end
section
namespace DL
variable [DL.TheW]
open PySem PySem.Spec PyProof.Rows L2 PySem.Calls
section
variable {K : Frag} {F : Hp} {p : Addr} {od : Obj} {ws : List (Key × V)}
end
section
variable {K : Frag} {ca : Str → Addr} {F F2 H H2 : Hp}
end
open Classical in
noncomputable def mLendK (i : Nat) (fb : List Nat) (m : M D) : M D := fun ρ => match ρ[i]? with
 | some (some (.dct l)) => match m (ρ.set i (some (.d (.dict l)))) with
  | .ok y ρ' => if ρ'[i]? = some (some (.d (.dict l))) ∧ flatB y = true ∧ okSlots i fb 0 (ρ.set i (some (.d (.dict l)))) ρ' then .ok y (ρ'.set i (some (.dct l))) else .bad
  | _ => .bad
 | _ => .bad
section
variable {X : Cx} {c : Ct} {e : Expr} {pu : Bool} {m : M D}
end
section
variable {T : Type} [Tg T] {ρ : Env} {h : Exc → Env → T}
theorem rB_lendK {k : D → Env → T} (i : Nat) (fb : List Nat) (m : M D) : rB (mLendK i fb m ρ) k h = oB (kO (gt ρ i)) fun l => rB (m (ρ.set i (some (.d (.dict l))))) (fun y ρ' => iB (ρ'[i]? = some (some (.d (.dict l)))) (iB (flatB y = true ∧ okSlots i fb 0 (ρ.set i (some (.d (.dict l)))) ρ') (k y (ρ'.set i (some (.dct l)))))) hN := by
 unfold mLendK gt
 cases ρ[i]? with
 | none => rfl
 | some w => cases w with
  | none => rfl
  | some o => cases o with
   | dct l =>
    simp only [kO, oB_some]
    cases m (ρ.set i (some (.d (.dict l)))) with
    | ok y ρ' =>
     by_cases q : ρ'[i]? = some (some (.d (.dict l)))
     ·by_cases q2 : flatB y = true ∧ okSlots i fb 0 (ρ.set i (some (.d (.dict l)))) ρ'
      ·simp only [rB, iB_t q, iB_t q2, if_pos (And.intro q q2)]
      ·simp only [rB, iB, if_neg q2, if_neg fun z : _ ∧ _ => q2 z.2, if_pos q]
     ·simp only [rB, iB, if_neg q, if_neg fun z : _ ∧ _ => q z.1]
    | ex ξ ρ' => rfl
    | bad => rfl
   | _ => rfl
end
abbrev RBV8 := And.intro @rB_lendK @iB_True
end DL
end
section
namespace DL
variable [DL.TheW]
open PySem PySem.Spec PyProof.Rows L2 PySem.Calls
def nmO (os : List OV) : List (Str × OV) := os.map fun o => ("", o)
def mNilO : M (List OV) := fun ρ => .ok [] ρ
def mConsO (a : M OV) (r : M (List OV)) : M (List OV) := fun ρ => (a ρ).bind fun x ρ1 => (r ρ1).bind fun xs ρ2 => .ok (x :: xs) ρ2
def mTupO (m : M (List OV)) : M OV := fun ρ => (m ρ).bind fun os ρ1 => .ok (.tup (nmO os)) ρ1
def POs (K : Frag) (c : Ct) (F H : Hp) (σ : Sl) (Q : List V → Hp → Prop) (os : List OV) (ρ' : Env) : Prop :=
 ∀ F' H' O' A fvs, EnvR K c F' H' σ ρ' O' → Same F F' → OwF K c.ca F' H' fvs (nmO os) A → Apart c F' A O' → Q (fvs.map (·.2)) H'
def tOs (K : Frag) (c : Ct) (m : M (List OV)) : TA := fun σ H Q => ∃ F ρ O, EnvR K c F H σ ρ O ∧ (m ρ).post (POs K c F H σ Q) (PX K c σ)
structure SO (X : Cx) (c : Ct) (es : List Expr) (m : M (List OV)) : Prop where
 pa : PA X es (tOs X.K c m)
 len : ∀ ρ xs ρ', m ρ = .ok xs ρ' → xs.length = es.length
section
variable {K : Frag} {ca : Str → Addr} {F H : Hp}
end
section
variable {X : Cx} {c : Ct} {e : Expr} {es : List Expr} {pos : Pos} {ma : M OV} {ms : M (List OV)}
end
section
variable {K : Frag} {ca : Str → Addr} {F H : Hp}
end
def mTupM (i k : Nat) (g : List D → List D → Option (List D × D)) (ms : M (List D)) : M D := fun ρ => match ρ[i]? with
 | some (some (.tup fs)) => match fs[k]? with
  | some (x, .lst xs) => (ms (ρ.set i none)).bind fun as ρ1 => match g xs as with
   | some y => .ok y.2 (ρ1.set i (some (.tup (fs.set k (x, .lst y.1)))))
   | none => .bad
  | _ => .bad
 | _ => .bad
section
variable {X : Cx} {c : Ct} {e : Expr} {es : List Expr} {pos apos cpos npos ipos spos : Pos} {pu : Bool} {ms : M (List D)} {g : List D → List D → Option (List D × D)} {x name : Str} {id : String}
end
section
variable {K : Frag} {F : Hp} {A : List Addr}
end
open Classical in
noncomputable def mLendT (i : Nat) (fb : List Nat) (m : M Bool) : M Bool := fun ρ => match ρ[i]? with
 | some (some (.tup fs)) => match frzL fs with
  | some ds => match m (ρ.set i (some (.d (.tuple ds)))) with
   | .ok y ρ' => if ρ'[i]? = some (some (.d (.tuple ds))) ∧ okSlots i fb 0 (ρ.set i (some (.d (.tuple ds)))) ρ' then .ok y (ρ'.set i (some (.tup fs))) else .bad
   | _ => .bad
  | none => .bad
 | _ => .bad
section
variable {X : Cx} {c : Ct} {e : Expr} {pu : Bool} {m : M Bool}
end
section
variable {T : Type} [Tg T] {ρ : Env} {h : Exc → Env → T}
def tpO (w : Option OV) : Option (List (Str × OV)) := match w with
 | some (.tup fs) => some fs
 | _ => none
@[simp] theorem tpO_t (fs : List (Str × OV)) : tpO (some (.tup fs)) = some fs := rfl
theorem rB_nilO {k : List OV → Env → T} : rB (mNilO ρ) k h = k [] ρ := rfl
theorem rB_consO {k : List OV → Env → T} (a : M OV) (r : M (List OV)) : rB (mConsO a r ρ) k h = rB (a ρ) (fun x ρ1 => rB (r ρ1) (fun xs ρ2 => k (x :: xs) ρ2) h) h := by
 unfold mConsO; rw [rB_bind]; congr; funext x ρ1; rw [rB_bind]; rfl
theorem rB_tupO {k : OV → Env → T} (m : M (List OV)) : rB (mTupO m ρ) k h = rB (m ρ) (fun os ρ1 => k (.tup (nmO os)) ρ1) h := by
 unfold mTupO; rw [rB_bind]; rfl
theorem rB_lendT {k : Bool → Env → T} (i : Nat) (fb : List Nat) (m : M Bool) : rB (mLendT i fb m ρ) k h = oB (tpO (gt ρ i)) fun fs => oB (frzL fs) fun ds => rB (m (ρ.set i (some (.d (.tuple ds))))) (fun y ρ' => iB (ρ'[i]? = some (some (.d (.tuple ds)))) (iB (okSlots i fb 0 (ρ.set i (some (.d (.tuple ds)))) ρ') (k y (ρ'.set i (some (.tup fs)))))) hN := by
 unfold mLendT gt
 cases ρ[i]? with
 | none => rfl
 | some w => cases w with
  | none => rfl
  | some o => cases o with
   | tup fs =>
    simp only [tpO, oB_some]
    cases frzL fs with
    | none => rfl
    | some ds =>
     simp only [oB_some]
     cases m (ρ.set i (some (.d (.tuple ds)))) with
     | ok y ρ' =>
      by_cases q : ρ'[i]? = some (some (.d (.tuple ds)))
      ·by_cases q2 : okSlots i fb 0 (ρ.set i (some (.d (.tuple ds)))) ρ'
       ·simp only [rB, iB_t q, iB_t q2, if_pos (And.intro q q2)]
       ·simp only [rB, iB, if_neg q2, if_neg fun z : _ ∧ _ => q2 z.2, if_pos q]
      ·simp only [rB, iB, if_neg q, if_neg fun z : _ ∧ _ => q z.1]
     | ex ξ ρ' => rfl
     | bad => rfl
   | _ => rfl
def mbO (fs : List (Str × OV)) (k : Nat) : Option (List D) := match fs[k]? with
 | some (_, .lst xs) => some xs
 | _ => none
def mbS (fs : List (Str × OV)) (k : Nat) (xs : List D) : List (Str × OV) := match fs[k]? with
 | some (x, _) => fs.set k (x, .lst xs)
 | none => fs
theorem rB_tupM {kk : D → Env → T} (i k : Nat) (g : List D → List D → Option (List D × D)) (ms : M (List D)) : rB (mTupM i k g ms ρ) kk h = oB (tpO (gt ρ i)) fun fs => oB (mbO fs k) fun xs => rB (ms (ρ.set i none)) (fun as ρ1 => oB (g xs as) fun y => kk y.2 (ρ1.set i (some (.tup (mbS fs k y.1))))) h := by
 unfold mTupM gt
 cases ρ[i]? with
 | none => rfl
 | some w => cases w with
  | none => rfl
  | some o => cases o with
   | tup fs =>
    simp only [tpO, oB_some, mbO, mbS]
    cases fs[k]? with
    | none => rfl
    | some p =>
     obtain ⟨x, o⟩ := p
     cases o with
     | lst xs =>
      simp only [oB_some]
      rw [rB_bind]
      congr
      funext as ρ1
      cases g xs as <;> rfl
     | _ => rfl
   | _ => rfl
end
abbrev RBV9 := And.intro @rB_nilO (And.intro @rB_consO (And.intro @rB_tupO (And.intro @rB_lendT (And.intro @rB_tupM (And.intro @tpO_t @rB_lendT)))))
end DL
end
section
namespace DL
variable [DL.TheW]
open PySem PySem.Spec PyProof.Rows L2 PySem.Calls
section
variable {X : Cx} {elt tg iter : Expr} {ifs : List Expr} {rest : List Comprehension} {scope : Scope} {own : List (Str × Nat)} {pos : Pos} {wi : TI} {g : TG} {tt : TT} {vs' : List Nat}
end
section
variable {X : Cx} {c : Ct} {tg iter tg1 iter1 tg2 iter2 elt : Expr} {pos : Pos} {pi pt pi1 pt1 pi2 pt2 pe : Bool} {mi mi1 mi2 : M (List D)} {t t1 t2 : D → Env → Option Env} {tst tst1 tst2 : M Bool} {me : M D} {scope : Scope} {own : List (Str × Nat)} {ifs ifs1 ifs2 : List Expr} {fb fb1 fb2 vs1 vs2 : List Nat}
end
end DL
end
section
namespace DL
variable [DL.TheW]
open PySem PySem.Spec PyProof.Rows L2 PySem.Calls
section
variable {X : Cx} {c : Ct} {e e2 : Expr} {es : List Expr} {ts : List TE} {pos : Pos} {pu : Bool} {me : M D} {ms : M (List D)}
end
section
variable {T : Type} [Tg T] {ρ : Env} {h : Exc → Env → T}
end
abbrev RBVA := @rB_ok
end DL
end
section
namespace DL
variable [DL.TheW]
open PySem PySem.Spec PyProof.Rows L2
theorem exX_ok {P : Program} {w : World} {H : Hp} {h : Heap} {a : Addr} {cls : Value} {d : Option Addr} {oe : Obj} {vs : Array Value} (e : h.get? a = some oe) (z : Zc cls d oe) (dd : oe.data = .fields vs) : ObjOk P w H h a (ExX cls d a) :=
 ⟨⟨oe, vs, e, z.1, z.2, dd⟩, ⟨oe, e⟩, fun _ _ ⟨o, v, q, r⟩ k => ⟨o, v, k o q, r⟩⟩
section
variable {X : Cx} {pins : List (Addr × Obj)} {σ : Sl} {H : Hp} {s : Shared}
end
inductive HdsK (X : Cx) (n kn : Str) : List ExceptHandler → List Value → Prop
 | nil : HdsK X n kn [] []
 | cons {x : Str} {cv : Value} {np p1 p2 p3 pos' : Pos} {hds : List ExceptHandler} {l : List Value} (hc : Names X x cv) (hs : swapsWith (.Name n p2) (some (.Name kn p1)) p3.line X.env = pure false) (r : HdsK X n kn hds l) :
   HdsK X n kn (.ExceptHandler (some (.Name x np)) (some n) [.Assign [.Name kn p1] (.Name n p2) p3] pos' :: hds) (cv :: l)
section
variable {X : Cx} {Wo : WX} {D : Ends} {a : Addr} {B : Heap} {sI s' : Shared} {pins : List (Addr × Obj)} {σ : Sl} {H : Hp} {cls : Value} {d : Option Addr} {i j : Nat} {n kn : Str}
end
abbrev IsaF := ECls → Option Bool
inductive KsX (X : Cx) (c : Ct) (n kn : Str) : List ExceptHandler → List Value → List IsaF → Prop
 | nil : KsX X c n kn [] [] []
 | cons {x : Str} {cv : Value} {isa : IsaF} {np p1 p2 p3 pos' : Pos} {hds : List ExceptHandler} {l : List Value} {fs : List IsaF} (hc : Names X x cv) (hi : ∀ e b, isa e = some b → PySem.W.exmOne X.K (ecV c.ca e) cv = some b) (hs : swapsWith (.Name n p2) (some (.Name kn p1)) p3.line X.env = pure false) (r : KsX X c n kn hds l fs) :
   KsX X c n kn (.ExceptHandler (some (.Name x np)) (some n) [.Assign [.Name kn p1] (.Name n p2) p3] pos' :: hds) (cv :: l) (isa :: fs)
theorem zip_self {fvs : List (Str × V)} {fs : List (Str × D)} (h : fvs.map (·.1) = fs.map (·.1)) : (fvs.map (·.1)).zip (fs.map (·.2)) = fs := by
 rw [h]
 clear h
 induction fs with
 | nil => rfl
 | cons p fs ih => rw [List.map_cons, List.map_cons, List.zip_cons_cons, ih]
theorem xr_rp {K : Frag} {F : Hp} {H : Hp} {cls : Value} {d : Option Addr} {y : Str} {fs : List (Str × D)} {a : Addr} (x : XR K (He.ga K) F H cls d ⟨.own y, fs⟩) (e : F a = none) : Rp K (upd F a (ExX cls d a)) (.ref a) (excD y fs) := by
 obtain ⟨rfl, x2, x3⟩ := x
 have sm : Same F (upd F a (ExX (.ref (He.ga K y)) d a)) := same_upd e _
 by_cases hf : fs = []
 ·subst hf
  have := Rp.exc (K := K) (F := upd F a (ExX (.ref (He.ga K y)) d a)) (a := a) (d := d) (y := y) (fvs := []) (ds := []) upd_same (fun z => absurd rfl z) (fun _ => x3 rfl) .nil
  exact this
 ·obtain ⟨dd, fvs, h1, h2, h3, h4⟩ := x2 hf
  have := Rp.exc (K := K) (F := upd F a (ExX (.ref (He.ga K y)) d a)) (a := a) (d := d) (y := y) (fvs := fvs) (ds := fs.map (·.2)) upd_same (fun _ => ⟨dd, h1, sm _ _ h2⟩) (fun z => by
   subst z
   exfalso
   exact hf (List.map_eq_nil_iff.mp h3.symm)) (h4.mono sm)
  rw [zip_self h3] at this
  exact this
section
variable {X : Cx} {c : Ct} {body : List Stmt} {hds : List ExceptHandler} {h₀ : ExceptHandler} {l : List IsaF} {b : M Fl} {pos : Pos} {i j : Nat} {n kn : Str}
end
end DL
end
section
namespace DL
variable [DL.TheW]
open PySem PySem.Spec PyProof.Rows L2
def ExAt (H : Hp) (a C : Addr) (d : Option Addr) : Prop := H a = some (ExX (.ref C) d a) ∧ (d = none ∨ ∃ dd fs, d = some dd ∧ H dd = some (.xd fs))
theorem exAt_inst {X : Cx} {pins : List (Addr × Obj)} {σ : Sl} {H : Hp} {s : Shared} {a C : Addr} {d : Option Addr} (I : Inv X pins σ H s) (e : ExAt H a C d) : ∃ oe od, PySem.W.InstAt s.heap a oe C od := by
 obtain ⟨e1, e2⟩ := e
 obtain ⟨⟨oe, vs, g, q1, q2, q3⟩, _, _⟩ := I.hok a _ e1
 rcases e2 with rfl | ⟨dd, fs, rfl, hd⟩
 ·exact ⟨oe, none, g, q1, by unfold PySem.W.notCls; rw [q3] <;> rfl, by rw [q2] <;> exact trivial⟩
 ·have hx : ObjOk X.prog X.w H s.heap dd (.xd fs) := I.hok dd _ hd
  obtain ⟨mA, hns, hr⟩ := hx
  obtain ⟨od, ho, hl⟩ := lookIn_ns hns
  exact ⟨oe, some od, g, q1, by unfold PySem.W.notCls; rw [q3] <;> rfl, by rw [q2]; exact ho⟩
def rIsX (K : Frag) : List V → Hp → VK → Prop := fun xs H Q => ∃ (x c : V) (u : Value) (b : Bool), xs = [x, c] ∧ ClsV c u ∧
 ((x = .non ∧ PySem.W.kitOne K (.type "NoneType") u = some b) ∨ ∃ a C d, x = .ref a ∧ ExAt H a C d ∧ EcK K C ∧ PySem.W.kitOne K (.ref C) u = some b) ∧ Q (.bl b) H
theorem call_isX {X : Cx} : CallR X (.builtin "isinstance") (rIsX X.K) := by
 intro pins s σ H xs us Q I r h
 obtain ⟨x, c, u, b, rfl, k, hx, q⟩ := h
 rcases hx with ⟨rfl, e⟩ | ⟨a, C, d, rfl, at_, ec, e⟩
 ·exact call_isi pins s σ H _ us Q I r ⟨.non, c, _, u, b, rfl, k, .base .non, e, q⟩
 ·obtain ⟨u1, u2, rfl, r1, r2⟩ := vals2 r
  have e2 := k.eq r2
  subst e2
  cases (show u1 = Value.ref a from r1)
  obtain ⟨oe, od, J⟩ := exAt_inst I at_
  exact PySem.W.kia_one (PySem.W.kitx_exc ec.hcl ec.hga ec.hgt ec.hsub ec.ha ec.hn ec.htk ec.hm) I.kIn J e (fun z => nomatch z) fun tk => ⟨.bl b, H, I.tok tk, rfl, q⟩
def isxD (T : List (Str × Bool)) : D → Option D
 | .none => some (.bool false)
 | .dict kvs => match cells kvs with
  | some (.str y :: _) => (T.lookup y).map .bool
  | _ => none
 | _ => none
def lookX : List D → Str → Option D
 | [], _ => none
 | .tuple [.str g, v] :: r, f => if f = g then some v else lookX r f
 | _, _ => none
def fldxD (ys : List Str) (f : Str) : D → Option D
 | .dict kvs => match cells kvs with
  | some (.str y :: r) => if y ∈ ys then lookX r f else none
  | _ => none
 | _ => none
theorem exc_of {K : Frag} {F : Hp} {v : V} {kvs : List (D × D)} {y : Str} {r : List D} (h : Rp K F v (.dict kvs)) (e : cells kvs = some (.str y :: r)) :
  ∃ a d fvs ds, v = .ref a ∧ F a = some (ExX (.ref (He.ga K y)) d a) ∧ (fvs ≠ [] → ∃ dd, d = some dd ∧ F dd = some (.xd fvs)) ∧ (fvs = [] → d = none) ∧ RpAll K F (fvs.map (·.2)) ds ∧ r = ((fvs.map (·.1)).zip ds).map fun p => .tuple [.str p.1, p.2] := by
 have e1 := cells_ok e
 subst e1
 generalize e2 : PyData.dict [(PyData.none, PyData.list (.str y :: r))] = z at h
 cases h with
 | scr n _ _ => cases e2; cases n
 | exc h1 h2 h3 rr => unfold excD excL at e2; cases e2; exact ⟨_, _, _, _, rfl, h1, h2, h3, rr, rfl⟩
 | dcT _ _ _ => unfold tdL at e2; cases e2
 | dcK h rr =>
  obtain ⟨a, _, e3⟩ := zip_head (PyData.dict.inj e2).symm
  exact absurd e3 (kD_no _)
 | _ => cases e2
theorem exc_look {K : Frag} {F : Hp} {f : Str} {x : D} : ∀ {fvs : List (Str × V)} {ds : List D}, RpAll K F (fvs.map (·.2)) ds → lookX (((fvs.map (·.1)).zip ds).map fun p => .tuple [.str p.1, p.2]) f = some x → ∃ v, fvs.lookup f = some v ∧ Rp K F v x
 | [], _, _, h => by cases h
 | _ :: _, [], r, _ => by cases r
 | (g, v) :: fvs, y :: ds, r, h => by
  cases r with
  | cons r1 r2 =>
   have h : (if f = g then some y else lookX (((fvs.map (·.1)).zip ds).map fun p => PyData.tuple [.str p.1, p.2]) f) = some x := h
   rw [List.lookup_cons]
   by_cases e : f = g
   ·rw [if_pos e] at h
    cases h
    rw [show (f == g) = true from by simp [e]]
    exact ⟨v, rfl, r1⟩
   ·rw [if_neg e] at h
    rw [show (f == g) = false from by simp [e]]
    exact exc_look r2 h
theorem excB_of {K : Frag} {F H : Hp} {v : V} {kvs : List (D × D)} {y : Str} {r : List D} (h : RpB K F H v (.dict kvs)) (e : cells kvs = some (.str y :: r)) : Rp K F v (.dict kvs) := by
 generalize e2 : PyData.dict kvs = z at h ⊢
 cases h with
 | d r => exact r
 | lst _ _ => cases e2
 | dcK _ _ =>
  cases e2
  rw [cells_no (f := fun q : Key × V => kD q.1) fun a => kD_no a.1] at e
  cases e
 | dcT _ _ _ => unfold tdL at e2; cases e2; cases e
theorem isx_at {K : Frag} {F H : Hp} {v : V} {x z : D} {T : List (Str × Bool)} (s : Same F H) (r : RpB K F H v x) (h : isxD T x = some z) : (v = .non ∧ z = .bool false) ∨ ∃ a y b d, v = .ref a ∧ z = .bool b ∧ T.lookup y = some b ∧ ExAt H a (He.ga K y) d := by
 cases x with
 | none => cases h; exact .inl ⟨inv_none r, rfl⟩
 | dict kvs =>
  unfold isxD at h
  simp only at h
  split at h
  ·rename_i y r' hc
   obtain ⟨b, hb, rfl⟩ := Option.map_eq_some_iff.mp h
   obtain ⟨a, d, fvs, ds, rfl, h1, h2, h3, _, _⟩ := exc_of (excB_of r hc) hc
   refine .inr ⟨a, y, b, d, rfl, rfl, hb, s _ _ h1, ?_⟩
   by_cases q : fvs = []
   ·exact .inl (h3 q)
   ·obtain ⟨dd, e1, e2⟩ := h2 q
    exact .inr ⟨dd, fvs, e1, s _ _ e2⟩
  ·cases h
 | _ => cases h
section
variable {X : Cx} {c : Ct} {e : Expr} {pos p p2 : Pos} {ka pu : Bool} {me : M D} {x f : Str} {C : Addr}
theorem se_isx (T : List (Str × Bool)) (hm : X.mg "isinstance" = none) (gC : X.mg x = some (.ref C)) (hE : ∀ y b, T.lookup y = some b → EcK X.K (He.ga X.K y) ∧ PySem.W.kitOne X.K (.ref (He.ga X.K y)) (.ref C) = some b) (hN : PySem.W.kitOne X.K (.type "NoneType") (.ref C) = some false) (ha : PE X e (te X.K c ka pu me))
  (hg : Gl X "isinstance" := by rfl) (hg2 : Gl X x := by rfl) (hd2 : (x == ("__debug__" : Str)) = false := by decide)
  (hs : starEach [e, .Name x p2] X.env = (false, eval e X.env) :: starEach [.Name x p2] X.env := by rfl) (hs2 : starEach [.Name x p2] X.env = (false, eval (.Name x p2) X.env) :: starEach [] X.env := by rfl) (hpl : (backTo pos (starEach [.Name x p2] X.env)).any (·.1) = false := by rfl) :
  PE X (.Call (.Name "isinstance" p) [e, .Name x p2] [] pos) (te X.K c false pu (mF1 (isxD T) me)) :=
 (pe_callB call_isX hg hm boot_isinstance (pa_cons ha (pa_cons (pe_glob (v := .ref C) hg2 gC rfl hd2) pa_nil hs2) hs) (by decide) (by decide) hs hpl).imp fun σ H Q ⟨F, ρ, O, ev, h⟩ => by
  refine te_step ev h fun y ρ1 F1 H1 O1 v h1 e1 s1 q1 v1 => ?_
  obtain ⟨z, hz, h2⟩ := post_ofO h1
  rcases isx_at e1.sub v1.up0 hz with ⟨rfl, rfl⟩ | ⟨a, y, b, d, rfl, rfl, hb, at_⟩
  ·exact ⟨.non, .ref C, _, false, rfl, .own C, .inl ⟨rfl, hN⟩, h2 F1 H1 O1 _ e1 s1 q1 (.bl _)⟩
  ·obtain ⟨k1, k2⟩ := hE y b hb
   exact ⟨.ref a, .ref C, _, b, rfl, .own C, .inr ⟨a, _, d, rfl, at_, k1, k2⟩, h2 F1 H1 O1 _ e1 s1 q1 (.bl _)⟩
theorem se_isxB (T : List (Str × Bool)) {bn : String} (hm : X.mg "isinstance" = none) (hm2 : X.mg x = none) (hE : ∀ y b, T.lookup y = some b → EcK X.K (He.ga X.K y) ∧ PySem.W.kitOne X.K (.ref (He.ga X.K y)) (.type bn) = some b) (ha : PE X e (te X.K c ka pu me))
  (hN : PySem.W.kitOne X.K (.type "NoneType") (.type bn) = some false := by exact kit_ty (by decide +kernel)) (hv2 : bootBuiltins x = some (.type bn) := by decide +kernel) (hg : Gl X "isinstance" := by rfl) (hg2 : Gl X x := by rfl) (hn2 : x ≠ "__name__" := by decide) (hd2 : (x == ("__debug__" : Str)) = false := by decide)
  (hs : starEach [e, .Name x p2] X.env = (false, eval e X.env) :: starEach [.Name x p2] X.env := by rfl) (hs2 : starEach [.Name x p2] X.env = (false, eval (.Name x p2) X.env) :: starEach [] X.env := by rfl) (hpl : (backTo pos (starEach [.Name x p2] X.env)).any (·.1) = false := by rfl) :
  PE X (.Call (.Name "isinstance" p) [e, .Name x p2] [] pos) (te X.K c false pu (mF1 (isxD T) me)) :=
 (pe_callB call_isX hg hm boot_isinstance (pa_cons ha (pa_cons (pe_bltn (v := .ty bn) hg2 hm2 hv2 rfl hn2 hd2) pa_nil hs2) hs) (by decide) (by decide) hs hpl).imp fun σ H Q ⟨F, ρ, O, ev, h⟩ => by
  refine te_step ev h fun y ρ1 F1 H1 O1 v h1 e1 s1 q1 v1 => ?_
  obtain ⟨z, hz, h2⟩ := post_ofO h1
  rcases isx_at e1.sub v1.up0 hz with ⟨rfl, rfl⟩ | ⟨a, y, b, d, rfl, rfl, hb, at_⟩
  ·exact ⟨.non, .ty bn, _, false, rfl, .ty bn, .inl ⟨rfl, hN⟩, h2 F1 H1 O1 _ e1 s1 q1 (.bl _)⟩
  ·obtain ⟨k1, k2⟩ := hE y b hb
   exact ⟨.ref a, .ty bn, _, b, rfl, .ty bn, .inr ⟨a, _, d, rfl, at_, k1, k2⟩, h2 F1 H1 O1 _ e1 s1 q1 (.bl _)⟩
def tFx (K : Frag) (f : Str) (te : TE) : TE := fun σ H Q => te σ H fun x H1 => ∃ a C dd fs v, x = .ref a ∧ H1 a = some (ExX (.ref C) (some dd) a) ∧ XfC K C ∧ PySem.W.findIn K (.ref C) f = some none ∧ H1 dd = some (.xd fs) ∧ fs.lookup f = some v ∧ Q v H1
theorem pe_fx {te : TE} (he : PE X e te) (hb : attributeBase e f X.env (eval e X.env) = eval e X.env := by rfl) : PE X (.Attribute e f pos) (tFx X.K f te) := by
 refine ⟨fun pins s σ H Q I h => ?_⟩
 refine attr_of hb (thn (he.run pins s σ H _ I h) fun u s1 hh => ?_)
 obtain ⟨x, H1, I1, rx, a, C, dd, fs, v, ex, ea, T, hno, hd, l, q⟩ := hh
 subst ex
 obtain rfl : u = Value.ref a := rx
 obtain ⟨⟨oe, vs, g, q1, q2, q3⟩, _, _⟩ := I1.hok a _ ea
 have hx : ObjOk X.prog X.w H1 s1.heap dd (.xd fs) := I1.hok dd _ hd
 obtain ⟨mA, hns, hr⟩ := hx
 obtain ⟨od, ho, hl⟩ := lookIn_ns hns
 obtain ⟨u, hu, ru⟩ := RelO.some_of (v := v) (o := mA f) (by rw [← l]; exact hr f)
 have J : PySem.W.InstAt s1.heap a oe C (some od) := ⟨g, q1, by unfold PySem.W.notCls; rw [q3] <;> rfl, by rw [q2]; exact ho⟩
 exact HandSPX.exc_get I1.kIn J T.ga T.gg T.exC (PySem.W.findObj_own T.hdC hno rfl (by rw [hl, hu])) (handed_of ru) ⟨v, H1, I1.tok _, ru, q⟩
theorem se_fldx (ys : List Str) (T : ∀ y ∈ ys, XfC X.K (He.ga X.K y) ∧ PySem.W.findIn X.K (.ref (He.ga X.K y)) f = some none) (ha : PE X e (te X.K c ka pu me)) (hb : attributeBase e f X.env (eval e X.env) = eval e X.env := by rfl) :
  PE X (.Attribute e f pos) (te X.K c false pu (mF1 (fldxD ys f) me)) := (pe_fx ha hb).imp fun σ H Q ⟨F, ρ, O, ev, h⟩ => by
 refine te_step ev h fun y ρ1 F1 H1 O1 v h1 e1 s1 q1 v1 => ?_
 obtain ⟨z, hz, h2⟩ := post_ofO h1
 unfold fldxD at hz
 split at hz
 case h_2 => cases hz
 rename_i kvs
 split at hz
 case h_2 => cases hz
 rename_i y r' hc
 split at hz
 case isFalse => cases hz
 rename_i hm
 obtain ⟨T1, T2⟩ := T y hm
 obtain ⟨a, d, fvs, ds, rfl, g1, g2, g3, rr, er⟩ := exc_of (excB_of v1.up0 hc) hc
 rw [er] at hz
 obtain ⟨w, hw, rw'⟩ := exc_look rr hz
 have ne : fvs ≠ [] := fun q => by subst q; cases hw
 obtain ⟨dd, rfl, gd⟩ := g2 ne
 exact ⟨a, _, dd, fvs, w, rfl, e1.sub _ _ g1, T1, T2, e1.sub _ _ gd, hw, h2 F1 H1 O1 w e1 s1 q1 rw'⟩
end
@[simp] theorem notE_str (y : Str) (r : List D) : notE (.str y :: r) = false := rfl
end DL
end
section
namespace DL
variable [DL.TheW]
open PySem PySem.Spec PyProof.Rows L2 PySem.W
section
variable {X : Cx} {e : Expr} {te : TE} {p apos cpos pos : Pos}
end
section
variable {X : Cx} {c : Ct} {a : Expr} {p apos cpos pos : Pos} {ka pa : Bool} {ma : M D}
end
section
variable {K : Frag} {c : Ct} {F H : Hp} {σ : Sl} {ρ : Env} {O A : List Addr} {i : Nat} {f : Str} {fs : List (Str × OV)} {o : OV}
end
def bagV (f : Str) : Option OV → Option OV
 | some (.bag fs) => if (fs.map (·.1)).Nodup ∧ fs.length < 1000 then fs.lookup f else none
 | _ => none
def lkB (f : Str) (w : Option OV) : Option D := (bagV f w).bind OV.look
def setB (f : Str) (o : OV) : Option OV → Option OV
 | some (.bag fs) => some (.bag (putO f o fs))
 | w => w
def bagD (f : Str) (w : Option OV) : Bool := match bagV f w with
 | some (.d _) => true
 | _ => false
def bagL (f : Str) (w : Option OV) : Option (List (D × D)) := match bagV f w with
 | some (.dct l) => some l
 | _ => none
section
variable {X : Cx} {c : Ct} {e ix : Expr} {pos npos ipos spos fpos : Pos} {p1 p2 : Bool} {mv mi m1 : M D} {x f : Str} {j : Nat}
end
end DL
end
section
namespace DL
variable [DL.TheW]
open PySem PySem.Spec PyProof.Rows L2 PySem.W
theorem isx_nil {K : Frag} {u : Value} : ∀ (y : Str) (b : Bool), ([] : List (Str × Bool)).lookup y = some b → EcK K (He.ga K y) ∧ PySem.W.kitOne K (.ref (He.ga K y)) u = some b := fun y b h => by cases h
theorem isx_cons {K : Frag} {u : Value} {x : Str} {b0 : Bool} {r : List (Str × Bool)} (h1 : EcK K (He.ga K x)) (h2 : PySem.W.kitOne K (.ref (He.ga K x)) u = some b0) (hr : ∀ (y : Str) (b : Bool), r.lookup y = some b → EcK K (He.ga K y) ∧ PySem.W.kitOne K (.ref (He.ga K y)) u = some b) :
  ∀ (y : Str) (b : Bool), ((x, b0) :: r).lookup y = some b → EcK K (He.ga K y) ∧ PySem.W.kitOne K (.ref (He.ga K y)) u = some b := fun y b h => by
 by_cases e : x = y
 ·subst e
  rw [lookup_self] at h
  cases h
  exact ⟨h1, h2⟩
 ·rw [lookup_next _ _ e] at h
  exact hr y b h
def lkBD (f : Str) (w : Option OV) : Option D := match bagV f w with
 | some (.d x) => some x
 | _ => none
section
variable {X : Cx} {c : Ct} {pos npos ipos : Pos} {x f : Str} {j : Nat}
end
def excO (ξ : Exc) : Option D := match ξ.c with
 | .own y => some (excD y ξ.fs)
 | .blt _ => none
def bagS (f : Str) (w : Option OV) (v : D) : Option OV := match w with
 | some (.bag fs) => if bagD f (some (.bag fs)) = true then some (.bag (putO f (.d v) fs)) else none
 | _ => none
section
variable {T : Type} [Tg T] {ρ : DL.Env} {h : Exc → DL.Env → T}
section
variable {k : Fl → DL.Env → T}
end
end
abbrev roomO (x : D) (l : List (D × D)) : OV := .bag [("parts", .d x), ("holes", .dct l)]
theorem room_1 (x : D) (l : List (D × D)) : lkB "parts" (some (roomO x l)) = some x := by
 unfold lkB bagV roomO
 simp only
 rw [if_pos (by refine ⟨?_, by show 2 < 1000; decide⟩; show (["parts", "holes"] : List Str).Nodup; decide)]
 rfl
theorem room_6 (x : D) (l : List (D × D)) : lkBD "parts" (some (roomO x l)) = some x := by
 unfold lkBD bagV roomO
 simp only
 rw [if_pos (by refine ⟨?_, by show 2 < 1000; decide⟩; show (["parts", "holes"] : List Str).Nodup; decide)]
 rfl
theorem room_2 (x : D) (l : List (D × D)) : lkB "holes" (some (roomO x l)) = some (.dict l) := by
 unfold lkB bagV roomO
 simp only
 rw [if_pos (by refine ⟨?_, by show 2 < 1000; decide⟩; show (["parts", "holes"] : List Str).Nodup; decide)]
 rfl
theorem room_3 (x v : D) (l : List (D × D)) : bagS "parts" (some (roomO x l)) v = some (roomO v l) := by
 have e : bagD "parts" (some (roomO x l)) = true := by
  unfold bagD bagV roomO
  simp only
  rw [if_pos (by refine ⟨?_, by show 2 < 1000; decide⟩; show (["parts", "holes"] : List Str).Nodup; decide)]
  rfl
 show (if bagD "parts" (some (roomO x l)) = true then some (OV.bag (putO "parts" (.d v) [("parts", .d x), ("holes", .dct l)])) else none) = some (roomO v l)
 rw [if_pos e]
 rfl
theorem room_4 (x : D) (l : List (D × D)) : bagL "holes" (some (roomO x l)) = some l := by
 unfold bagL bagV roomO
 simp only
 rw [if_pos (by refine ⟨?_, by show 2 < 1000; decide⟩; show (["parts", "holes"] : List Str).Nodup; decide)]
 rfl
theorem room_5 (x : D) (l z : List (D × D)) : setB "holes" (.dct z) (some (roomO x l)) = some (roomO x z) := rfl
abbrev RBVB := And.intro @room_1 (And.intro @room_2 (And.intro @room_3 (And.intro @room_4 (And.intro @room_6 @room_5))))
end DL
end
section
namespace DL
variable [DL.TheW]
open PySem PySem.Spec PyProof.Rows L2
structure FnOkG (P : Program) (w : World) (K : Frag) (mg : Str → Option Value) (base : Heap) (CX : CXT) (k : Nat) (f : Addr) (fd : FuncData) (ps : List Str) (sp : Sp) : Prop where
 len : ∀ vs H Q E, sp vs H Q E → vs.length = ps.length
 run : ∀ (A : Around) (out : List PySem.Env) (s : Shared) (H : Hp) (args : Args) (us : List Value) (vs : List V) (Q : VK) (E : XK), A.guards = some [] → Room k A →
  Env0 P w K mg base A out s H → BindsTo s fd args (ps.zip us) → Vals vs us → sp vs H Q E → codeAny (model P w) A (.call (.ref f) args) (CR CX out P w H s Q E) s
section
variable {P : Program} {w : World} {K : Frag} {mg : Str → Option Value} {base : Heap} {x qual : Str} {params : Arguments} {body : List Stmt} {scope : Scope} {dvs : List V} {kws : List (Str × V)} {f : Addr} {fd : FuncData} {N ps : List Str} {k : Nat}
end
omit [DL.TheW] in
omit [DL.TheW] in
section
variable {X : Cx}
end
end DL
end
section
namespace DL
variable [DL.TheW]
open PySem PySem.Spec PyProof.Rows
section
variable {prog : Program} {w : World} {A : Around} {E : Value → Shared → Prop} {s : Shared}
structure Prs (xs ys : Array Value) (B : Nat) (h : Heap) (as : List Addr) : Prop where
 rise : as.Pairwise (· < ·)
 above : ∀ a ∈ as, B ≤ a
 pair : ∀ (j : Nat) (a : Addr), as[j]? = some a → ∃ x y, xs[j]? = some x ∧ ys[j]? = some y ∧ IsPair h a x y
end
end DL
end
section
namespace DL
variable [DL.TheW]
open PySem PySem.Spec PyProof.Rows L2 PySem.Calls
variable {g : Addr → Obj}
section
variable {X : Cx} {c : Ct} {e e2 : Expr} {pos p p3 pos3 cp kp : Pos} {p1 p2 : Bool} {ma mb : M D} {ck : Nat}
end
section
variable {T α : Type} [Tg T] {ρ : DL.Env} {h : Exc → DL.Env → T}
end
end DL
end
section
namespace DL
variable [DL.TheW]
open PySem PySem.Spec PyProof.Rows L2 PySem.Calls
section
variable {X : Cx} {c : Ct} {k n : Nat} {f : Addr} {fd : FuncData} {ps ks : List Str} {fn : Fn} {x : Str} {p pos : Pos} {e : Expr} {es : List Expr} {kws : List Keyword} {ma mk ms : M (List AV)} {dv : V} {y : D}
end
end DL
namespace DL
variable [DL.TheW]
open PySem PySem.Spec PyProof.Rows L2
section
variable {T α : Type} [Tg T] {ρ : Env} {h : Exc → Env → T}
end
abbrev RBVE := @RBVA
end DL
end
section
namespace L2
variable [DL.TheW]
open PySem PySem.Spec PyProof.Rows
section
variable {X : Cx}
end
end L2
namespace DL
variable [DL.TheW]
open PySem PySem.Spec PyProof.Rows L2
section
variable {X : Cx} {c : Ct} {a e : Expr} {pos apos : Pos} {ka pa pu : Bool} {ma me : M D}
end
section
variable {T : Type} [Tg T] {ρ : Env} {h : Exc → Env → T} {k : D → Env → T}
end
abbrev RBVF := @RBVE
end DL
end
section
namespace DL
variable [DL.TheW]
open PySem PySem.Spec PyProof.Rows L2 PySem.W
section
variable {X : Cx} {c : Ct}
end
section
variable {P : Program} {w : World} {K : Frag} {mg : Str → Option Value} {base : Heap} {x qual : Str} {params : Arguments} {body : List Stmt} {scope : Scope} {dvs : List V} {kws : List (Str × V)} {f : Addr} {fd : FuncData} {N ps : List Str} {k : Nat}
end
section
variable {X : Cx} {c : Ct} {e : Expr} {es : List Expr} {pos apos npos : Pos} {ms : M (List AV)} {x cl m : Str} {k : Nat} {f : Addr} {fd : FuncData} {ps : List Str} {fn : Fn}
end
section
variable {T : Type} [Tg T]
def cXS (r : Rf) (h : Exc → Env → T) (k : OV → Env → T) : T := match r with
 | .ok o w => k o w
 | .exS ξ w => h ξ w
 | .ex _ => Tg.bad
 | .bad => Tg.bad
@[simp] theorem cXS_ok (o : OV) (w : Env) (h : Exc → Env → T) (k : OV → Env → T) : cXS (.ok o w) h k = k o w := rfl
@[simp] theorem cXS_ex (ξ : Exc) (w : Env) (h : Exc → Env → T) (k : OV → Env → T) : cXS (.exS ξ w) h k = h ξ w := rfl
theorem pB_xS {α : Type} (r : Rf) (h : Exc → Env → Pr α) (k : OV → Env → Pr α) (k' : α → T) : pB (cXS r h k) k' = cXS r (fun ξ w => pB (h ξ w) k') fun o w => pB (k o w) k' := by cases r <;> rfl
theorem nB_xS {α : Type} (r : Rf) (h : Exc → Env → Pr α) (k : OV → Env → Pr α) (k' : α → T) : nB (cXS r h k) k' = cXS r (fun ξ w => nB (h ξ w) k') fun o w => nB (k o w) k' := by cases r <;> rfl
variable (ρ : Env) (k : OV → Env → T) (h : Exc → Env → T)
end
end DL
end
section
namespace DL
variable [DL.TheW]
open PySem PySem.Spec PyProof.Rows L2 PySem.W
def joinT (a : Str) (ys : List Str) : Option D := if (ys.map (·.length)).sum + ys.length * a.length ≤ 16777216 then some (.str (Txt.join a ys)) else none
def joinO (a : Str) (x : D) : Option D := match x with
 | .list ds => (allStr ds).bind (joinT a)
 | .tuple ds => (allStr ds).bind (joinT a)
 | _ => none
def mJoin (ma mb : M D) : M D := fun ρ => (ma ρ).bind fun x ρ1 => match x with
 | .str a => (mb ρ1).bind fun y ρ2 => ofO (joinO a y) ρ2
 | _ => .bad
section
variable {X : Cx} {c : Ct} {o e : Expr} {pos apos : Pos} {ka pa kb pb : Bool} {ma mb : M D}
end
section
variable {X : Cx} {c : Ct} {e : Expr} {pos npos fpos : Pos} {p1 : Bool} {m : M D} {cl f x : Str} {op : Operator} {g : D → D → Option D} {rd : V → V → Hp → VK → Prop}
end
section
variable {X : Cx} {c : Ct} {e ix : Expr} {pos npos fpos spos : Pos} {p1 p2 : Bool} {mi mv : M D} {cl f x : Str} {op : Operator} {g : D → D → Option D} {rd : V → V → Hp → VK → Prop}
end
section
variable {T : Type} [Tg T] {ρ : DL.Env} {h : Exc → DL.Env → T}
theorem rB_joinT {k : D → DL.Env → T} (a b : M D) : rB (mJoin a b ρ) k h = rB (a ρ) (fun x ρ1 => oB (sO x) fun s => rB (b ρ1) (fun y ρ2 => oB (joinO s y) fun z => k z ρ2) h) h := by
 unfold mJoin; rw [rB_bind]; congr; funext x ρ1
 cases x with
 | str s =>
  show rB ((b ρ1).bind _) k h = rB (b ρ1) _ h
  rw [rB_bind]; congr; funext y ρ2; rw [rB_ofO]
 | _ => rfl
end
abbrev RBVG := And.intro @RBVF @rB_joinT
end DL
end
section
namespace DL
variable [DL.TheW]
open PySem PySem.Spec PyProof.Rows L2 PySem.W
section
variable {X : Cx} {pins : List (Addr × Obj)} {σ : L2.St} {H F : Hp} {s : Shared}
end
section
variable {X : Cx}
end
section
variable {X : Cx} {c : Ct} {p p2 p3 pos : Pos} {x C cl : Str}
end
section
variable {X : Cx} {c : Ct} {pos q1 q2 : Pos} {x y cl : Str} {k : Nat} {f : Addr} {fd : FuncData} {ps : List Str} {fn : Fn}
end
section
variable {T : Type} [Tg T] {ρ : DL.Env} {h : Exc → DL.Env → T}
end
abbrev RBVH := @RBVG
end DL
end
section
namespace DL
variable [DL.TheW]
open PySem PySem.Spec PyProof.Rows L2 PySem.W
end DL
end
section
namespace DL
variable [DL.TheW]
open PySem PySem.Spec PyProof.Rows L2 PySem.W
section
variable {X : Cx} {c : Ct} {pos p : Pos} {x : Str} {e : Expr} {k : Nat} {f : Addr} {fd : FuncData} {ps : List Str} {fn : Fn} {me : M D} {hk : Bool}
end
section
variable {T : Type} [Tg T] {ρ : DL.Env} {h : Exc → DL.Env → T}
end
def mulKD : D → D → Option D
 | .int i, .int j => if j.natAbs < 2 ^ 60 then some (.int (i * j)) else none
 | _, _ => none
theorem op_mulK {X : Cx} : OpR X (binaryOp .Mult) (rI (fun _ j => j.natAbs < 2 ^ 60) fun i j => .int (i * j)) := opI fun _ j _ _ _ _ _ hc q => mul_int q (IntMulOk.of_right (by
 unfold Builtin.Int.intBits
 split
 ·omega
 ·have := PySem.Flt.log2_lt_of (by decide) hc
  omega))
theorem od_mulK {X : Cx} : OpR X (binaryOp .Mult) (rD X.K mulKD) := by
 refine opr_imp op_mulK fun v w H Q ⟨F, x, y, z, s, rv, rw', hz, q⟩ => ?_
 unfold mulKD at hz
 split at hz
 ·split at hz
  ·rename_i hc
   cases hz
   exact ⟨_, _, inv_int rv, inv_int rw', hc, q F H _ (New.refl s) (.int _)⟩
  ·cases hz
 ·cases hz
def CPowW (i j : Int) : Prop := 0 ≤ j ∧ j ≤ 1000 ∧ i.natAbs < 2 ^ 9000
instance (i j : Int) : Decidable (CPowW i j) := inferInstanceAs (Decidable (_ ∧ _ ∧ _))
section
variable {X : Cx} {c : Ct} {a e : Expr} {pos apos : Pos} {ka pa pu : Bool} {ma me : M D}
end
section
variable {T : Type} [Tg T] {ρ : DL.Env} {h : Exc → DL.Env → T} {k : D → DL.Env → T}
end
abbrev RBVI := And.intro @RBVH (And.intro @pB_xS @nB_xS)
end DL
end
section
namespace DL
variable [DL.TheW]
open PySem PySem.Spec PyProof.Rows L2
def lvs (s b : Nat) : Nat → Nat
 | 0 => b
 | n + 1 => lvs s b n + s
end DL
end
section
namespace DL
variable [DL.TheW]
open PySem PySem.Spec PyProof.Rows L2 PySem.W
section
variable {X : Cx} {e : Expr} {te : TE} {p apos cpos pos : Pos}
end
section
variable {X : Cx} {c : Ct} {a : Expr} {p apos cpos pos : Pos} {ka pa : Bool} {ma : M D}
end
section
variable {T α : Type} [Tg T] {ρ : DL.Env} {h : Exc → DL.Env → T}
end
end DL
end
section
namespace DL
variable [DL.TheW]
open PySem PySem.Spec PyProof.Rows L2
section
variable {X : Cx} {c : Ct} {e1 e2 e3 : Expr} {pos : Pos} {p1 p2 p3 : Bool} {m1 m2 m3 : M D}
end
section
variable {T α : Type} [Tg T] {ρ : DL.Env} {h : Exc → DL.Env → T}
end
abbrev RBVJ := @RBVI
end DL
end
section
namespace DL
variable [DL.TheW]
open PySem PySem.Spec PyProof.Rows L2
variable {σ : Type}
end DL
end
section
namespace DLs
open PySem PySem.Calls PyProof.Rows PySem.Spec
section
variable {prog : Program} {w : World} {A : Around} {E : Value → Shared → Prop} {s : Shared}
end
end DLs
namespace DL
variable [DL.TheW]
open PySem PySem.Spec PyProof.Rows L2
def listSD : D → Option (List D)
 | .str z => if z.length ≤ sizeLine then some (charsD z) else none
 | x => listD x
end DL
end
section
namespace SR
variable [DL.TheW]
open PySem PySem.Spec PyProof.Rows L2 DL
noncomputable def m_Reader_sees : M Fl := (sRet (mD (mBin eqD (mSl (mFld 0 "Reader" "text") (bTo (mFldD 0 "Reader" "spot")) (bTo (mBin addD (mFld 0 "Reader" "spot") (mC (.int 1))))) (mVar 1))))
noncomputable def f_Reader_sees : Fn := fnOf 2 2 [0] m_Reader_sees
noncomputable abbrev b1_Reader_take : M Fl := (sK [2] (sSeq (mIf (mNot (mB (mFrz (mCall SR.f_Reader_sees (gOb 0 "Reader" "sees" (gD (mVar 2) gNil)))))) (sRaiseX "NoText" ["at"] (gD (mFldD 0 "Reader" "spot") gNil)) sNil) (sFldSet 0 "Reader" "spot" (mD (mBin addD (mFld 0 "Reader" "spot") (mC (.int 1)))))))
noncomputable def m_Reader_take : M Fl := (sKb [2] (sFor (mItems (mVar 1)) (tName 2) b1_Reader_take))
noncomputable def f_Reader_take : Fn := fnOf 3 2 [0] m_Reader_take
noncomputable abbrev w1_Reader_called : M Bool := (mAnd (mB (mBin ltD (mFld 0 "Reader" "spot") (mBin min2D (mBin addD (mVar 2) (mC (.int 8))) (mF1 lenD (mFld 0 "Reader" "text"))))) (mB (mBin inD (mBin ixD (mFld 0 "Reader" "text") (mFld 0 "Reader" "spot")) (mBin addD (mVar 1) (mC (.str "0123456789"))))))
noncomputable abbrev b2_Reader_called : M Fl := (sK [] (sFldSet 0 "Reader" "spot" (mD (mBin addD (mFld 0 "Reader" "spot") (mC (.int 1))))))
noncomputable def m_Reader_called : M Fl := (sSeq (sSet 2 (mFldD 0 "Reader" "spot")) (sSeq (mIf (mB (mBin ninD (mSl (mFld 0 "Reader" "text") (bTo (mVar 2)) (bTo (mBin addD (mVar 2) (mC (.int 1))))) (mLstF (mFN listSD (mVar 1))))) (sRaiseX "NoText" ["at"] (gD (mVar 2) gNil)) sNil) (sSeq (sKb [] (sWhile w1_Reader_called b2_Reader_called)) (sRet (mD (mSl (mFld 0 "Reader" "text") (bTo (mVar 2)) (bTo (mFldD 0 "Reader" "spot"))))))))
noncomputable def f_Reader_called : Fn := fnOf 3 2 [0] m_Reader_called
noncomputable abbrev w1_Reader_one_round : M Bool := (mB (mFrz (mCall SR.f_Reader_sees (gOb 0 "Reader" "sees" (gD (mC (.str " ")) gNil)))))
noncomputable abbrev b2_Reader_one_round : M Fl := (sK [] (sSeq (sDrop (mCall SR.f_Reader_take (gOb 0 "Reader" "take" (gD (mC (.str " ")) gNil)))) (sDrop (mD (mLM 1 appendD (mCons (mFrz (mCall SR.f_Reader_called (gOb 0 "Reader" "called" (gD (mC (.str "abcdefghijklmnopqrstuvwxyz")) gNil)))) mNil))))))
noncomputable def m_Reader_one_round : M Fl := (sSeq (sDrop (mCall SR.f_Reader_take (gOb 0 "Reader" "take" (gD (mC (.str "(")) gNil)))) (sSeq (sSetO 1 (mLst (mCons (mFrz (mCall SR.f_Reader_called (gOb 0 "Reader" "called" (gD (mC (.str "abcdefghijklmnopqrstuvwxyz")) gNil)))) mNil))) (sSeq (sDrop (mCall SR.f_Reader_take (gOb 0 "Reader" "take" (gD (mC (.str " ")) gNil)))) (sSeq (sDrop (mD (mLM 1 appendD (mCons (mFrz (mCall SR.f_Reader_called (gOb 0 "Reader" "called" (gD (mC (.str "abcdefghijklmnopqrstuvwxyz")) gNil)))) mNil)))) (sSeq (sKb [] (sWhile w1_Reader_one_round b2_Reader_one_round)) (sSeq (sDrop (mCall SR.f_Reader_take (gOb 0 "Reader" "take" (gD (mC (.str ")")) gNil)))) (sRet (mD (mF1 tupD (mLook 1))))))))))
noncomputable def f_Reader_one_round : Fn := fnOf 2 1 [0] m_Reader_one_round
noncomputable abbrev w1_Reader_turn : M Bool := (mB (mFrz (mCall SR.f_Reader_sees (gOb 0 "Reader" "sees" (gD (mC (.str "(")) gNil)))))
noncomputable abbrev b2_Reader_turn : M Fl := (sK [] (sDrop (mD (mLM 1 appendD (mCons (mFrz (mCall SR.f_Reader_one_round (gOb 0 "Reader" "one_round" gNil))) mNil)))))
noncomputable def g3_Reader_turn : M D := (mOrV (mFldD 0 "Reader" "odd") (mBin inD (mVar 5) (mLook 2)))
noncomputable abbrev b4_Reader_turn : M Fl := (sK [5, 6] (sSeq (sFldSet 0 "Reader" "odd" (mD g3_Reader_turn)) (sPutK 2 (mVar 5) (mVar 6))))
noncomputable abbrev b5_Reader_turn : M Fl := (sK [3, 4, 5, 6] (sKb [5, 6] (sFor (mZip (mBin addD (mLstF (mCons (mVar 3) mNil)) (mVar 4)) (mBin addD (mVar 4) (mLstF (mCons (mVar 3) mNil)))) (tTup 2 (tsCons (tName 5) (tsCons (tName 6) tsNil))) b4_Reader_turn)))
noncomputable def g6_Reader_turn : M D := (mIf (mNot (mB (mFldD 0 "Reader" "odd"))) (mFrz (mCall SH.f_turn_from (gD (mFrzKV 2) gNil))) (mTup mNil))
noncomputable def g7_Reader_turn : M D := (mOrV (mFldD 0 "Reader" "odd") (mBin neD (mFrz (mCall SH.f_rounds_of (gD (mVar 7) gNil))) (mLook 1)))
noncomputable def m_Reader_turn : M Fl := (sSeq (sSetO 1 (mLst mNil)) (sSeq (sKb [] (sWhile w1_Reader_turn b2_Reader_turn)) (sSeq (sSetO 2 mDict0) (sSeq (sKb [3, 4, 5, 6] (sFor (mItems (mFrzV 1)) (tStar 1 (tsCons (tName 3) (tsCons (tName 4) tsNil))) b5_Reader_turn)) (sSeq (sFz 2 (sSet 7 g6_Reader_turn)) (sSeq (sFldSet 0 "Reader" "odd" (mD g7_Reader_turn)) (sRet (mD (mVar 7)))))))))
noncomputable def f_Reader_turn : Fn := fnOf 8 1 [0] m_Reader_turn
noncomputable abbrev w1_Reader_parts : M Bool := (mB (mFrz (mCall SR.f_Reader_sees (gOb 0 "Reader" "sees" (gD (mC (.str ",")) gNil)))))
noncomputable abbrev b2_Reader_parts (R : Fn) : M Fl := (sK [] (sSeq (sDrop (mCall SR.f_Reader_take (gOb 0 "Reader" "take" (gD (mC (.str ", ")) gNil)))) (sDrop (mD (mLM 1 appendD (mCons (mFrz (mCall R (gOb 0 "Reader" "term" gNil))) mNil))))))
noncomputable def g3_Reader_parts (R : Fn) : M Fl := (sK [] (mIf (mNot (mB (mFrz (mCall SR.f_Reader_sees (gOb 0 "Reader" "sees" (gD (mC (.str ")")) gNil)))))) (sSeq (sDrop (mD (mLM 1 appendD (mCons (mFrz (mCall R (gOb 0 "Reader" "term" gNil))) mNil)))) (sKb [] (sWhile w1_Reader_parts (b2_Reader_parts R)))) sNil))
noncomputable def m_Reader_parts (R : Fn) : M Fl := (sSeq (sDrop (mCall SR.f_Reader_take (gOb 0 "Reader" "take" (gD (mC (.str "(")) gNil)))) (sSeq (sSetO 1 (mLst mNil)) (sSeq (g3_Reader_parts R) (sSeq (sDrop (mCall SR.f_Reader_take (gOb 0 "Reader" "take" (gD (mC (.str ")")) gNil)))) (sRet (mD (mF1 tupD (mLook 1))))))))
noncomputable def f_Reader_parts (R : Fn) : Fn := fnOf 2 1 [0] (m_Reader_parts R)
noncomputable def g1_Reader_term : M Bool := (mOr (mB (mFrz (mCall SR.f_Reader_sees (gOb 0 "Reader" "sees" (gD (mC (.str "(")) gNil))))) (mB (mBin inD (mSl (mFld 0 "Reader" "text") (bTo (mFldD 0 "Reader" "spot")) (bTo (mBin addD (mFld 0 "Reader" "spot") (mC (.int 1))))) (mLstF (mFN listSD (mC (.str "ABCDEFGHIJKLMNOPQRSTUVWXYZ")))))))
noncomputable def m_Reader_term (R : Fn) : M Fl := (sSeq (mIf (mB (mFrz (mCall SR.f_Reader_sees (gOb 0 "Reader" "sees" (gD (mC (.str "[")) gNil))))) (sSeq (sDrop (mCall SR.f_Reader_take (gOb 0 "Reader" "take" (gD (mC (.str "[")) gNil)))) (sSeq (sSet 1 (mFrz (mCall SR.f_Reader_called (gOb 0 "Reader" "called" (gD (mC (.str "abcdefghijklmnopqrstuvwxyz")) gNil))))) (sSeq (sDrop (mCall SR.f_Reader_take (gOb 0 "Reader" "take" (gD (mC (.str "]")) gNil)))) (sRet (mD (mTup (mCons (mC (.str "shut")) (mCons (mVar 1) (mCons (mFrz (mCall R (gOb 0 "Reader" "term" gNil))) mNil))))))))) sNil) (sSeq (mIf g1_Reader_term (sSeq (sSet 2 (mFrz (mCall SR.f_Reader_turn (gOb 0 "Reader" "turn" gNil)))) (sRet (mD (mTup (mCons (mC (.str "hole")) (mCons (mVar 2) (mCons (mFrz (mCall SR.f_Reader_called (gOb 0 "Reader" "called" (gD (mC (.str "ABCDEFGHIJKLMNOPQRSTUVWXYZ")) gNil)))) mNil))))))) sNil) (sSeq (sSet 3 (mFrz (mCall SR.f_Reader_called (gOb 0 "Reader" "called" (gD (mC (.str "abcdefghijklmnopqrstuvwxyz")) gNil))))) (sSeq (mIf (mB (mFrz (mCall SR.f_Reader_sees (gOb 0 "Reader" "sees" (gD (mC (.str "(")) gNil))))) (sRet (mD (mTup (mCons (mC (.str "sign")) (mCons (mVar 3) (mCons (mFrz (mCall (SR.f_Reader_parts R) (gOb 0 "Reader" "parts" gNil))) mNil)))))) sNil) (sRet (mD (mTup (mCons (mC (.str "name")) (mCons (mVar 3) mNil)))))))))
noncomputable def f_Reader_term : Nat → Fn
 | 0 => fun _ => .bad
 | n + 1 => fnOf 4 1 [0] (m_Reader_term (f_Reader_term n))
end SR
end
section
namespace DL
variable [DL.TheW]
open PySem PySem.Spec PyProof.Rows L2 PySem.Calls
section
variable {prog : Program} {w : World} {A : Around} {E : Value → Shared → Prop} {s : Shared}
end
section
variable {X : Cx} {c : Ct} {e e2 : Expr} {pos p p3 pos3 : Pos} {p1 p2 : Bool} {ma mb : M D}
end
section
variable {X : Cx} {c : Ct} {o e : Expr} {pos apos : Pos} {ka pa kb pb : Bool} {ma mb : M D}
end
section
variable {T α : Type} [Tg T] {ρ : Env} {h : Exc → Env → T}
end
abbrev RBVK := @RBVJ
end DL
end
section
namespace DL
variable [DL.TheW]
open PySem PySem.Spec PyProof.Rows L2
section
variable {X : Cx} {CX : CXT} {k : Nat} {f : Addr} {fd : FuncData} {ps : List Str} {sp : Sp} {E : L2.St → XK} {x : Str} {e : Expr} {es : List Expr} {t : TA} {p pos : Pos}
end
section
variable {X : Cx} {c : Ct} {k : Nat} {f : Addr} {fd : FuncData} {ps : List Str} {fn : Fn} {x : Str} {e : Expr} {es : List Expr} {ms : M (List AV)} {p pos : Pos}
end
end DL
end
section
namespace DL
variable [DL.TheW]
open PySem PySem.Spec PyProof.Rows L2
section
variable {X : Cx} {c : Ct} {k0 k1 : Nat} {f0 f1 : Addr} {fd0 fd1 : FuncData} {ps0 ps1 : List Str} {fn0 fn1 : Fn} {x0 x1 w : Str} {e : Expr} {es : List Expr} {ms : M (List AV)} {p0 p1 lp sp wp pos : Pos}
end
end DL
end
section
namespace DL
variable [DL.TheW]
open PySem PySem.Spec PyProof.Rows L2 PySem.W
variable {X : Cx}
end DL
end
section
namespace DL
variable [DL.TheW]
open PySem PySem.Spec PyProof.Rows L2 L2H
section
variable {X : Cx} {W Wo : WX} {a : Addr} {oe : Obj} {pn : List (Addr × Obj)} {cls : Value} {d : Option Addr}
end
end DL
end
section
namespace DL
variable [DL.TheW]
open PySem PySem.Spec PyProof.Rows L2
open Classical in
section
variable {X : Cx} {c : Ct} {a b : Expr} {pos p : Pos} {ka pa kb pb : Bool} {ma mb : M D} {g : D → D → Option D} {T : String} {x : Str}
end
section
variable {X : Cx} {c : Ct} {o e : Expr} {pos apos : Pos} {ka pa kb pb : Bool} {ma mb : M D}
end
section
variable {T : Type} [Tg T] {ρ : Env} {h : Exc → Env → T}
end
section
variable {X : Cx} {c : Ct} {a b : Expr} {rest : List Expr} {pos : Pos} {pa pb : Bool} {ma mb : M D}
end
section
variable {T : Type} [Tg T] {ρ : Env} {h : Exc → Env → T}
end
theorem takes0R {rg : Bool} {X : Cx} : TakesR rg X (fun _ _ _ _ => False) := match rg with
 | true => fun _ _ ⟨_, _, _, _, _, _, _, _, _, _, _, _, _, _, _, _, z⟩ => z.elim
 | false => fun _ _ ⟨_, _, _, _, _, _, _, _, _, _, _, _, _, _, _, _, z⟩ => z.elim
open L2H
section
variable {X : Cx} {c : Ct} {x : Str} {cv : Value} {np hp pos : Pos} {body : List Stmt} {r : Stmt} {b hm : M Fl} {isa : ECls → Option Bool}
end
section
variable {T : Type} [Tg T] {ρ : Env} {h : Exc → Env → T}
end
section
variable {P : Program} {w : World} {K : Frag} {mg : Str → Option Value} {base : Heap} {x qual g : Str} {params : Arguments} {body : List Stmt} {scope : Scope} {dvs : List V} {kws : List (Str × V)} {f C : Addr} {fd : FuncData} {k : Nat} {m : V} {rg : Bool}
end
section
variable {X : Cx} {c : Ct} {CX : CXT} {C fI : Addr} {fd : FuncData} {ps gs : List Str} {k : Nat} {x y : Str} {e : Expr} {es : List Expr} {m : M (List AV)} {p pos pos' cp : Pos} {j : Nat}
theorem raiseX_imp (hca : c.ca y = C) (hl : gs.length ≤ 1000) (hgs : gs ≠ []) {Dn : Ends} {σ : Sl} {H : Hp} (h0 : ts X.K c (sRaiseX y gs m) Dn σ H) : tMkO C (spI C gs) [] (tg X.K c m) σ H fun cls d H' => c.W cls d σ H' := by
 obtain ⟨F, ρ, O, ev, h⟩ := h0
 refine ⟨F, ρ, O, ev, Res.post_imp (Res.post_bind h) (fun as ρ1 h1 F1 H1 O1 vs e1 s1 av => ?_) fun ξ ρ1 h1 => h1 σ⟩
 have h1 : (match avD as with
  | some xs => if xs.length = gs.length then Res.ex ⟨.own y, (gs.zip xs).reverse⟩ ρ1 else .bad
  | none => .bad : Res Fl).post (PS' X.K c Dn) (PXs X.K c) := h1
 cases q : avD as with
 | none => rw [q] at h1; exact h1.elim
 | some xs =>
  rw [q] at h1
  have rp := avD_ok av q
  by_cases hn : xs.length = gs.length
  ·have h1 : (if xs.length = gs.length then Res.ex ⟨.own y, (gs.zip xs).reverse⟩ ρ1 else .bad : Res Fl).post (PS' X.K c Dn) (PXs X.K c) := h1
   rw [if_pos hn] at h1
   have lv : vs.length = gs.length := (rpAll_len rp).trans hn
   refine ⟨by rw [lv]; exact hl, fun a na => ⟨a, vs, by rw [List.append_nil], lv, upd_same, fun dx H' hd ne ea ed ot => ?_⟩⟩
   rw [upd_ne ne] at hd
   refine ⟨rfl, dx, _, ea, ed, hd, ?_⟩
   have eq : upd (del H' a) dx (.xd (gs.zip vs).reverse) = upd H1 dx (.xd (gs.zip vs).reverse) := by
    funext b
    by_cases hbd : b = dx
    ·subst hbd; rw [upd_same, upd_same]
    ·rw [upd_ne hbd, upd_ne hbd]
     by_cases hba : b = a
     ·subst hba; rw [del_same, na]
     ·rw [del_ne hba, ot b hba hbd, upd_ne hba]
   rw [eq]
   have nw := New.one e1.sub hd (.xd (gs.zip vs).reverse)
   refine h1 σ _ _ O1 (.ref C) (some dx) (e1.new nw) ⟨by show _ = Value.ref (c.ca y); rw [hca], fun _ => ⟨dx, _, rfl, upd_same, ?_, ?_⟩, fun z => ?_⟩
   ·rw [List.map_reverse, List.map_reverse, zip_fst lv, zip_fst hn]
   ·rw [List.map_reverse, List.map_reverse, zip_snd lv, zip_snd hn]
    exact rpAll_rev (rp.mono nw.fF)
   ·exfalso
    have z : (gs.zip xs).reverse = [] := z
    have z2 := congrArg List.length z
    rw [List.length_reverse, List.length_zip, hn, Nat.min_self] at z2
    exact hgs (List.length_eq_zero_iff.mp z2)
  ·have h1 : (if xs.length = gs.length then Res.ex ⟨.own y, (gs.zip xs).reverse⟩ ρ1 else .bad : Res Fl).post (PS' X.K c Dn) (PXs X.K c) := h1
   rw [if_neg hn] at h1
   exact h1.elim
end
abbrev RBVL := @rB_ok
end DL
end
section
namespace DL
variable [DL.TheW]
open PySem PySem.Spec PyProof.Rows L2 L2H
section
variable {X : Cx} {W Wo : WX} {a : Addr} {oe : Obj} {pn : List (Addr × Obj)} {cls : Value} {d : Option Addr}
end
section
variable {X : Cx} {c : Ct} {x x2 : Str} {cv cw : Value} {np np2 tp hp pos : Pos} {kk : Nat} {body : List Stmt} {r : Stmt} {b hm : M Fl} {isa : ECls → Option Bool}
end
end DL
end
section
namespace DL
variable [DL.TheW]
open PySem PySem.Spec PyProof.Rows L2
open PySem.AutoSeq1 (wpAny_loadPart')
end DL
end
section
namespace DL
variable [DL.TheW]
open PySem PySem.Spec PyProof.Rows L2
section
variable {X : Cx} {c : Ct} {o e : Expr} {pos apos : Pos} {ka pa kb pb : Bool} {ma mb : M D}
end
section
variable {T : Type} [Tg T] {ρ : Env} {h : Exc → Env → T}
end
section
variable {X : Cx} {c : Ct} {e : Expr} {pos p p2 p3 tp : Pos} {kk : Nat} {ka pu : Bool} {me : M D} {x y : Str}
end
inductive Pks (X : Cx) (c : Ct) (rg : Bool) : List Expr → List Fn → List Addr → Prop
 | nil : Pks X c rg [] [] []
 | cons {x : Str} {p : Pos} {es : List Expr} {fn : Fn} {fns : List Fn} {f : Addr} {fs : List Addr} {k : Nat} {fd : FuncData} {ps : List Str} (G : FnOk X.prog X.w X.K X.mg X.base (CXR rg X.prog X.w) k f fd ps (spF X.K c.ca fn)) (hr : Room k X.A) (hm : X.mg x = some (.ref f)) (hk : PySem.W.keepIn X.K (.ref f) = true)
  (hb : Binds X.K fd ps []) (hg : Gl X x) (hdb : (x == ("__debug__" : Str)) = false) (t : Pks X c rg es fns fs) : Pks X c rg (.Name x p :: es) (fn :: fns) (f :: fs)
section
variable {X : Cx} {c : Ct} {rg : Bool} {xs : List Expr} {fns : List Fn} {fs : List Addr} {w : Str} {e : Expr} {es : List Expr} {ms : M (List AV)} {lp sp wp pos : Pos}
end
abbrev RBVM := @rB_ok
end DL
end
section
namespace DL
variable [DL.TheW]
open PySem PySem.Spec PyProof.Rows L2 PySem.W
end DL
end
section
namespace DL
variable [DL.TheW]
open PySem PySem.Spec PyProof.Rows L2
def tMkE (t : L2.St → Hp → XK → Prop) : TE := fun σ H Q => t σ H fun cls d H' => ∀ a, H' a = none → Q (.ref a) (upd H' a (ExX cls d a))
theorem pe_mke {X : Cx} {e : Expr} {t : L2.St → Hp → XK → Prop} (he : L2.PMk X e t) : PE X e (tMkE t) := ⟨fun pins s σ H Q I h => by
 refine wpAny_mono (he pins s σ H _ I h) (fun u s1 hu => ?_) fun _ _ x => x
 obtain ⟨a, oe, vs, sI, H', cls, d, rfl, J, k, hne, ha, hz, hd, h1, na, os, ag, r, q⟩ := hu
 have J2 := J.laidN (t' := sI.toks) (o := ExX cls d a) k hne na (exX_ok ha hz hd)
 exact ⟨.ref a, _, ⟨J2.ok, os.trans J.os, ag, J2.base, J2.loc, J2.cell, J2.free, J2.freeC, J2.pin, J2.hok, J2.len⟩, rfl, q a na⟩⟩
section
variable {X : Cx} {c : Ct} {C : Addr} {bmB : List Value} {B newId initId : String} {x m y : Str} {j : Nat} {p p2 pos : Pos}
theorem mke_const (hca : c.ca = He.ga X.K) (hy : He.ga X.K y = C) : ∀ σ H Q, te X.K c false true (mC (excD y [])) σ H Q → tMkE (fun _ H Q => Q (.ref C) none H) σ H Q := fun σ H Q ⟨F, ρ, O, ev, h⟩ a na => by
 have fa : F a = none := ev.sub.free na
 subst hy
 exact h _ _ O _ (ev.new (New.one ev.sub na _)) (same_upd fa _) (fun _ => same_upd na _) (xr_rp (K := X.K) (H := H) (y := y) (fs := []) ⟨rfl, fun z => absurd rfl z, fun _ => rfl⟩ fa)
theorem se_mkT (F : ExcBaseFacts B newId initId bmB) (q : PySem.W.excIn X.K C bmB newId = true) (gC : X.mg x = some (.ref C)) (kC : PySem.W.keepIn X.K (.ref C) = true) (r : Raises X (.ref C)) (hca : c.ca = He.ga X.K) (hy : He.ga X.K y = C) (hg : Gl X x := by rfl) (hdb : (x == ("__debug__" : Str)) = false := by decide) :
  PE X (.Call (.Name x p) [.Constant (.str m) j p2] [] pos) (te X.K c false true (mC (excD y []))) := (pe_mke (pmk_own F q gC kC r hg hdb)).imp (mke_const hca hy)
theorem pmk_own0 (F : ExcBaseFacts B newId initId bmB) (q : PySem.W.excIn X.K C bmB newId = true) (gC : X.mg x = some (.ref C)) (kC : PySem.W.keepIn X.K (.ref C) = true) (r : Raises X (.ref C)) (hg : Gl X x)
  (hdb : (x == ("__debug__" : Str)) = false := by decide) : L2.PMk X (.Call (.Name x p) [] [] pos) (fun _ H Q => Q (.ref C) none H) := by
 intro pins s σ H Q I h
 refine wpAny_Call_Name_kw (ld_glob I hg gC ?_ hdb)
 refine PySem.W.callWith_K0 I.kIn kC ?_
 show wpAny _ _ (call (.ref C) []) _ _ _
 obtain ⟨bm, N, nm, qn, bs, hdct, sn, sub, ab, col, dd, k0, k1, k2, k3, k5, mN, hC, hN, hni, T⟩ := exc_obj I.kIn q
 refine wpAny_call_exc_subT F T hC hN hni (fun h' e hm => ?_) (by show 0 ≤ sizeLine; omega)
 exact L2.mk_of I hm r h (I.hok.gone hm.new)
theorem se_mk0 (F : ExcBaseFacts B newId initId bmB) (q : PySem.W.excIn X.K C bmB newId = true) (gC : X.mg x = some (.ref C)) (kC : PySem.W.keepIn X.K (.ref C) = true) (r : Raises X (.ref C)) (hca : c.ca = He.ga X.K) (hy : He.ga X.K y = C) (hg : Gl X x := by rfl) (hdb : (x == ("__debug__" : Str)) = false := by decide) :
  PE X (.Call (.Name x p) [] [] pos) (te X.K c false true (mC (excD y []))) := (pe_mke (pmk_own0 F q gC kC r hg hdb)).imp (mke_const hca hy)
end
def mMkX (y : Str) (gs : List Str) (m : M (List AV)) : M D := fun ρ => (m ρ).bind fun as ρ1 => match avD as with
 | some xs => if xs.length = gs.length then .ok (excD y (gs.zip xs).reverse) ρ1 else .bad
 | none => .bad
section
variable {X : Cx} {c : Ct} {CX : CXT} {C fI : Addr} {fd : FuncData} {ps gs : List Str} {k : Nat} {x y : Str} {e : Expr} {es : List Expr} {m : M (List AV)} {p pos : Pos}
theorem mkX_imp (hca : c.ca = He.ga X.K) (hy : He.ga X.K y = C) (hl : gs.length ≤ 1000) (hgs : gs ≠ []) : ∀ σ H Q, te X.K c false false (mMkX y gs m) σ H Q → tMkE (tMkO C (spI C gs) [] (tg X.K c m)) σ H Q := fun σ H Q ⟨F, ρ, O, ev, h⟩ => by
 refine ⟨F, ρ, O, ev, Res.post_imp (Res.post_bind h) (fun as ρ1 h1 F1 H1 O1 vs e1 s1 av => ?_) fun ξ ρ1 h1 => h1⟩
 have h1 : (match avD as with
  | some xs => if xs.length = gs.length then Res.ok (excD y (gs.zip xs).reverse) ρ1 else .bad
  | none => .bad : Res D).post (PV X.K c false false F H σ Q) (PX X.K c σ) := h1
 cases q : avD as with
 | none => rw [q] at h1; exact h1.elim
 | some xs =>
  rw [q] at h1
  have rp := avD_ok av q
  by_cases hn : xs.length = gs.length
  ·have h1 : (if xs.length = gs.length then Res.ok (excD y (gs.zip xs).reverse) ρ1 else .bad : Res D).post (PV X.K c false false F H σ Q) (PX X.K c σ) := h1
   rw [if_pos hn] at h1
   have lv : vs.length = gs.length := (rpAll_len rp).trans hn
   refine ⟨by rw [lv]; exact hl, fun a na => ⟨a, vs, by rw [List.append_nil], lv, upd_same, fun dx H' hd ne ea ed ot => ?_⟩⟩
   rw [upd_ne ne] at hd
   refine ⟨rfl, dx, _, ea, ed, hd, ?_⟩
   have eq : upd (del H' a) dx (.xd (gs.zip vs).reverse) = upd H1 dx (.xd (gs.zip vs).reverse) := by
    funext b
    by_cases hbd : b = dx
    ·subst hbd; rw [upd_same, upd_same]
    ·rw [upd_ne hbd, upd_ne hbd]
     by_cases hba : b = a
     ·subst hba; rw [del_same, na]
     ·rw [del_ne hba, ot b hba hbd, upd_ne hba]
   rw [eq]
   intro a2 na2
   have nw := New.one e1.sub hd (.xd (gs.zip vs).reverse)
   have e2 := e1.new nw
   have fa : (upd F1 dx (.xd (gs.zip vs).reverse)) a2 = none := e2.sub.free na2
   have xr : XR X.K (He.ga X.K) (upd F1 dx (.xd (gs.zip vs).reverse)) (upd H1 dx (.xd (gs.zip vs).reverse)) (.ref C) (some dx) ⟨.own y, (gs.zip xs).reverse⟩ := by
    subst hy
    refine ⟨rfl, fun _ => ⟨dx, _, rfl, upd_same, ?_, ?_⟩, fun z => ?_⟩
    ·rw [List.map_reverse, List.map_reverse, zip_fst lv, zip_fst hn]
    ·rw [List.map_reverse, List.map_reverse, zip_snd lv, zip_snd hn]
     exact rpAll_rev (rp.mono nw.fF)
    ·exfalso
     have z : (gs.zip xs).reverse = [] := z
     have z2 := congrArg List.length z
     rw [List.length_reverse, List.length_zip, hn, Nat.min_self] at z2
     exact hgs (List.length_eq_zero_iff.mp z2)
   have rp2 := xr_rp (a := a2) xr fa
   refine h1 _ _ O1 (.ref a2) (e2.new (New.one e2.sub na2 _)) ((s1.trans nw.fF).trans (same_upd fa _)) (fun z => by cases z) ?_
   show Rp X.K _ _ _
   exact rp2
  ·have h1 : (if xs.length = gs.length then Res.ok (excD y (gs.zip xs).reverse) ρ1 else .bad : Res D).post (PV X.K c false false F H σ Q) (PX X.K c σ) := h1
   rw [if_neg hn] at h1
   exact h1.elim
theorem se_mkX (hc : X.calm = true) (tk : TakesR rg X c.W) (N : XnC X.K C fI) (F1 : FnOk X.prog X.w X.K X.mg X.base CX k fI fd ps (spI C gs)) (hr : Room (k + 1) X.A) (hb : Binds X.K fd ps []) (hx : Passes CX X (fun _ _ _ => False))
  (gC : X.mg x = some (.ref C)) (hca : c.ca = He.ga X.K) (hy : He.ga X.K y = C) (hl : gs.length ≤ 1000) (ha : PA X (e :: es) (tg X.K c m)) (hg : Gl X x := by rfl) (hdb : (x == ("__debug__" : Str)) = false := by decide)
  (he : starEach (e :: es) X.env = (false, eval e X.env) :: starEach es X.env := by rfl) (hpl : (backTo pos (starEach es X.env)).any (·.1) = false := by rfl) (hgs : gs ≠ [] := by decide) :
  PE X (.Call (.Name x p) (e :: es) [] pos) (te X.K c false false (mMkX y gs m)) := (pe_mke (pmk_oex N.T N.iC N.tI F1 hr hb .nil hx hg gC ha hdb he hpl)).imp (mkX_imp hca hy hl hgs)
end
end DL
end
section
namespace PySem
namespace HandSPX
open Builtin Builtin.ObjectAttr
section
variable {M : Model} {A : Around} {E : Value → Shared → Prop} {h : Heap} {g : Array GenState} {d : Drawn} {t : Nat} {os : OsState}
variable {nm q : Str} {C N : Addr} {bs bm bmB : List Value} {hdct : Bool} {sn : List Str} {sub : List Value} {ab : Bool} {col : Option Bool} {dd : Option Addr} {k0 k1 k2 k3 k5 : Option Value} {B newId initId : String}
theorem check_new_ownK (F : ExcBaseFacts B newId initId bmB) (hcont : (Value.ref C :: bm).contains (.type B) = true) {kw : List (Str × Value)} {rest : List Value} {Q : Unit → Shared → Prop}
  (hC : h.get? C = some (excClassObj nm q C N bs bm hdct sn sub ab col dd k0 k1 k2 k3 k5 newId)) (hq : Q () ⟨h, g, d, t, os⟩) : wpAny M A (checkBuiltinCall newId ⟨.ref C :: rest, kw⟩) Q E ⟨h, g, d, t, os⟩ := by
 have hstar := F.noStar
 simp only [checkBuiltinCall, F.newKind, F.newSplit, F.newRow]
 repeat (first | refine wpAny_loadPart_at hC ?_ | (refine wpAny_isSubtype_exc hC ?_; rw [hcont]) | refine wpAny_staticBase_exc hC ?_ | refine wpAny_madeBy_exc hC ?_ | simp only [bne_self_eq_false, Bool.false_eq_true, if_false] | wp_step)
 exact hq
end
section
variable {prog : Program} {w : World} {A : Around} {E : Value → Shared → Prop} {R : Result → Shared → Prop} {h : Heap} {g : Array GenState} {d : Drawn} {t : Nat} {os : OsState}
variable {nm q : Str} {C N : Addr} {bs bm bmB : List Value} {hdct : Bool} {sn : List Str} {sub : List Value} {ab : Bool} {col : Option Bool} {dd : Option Addr} {k0 k1 k2 k3 k5 : Option Value} {B newId initId : String}
theorem new_ownK (F : ExcBaseFacts B newId initId bmB) (hcB : (Value.ref C :: bm).contains (.type B) = true) (hcA : (Value.ref C :: bm).contains (.type "AttributeError") = false) (hcN : (Value.ref C :: bm).contains (.type "NameError") = false) {kw : List (Str × Value)} {rest : List Value}
  (hC : h.get? C = some (excClassObj nm q C N bs bm hdct sn sub ab col dd k0 k1 k2 k3 k5 newId))
  (hq : R (.ok (.ret (.ref (h.objs.size + 1)))) ⟨(h.push { cls := .type "tuple", data := .seq rest.toArray }).push
   { cls := .ref C, data := .fields #[.ref h.objs.size, .none, .none, .none, .bool false, .none] }, g, d, t, os⟩) (hrest : rest.length ≤ sizeLine) :
  codeAny (model prog w) A (.builtin newId ⟨.ref C :: rest, kw⟩) R ⟨h, g, d, t, os⟩ := by
 have hends := F.ends
 refine codeAny_builtinAt F.entry ?_
 unfold Builtin.«BaseException.__new__»
 refine wpAt_bind ?_
 show wpAt _ _ _ (stack >>= _) _ _ _
 refine wpAt_bind (wpAt_stack fun p below => wpAt_of_wpAny ?_)
 wp_walk
 refine wpAt_of_wpAny ?_
 rw [F.owner]
 repeat (first | with_reducible refine wpAny_madeHere_exc F.canon hC ?_ | with_reducible refine wpAny_loadPart_at hC ?_ | (with_reducible refine wpAny_isSubtype_exc hC ?_; first | rw [hcB] | rw [hcA] | rw [hcN]) | wp_step)
 show R _ _
 rw [Heap.size_push]
 exact hq
theorem type_call_ownK (F : ExcBaseFacts B newId initId bmB) (hcB : (Value.ref C :: bm).contains (.type B) = true) (hcA : (Value.ref C :: bm).contains (.type "AttributeError") = false) (hcN : (Value.ref C :: bm).contains (.type "NameError") = false) {kw : List (Str × Value)} {rest : List Value} {fI : Addr} {Q : Fin → Shared → Prop}
  (hC : h.get? C = some (excClassObj nm q C N bs bm hdct sn sub ab col dd k0 k1 k2 k3 k5 newId))
  (hi : W.Looks (model prog w) h (typeLookup (.ref C) "__init__") (some (.ref fI))) (hb : ∀ self, W.Looks (model prog w) h (bindSpecial (.ref fI) self) (.ref fI, [self])) (hrest : rest.length ≤ sizeLine)
  (hq : codeAny (model prog w) A (.call (.ref fI) ⟨.ref (h.objs.size + 1) :: rest, kw⟩)
   (fun r s' => match r with | .ok (.ret v) => v = .none ∧ Q (.done (.ret (.ref (h.objs.size + 1)))) s' | .ok _ => False | .error e => E e s')
   ⟨(h.push (W.kdv_tup rest)).push (excO C h.objs.size), g, d, t, os⟩) :
  wpAny (model prog w) A (Builtin.«type.__call__» ⟨.ref C :: rest, kw⟩) Q E ⟨h, g, d, t, os⟩ := by
 repeat (first | with_reducible refine wpAny_loadPart_at hC ?_ | with_reducible refine wpAny_madeBy_exc hC ?_ | wp_step)
 refine codeAny_call_builtin_code (Code.quiet_builtin _ F.quiet) (check_new_ownK F hcB hC ?_)
 refine new_ownK F hcB hcA hcN hC ?_ hrest
 show wpAny _ _ _ _ _ _
 have k : ∀ b o, h.get? b = some o → ((h.push (W.kdv_tup rest)).push (excO C h.objs.size)).get? b = some o := fun b o e => Heap.get?_push_of_some _ (Heap.get?_push_of_some _ e)
 have hC₁ := k _ _ hC
 have hget : ((h.push (W.kdv_tup rest)).push (excO C h.objs.size)).get? (h.objs.size + 1) = some (excO C h.objs.size) := by heap_get
 have hcC : (Value.ref C :: bm).contains (.ref C) = true := by simp
 have i1 := hi.keeps k
 have b1 := (hb (.ref (h.objs.size + 1))).keeps k
 unfold isInstance
 repeat (first | with_reducible refine wpAny_loadPart_at hget ?_ | (with_reducible refine wpAny_isSubtype_exc hC₁ ?_; rw [hcC]) | wp_step)
 show wpAny _ _ (typeLookup (.ref C) _) _ _ _
 refine i1.at ?_
 refine wpAny_holding (wpAny_bind (b1.at ?_))
 refine wpAny_bind (wpAny_call (codeAny_mono hq fun r s' z => ?_))
 rcases r with e | (v | _ | _ | _) <;> first | exact z | exact z.elim | skip
 obtain ⟨rfl, z⟩ := z
 first
  | exact wpAny_pure (wpAny_pure z)
  | (wp_walk; exact z)
theorem check_type_callK {M : Model} {kw : List (Str × Value)} {rest : List Value} {Q : Unit → Shared → Prop} (hC : h.get? C = some (excClassObj nm q C N bs bm hdct sn sub ab col dd k0 k1 k2 k3 k5 newId))
  (hq : Q () ⟨h, g, d, t, os⟩) : wpAny M A (checkBuiltinCall "type.__call__" ⟨.ref C :: rest, kw⟩) Q E ⟨h, g, d, t, os⟩ := by
 have f3 := tc_sub
 have hT : (⟨h, g, d, t, os⟩ : Shared).TypeIs (.ref C) "type" := ⟨_, hC, rfl⟩
 simp only [checkBuiltinCall, tc_kind, tc_split]
 repeat (any_goals (first | assumption | with_reducible refine wpAny_loadPart_at hC ?_ | with_reducible refine wpAny_onRaise ?_ | with_reducible refine wpAny_map ?_ | wp_step))
theorem call_ownK (F : ExcBaseFacts B newId initId bmB) (hcB : (Value.ref C :: bm).contains (.type B) = true) (hcA : (Value.ref C :: bm).contains (.type "AttributeError") = false) (hcN : (Value.ref C :: bm).contains (.type "NameError") = false) {kw : List (Str × Value)} {rest : List Value} {fI : Addr}
  (hC : h.get? C = some (excClassObj nm q C N bs bm hdct sn sub ab col dd k0 k1 k2 k3 k5 newId))
  (hi : W.Looks (model prog w) h (typeLookup (.ref C) "__init__") (some (.ref fI))) (hb : ∀ self, W.Looks (model prog w) h (bindSpecial (.ref fI) self) (.ref fI, [self])) (hrest : rest.length ≤ sizeLine)
  (hq : codeAny (model prog w) (A.under (.builtin "type.__call__" ⟨.ref C :: rest, kw⟩)) (.call (.ref fI) ⟨.ref (h.objs.size + 1) :: rest, kw⟩) (W.InitBack (h.objs.size + 1) R)
   ⟨(h.push (W.kdv_tup rest)).push (excO C h.objs.size), g, d, t, os⟩) :
  codeAny (model prog w) A (.call (.ref C) ⟨rest, kw⟩) R ⟨h, g, d, t, os⟩ := by
 have f1 := tc_lookup
 have f2 := tc_bind (.ref C)
 have hTy : (⟨h, g, d, t, os⟩ : Shared).TypeIs (.ref C) "type" := ⟨_, hC, rfl⟩
 refine codeAny_of_tree ?_
 show wpAny _ _ (callAny (.ref C) _) _ _ _
 repeat (any_goals (first | assumption | with_reducible refine wpAny_loadPart_at hC ?_ | wp_step))
 refine ⟨rfl, ?_⟩
 refine codeAny_call_builtin_at (Code.quiet_builtin _ (by decide +kernel)) entry_typeCall (check_type_callK hC (type_call_ownK F hcB hcA hcN hC hi hb hrest ?_))
 refine codeAny_mono hq fun r s' z => ?_
 rcases r with e | (v | _ | _ | _) <;> exact z
end
end HandSPX
end PySem
namespace DL
variable [DL.TheW]
open PySem PySem.Spec PyProof.Rows L2
theorem ve_has {C : Addr} {bm : List Value} {Y : String} (h : PySem.HandSPX.refsVE bm = true) (k : PySem.HandSPX.veTail.contains (.type Y) = true) : (Value.ref C :: bm).contains (.type Y) = true := by
 rw [List.contains_cons, PySem.HandSPX.refsVE_contains Y bm h, k, Bool.or_true]
theorem ve_no {C : Addr} {bm : List Value} {Y : String} (h : PySem.HandSPX.refsVE bm = true) (k : PySem.HandSPX.veTail.contains (.type Y) = false) : (Value.ref C :: bm).contains (.type Y) = false := by
 rw [List.contains_cons, PySem.HandSPX.refsVE_contains Y bm h, k]; rfl
def tMkOK (C : Addr) (sp : Sp) (gV : List V → List V → List V) (n : Nat) (ta : TA) : L2.St → Hp → XK → Prop := fun σ H Q => ta σ H fun zs H1 => zs.length = n ∧ ∀ a, H1 a = none → sp (gV [.ref a] zs) (upd H1 a (exo a C none))
 (fun v H2 => v = .non ∧ ∃ (d : Addr) (fs : List (Str × V)), H2 a = some (exo a C (some d)) ∧ H2 d = some (exd d fs) ∧ H1 d = none ∧ Q (.ref C) (some d) (upd (del H2 a) d (.xd fs))) (fun _ _ _ => False)
section
variable {X : Cx} {x : Str} {p pos : Pos} {kws : List Keyword} {ta : TA}
theorem pmk_oexK {CX : CXT} {C fI : Addr} {k : Nat} {fd : FuncData} {ps ks : List Str} {sp : Sp} {g : List Value → List Value → List Value} {gV : List V → List V → List V} (T : OexC X.K C) (iC : PySem.W.findIn X.K (.ref C) "__init__" = some (some (.ref fI))) (tI : PySem.W.typeIn X.K (.ref fI) = some (.type "function"))
  (F1 : FnOk X.prog X.w X.K X.mg X.base CX k fI fd ps sp) (hr : Room (k + 1) X.A) (hb : KBn X.K fd ps 1 ks g gV) (hx : Passes CX X (fun _ _ _ => False)) (hg : Gl X x) (hm : X.mg x = some (.ref C)) (ha : PK X kws ta)
  (hall : (backToKw pos (keywordEach kws X.env)).all (·.1.isSome) = true := by rfl) (hks : (backToKw pos (keywordEach kws X.env)).filterMap (·.1) = ks := by rfl)
  (hdb : (x == ("__debug__" : Str)) = false := by decide) (hpl : ((backTo pos (starEach [] X.env)).any (·.1) || (backToKw pos (keywordEach kws X.env)).any (·.1.isNone)) = false := by rfl) :
  L2.PMk X (.Call (.Name x p) [] kws pos) (tMkOK C sp gV ks.length ta) := by
 intro pins s σ H Q I h
 obtain ⟨nm, q, N, bs, bm, sn, sub, ab, col, dd, k0, k1, k2, k3, k5, hC, hbm⟩ := T.cls
 refine wpAny_Call_Name_kw (ld_glob I hg hm ?_ hdb)
 refine PySem.W.callWith_KW0 (h₀ := X.base) I.ok.mod.kin T.kC hall (thn (ha.run pos pins s σ H _ I h) fun ws s1 ⟨zs, H1, I1, rz, lz, q1⟩ => ⟨I1.kIn, ?_⟩) hpl
 rw [hks]
 show wpAny _ _ (call (.ref C) [] (ks.zip ws)) _ _ _
 obtain ⟨hp, g0, dr, tk, os⟩ := s1
 have hsz : hp.objs.size ≤ hp.objs.size + 1 := Nat.le_succ _
 have hn : H1 (hp.objs.size + 1) = none := I1.hok.fresh hsz
 have hq := q1 (hp.objs.size + 1) hn
 have kk : ∀ b o, hp.get? b = some o → ((hp.push (PySem.W.kdv_tup [])).push (PySem.HandSPX.excO C hp.objs.size)).get? b = some o := fun b o e => Heap.get?_push_of_some _ (Heap.get?_push_of_some _ e)
 have hget : ((hp.push (PySem.W.kdv_tup [])).push (PySem.HandSPX.excO C hp.objs.size)).get? (hp.objs.size + 1) = some (PySem.HandSPX.excO C hp.objs.size) := by heap_get
 have I2 : Inv X pins σ (upd H1 (hp.objs.size + 1) (exo (hp.objs.size + 1) C none)) ⟨(hp.push (PySem.W.kdv_tup [])).push (PySem.HandSPX.excO C hp.objs.size), g0, dr, tk, os⟩ :=
  I1.laid (t' := tk) (a := hp.objs.size + 1) (o := exo (hp.objs.size + 1) C none) (h' := (hp.push (PySem.W.kdv_tup [])).push (PySem.HandSPX.excO C hp.objs.size)) kk hsz (exo_ok hget)
 have r1 : Vals [V.ref (hp.objs.size + 1)] [Value.ref (hp.objs.size + 1)] := .cons rfl .nil
 have r2 := hb.rel r1 rz
 have lw : ws.length = ks.length := rz.length.symm.trans lz
 refine wpAny_call (PySem.HandSPX.call_ownK F.excBase_ValueError (ve_has hbm (by decide +kernel)) (ve_no hbm (by decide +kernel)) (ve_no hbm (by decide +kernel)) (I1.kIn _ _ hC) (PySem.W.looks_findIn I1.kIn iC) (fun self => PySem.W.bind_fn I1.kIn self tI) (by show 0 ≤ sizeLine; omega)
  (codeAny_mono (F1.run _ X.stack _ _ ⟨[Value.ref (hp.objs.size + 1)], ks.zip ws⟩ (g [Value.ref (hp.objs.size + 1)] ws) _ _ (fun _ _ _ => False) (hr.make C [] (ks.zip ws)) (I2.env0.make C [] (ks.zip ws)) (hb.to _ [Value.ref (hp.objs.size + 1)] ws I2.kIn rfl lw) r2 hq) fun r s' hq' => ?_))
 cases r with
 | error er => exact hx pins σ _ _ er s' I2 hq'
 | ok fl =>
  cases fl with
  | ret u =>
   obtain ⟨v, H2, os2, bare2, un2, hok2, rv, ev, d, fs, ea, ed, hd1, q2⟩ := hq'
   subst ev
   obtain ⟨h2, g2, d2, t2, os'⟩ := s'
   exact ⟨rv, mk_end (raises_own T.exC T.tyC) I1 hsz kk un2 hok2 os2 bare2 ea ed hd1 q2⟩
  | next => exact False.elim hq'
  | brk => exact False.elim hq'
  | cont => exact False.elim hq'
end
end DL
end
section
namespace PySem
namespace HandSPX
open Builtin Builtin.ObjectAttr
abbrev keTail : List Value := [.type "KeyError", .type "LookupError", .type "Exception", .type "BaseException", .type "object"]
theorem ke_pass (self : Value) : refuseLoop self "__setattr__" keTail = pure () := by kernel_rfl
theorem ke_KeyError {C : Addr} : (Value.ref C :: keTail).contains (.type "KeyError") = true := by rw [List.contains_cons, show keTail.contains (.type "KeyError") = true from by decide +kernel, Bool.or_true]
theorem ke_LookupError {C : Addr} : (Value.ref C :: keTail).contains (.type "LookupError") = true := by rw [List.contains_cons, show keTail.contains (.type "LookupError") = true from by decide +kernel, Bool.or_true]
theorem ke_noA {C : Addr} : (Value.ref C :: keTail).contains (.type "AttributeError") = false := by rw [List.contains_cons, show keTail.contains (.type "AttributeError") = false from by decide +kernel]; rfl
theorem ke_noN {C : Addr} : (Value.ref C :: keTail).contains (.type "NameError") = false := by rw [List.contains_cons, show keTail.contains (.type "NameError") = false from by decide +kernel]; rfl
theorem typ_KE : typeOf (.type "KeyError") = pure (.type "type") := by kernel_rfl
section
variable {M : Model} {A : Around} {E : Value → Shared → Prop} {h : Heap} {g : Array GenState} {d : Drawn} {t : Nat} {os : OsState}
variable {nm q : Str} {C N : Addr} {bs bm bmB : List Value} {hdct : Bool} {sn : List Str} {sub : List Value} {ab : Bool} {col : Option Bool} {dd : Option Addr} {k0 k1 k2 k3 k5 : Option Value} {B newId newI initId : String}
theorem check_init_ownK (F : PyProof.Rows.ExcClass B newI initId) (hcB : (Value.ref C :: bm).contains (.type B) = true) {e : Addr} {oe : Obj} {rest : List Value} {Q : Unit → Shared → Prop}
  (hC : h.get? C = some (excClassObj nm q C N bs bm hdct sn sub ab col dd k0 k1 k2 k3 k5 newId)) (he : h.get? e = some oe) (hcls : oe.cls = .ref C) (hq : Q () ⟨h, g, d, t, os⟩) :
  wpAny M A (checkBuiltinCall initId ⟨.ref e :: rest, []⟩) Q E ⟨h, g, d, t, os⟩ := by
 have hshort := F.notStar
 simp only [checkBuiltinCall, F.initKind, F.initSplit, F.initSig]
 repeat (first | (with_reducible refine wpAny_loadPart_at he ?_; rw [hcls]) | with_reducible refine wpAny_loadPart_at hC ?_ | (with_reducible refine wpAny_isSubtype_exc hC ?_; rw [hcB]) | wp_step)
 refine wpAny_onRaise ?_
 rw [show ∀ (a b : String) (n : Nat), Bind.check ⟨.positional, "*", B, .self, [⟨"args", .varPos, false⟩]⟩ a b n (List.map (fun x => x.fst) ({ pos := Value.ref e :: rest } : Args).kw) = pure () from
  fun a b n => check_star_args _ _ _ _ _ _]
 exact wpAny_pure hq
end
section
variable {prog : Program} {w : World} {A : Around} {E : Value → Shared → Prop} {R : Result → Shared → Prop} {h : Heap} {g : Array GenState} {d : Drawn} {t : Nat} {os : OsState}
variable {nm q : Str} {C N : Addr} {bs bm bmB : List Value} {hdct : Bool} {sn : List Str} {sub : List Value} {ab : Bool} {col : Option Bool} {dd : Option Addr} {k0 k1 k2 k3 k5 : Option Value} {B newId newI initId : String}
theorem init_baseK (F : PyProof.Rows.ExcClass B newI initId) (hcB : (Value.ref C :: bm).contains (.type B) = true) {e t0 : Addr} {rest : List Value}
  (hC : h.get? C = some (excClassObj nm q C N bs bm hdct sn sub ab col dd k0 k1 k2 k3 k5 newId)) (he : h.get? e = some (excO C t0)) (hrest : rest.length ≤ sizeLine)
  (hq : ∀ h' t1, (∀ b o, b ≠ e → h.get? b = some o → h'.get? b = some o) → h'.get? e = some (excO C t1) → R (.ok (.ret .none)) ⟨h', g, d, t, os⟩) :
  codeAny (model prog w) A (.call (.builtin initId) ⟨.ref e :: rest, []⟩) R ⟨h, g, d, t, os⟩ := by
 refine codeAny_call_builtin F.init.plain F.initEntry (check_init_ownK F hcB hC he rfl ?_)
 wp_walk
 refine hq _ h.objs.size (fun b o hb ho => ?_) ?_
 ·rw [Heap.get?_update_other _ _ (Ne.symm hb)]
  exact Heap.get?_push_of_some _ ho
 ·rw [Heap.get?_update_self _ (Heap.get?_push_of_some _ he) rfl]
  rfl
end
section
variable {prog : Program} {w : World} {A : Around} {E : Value → Shared → Prop} {R : Result → Shared → Prop} {hp : Heap} {g : Array GenState} {d : Drawn} {t : Nat} {os : OsState}
theorem exc_osaK {K : W.Frag} {name : Str} {tk : Tok} {v : Value} {x C : Addr} {fv : Array Value} {cd : ClassData}
  (X : K.In hp) (hx : hp.get? x = some { cls := .ref C, data := .fields fv }) (hcd : W.clsIn K C = some cd) (hm : cd.mro = .ref C :: keTail) (hh : cd.hasDict = true) (ha : W.findIn K (.ref C) name = some none)
  (hq : ∀ h' tk' dx, (∀ b o, b ≠ x → hp.get? b = some o → h'.get? b = some o) → hp.objs.size ≤ dx → dx ≠ x → h'.get? x = some { cls := .ref C, dict := some dx, data := .fields fv } →
   h'.Ns1 dx (fun y => if y = name then some v else none) → R (.ok (.ret .none)) ⟨h', g, d, tk', os⟩) :
  codeAny (model prog w) A (.call (.builtin "object.__setattr__") ⟨[.ref x, .str name tk, v], []⟩) R ⟨hp, g, d, t, os⟩ := by
 have I : W.InstAt hp x { cls := .ref C, data := .fields fv } C none := ⟨hx, rfl, rfl, trivial⟩
 have SF := F.store_object
 have ne : cd.mro.isEmpty = false := by rw [hm]; rfl
 have hob : cd.mro.contains (.type "object") = true := by rw [hm, List.contains_cons, show keTail.contains (.type "object") = true from by decide +kernel, Bool.or_true]
 have hxs : x ≠ hp.objs.size := Nat.ne_of_lt (Heap.lt_size hx)
 have sub : W.Looks (model prog w) hp (isInstance (.ref x) (.type "object")) true := I.type.andThen (W.looks_mroIn X (by unfold W.mroIn; rw [hcd, Option.bind_some, if_neg (by rw [ne]; decide), hob]))
 refine codeAny_call_builtin SF.slot.plain SF.entry (@W.check_slot (model prog w) _ _ ⟨hp, g, d, t, os⟩ "object.__setattr__" "object" "__setattr__" (.ref x) [.str name tk, v] [] _ SF.kind SF.split sub (SF.args (.ref x) (.str name tk) v) ?_)
 have hmr : W.Looks (model prog w) hp (mroOf (.ref C)) cd.mro := (W.looks_clsIn X hcd).andThen .now
 have L3 : W.Looks (model prog w) hp (storeTaker? none) none := .now
 have hcls : W.Looks (model prog w) hp (classData C) cd := W.looks_clsIn X hcd
 rw [W.osa_eq, refuse_eq]
 refine wpAny_bind (wpAny_bind (I.type.at (wpAny_bind (hmr.at ?_))))
 rw [hm, refuseLoop_ref, ke_pass]
 refine wpAny_pure (wpAny_bind (I.type.at (wpAny_bind ((W.looks_findIn X ha).at (wpAny_bind (L3.at ?_))))))
 show wpAny _ _ (storeInOwnDict (.ref x) (.ref C) (.str name tk) name v false) _ _ _
 obtain ⟨nm, bs, mro, ns, qn, hd, sn, sb, ab, col, del⟩ := cd
 dsimp only at hh
 subst hh
 unfold storeInOwnDict ownDictForStores
 repeat (first | with_reducible refine store_in_new ?_ ?_ | with_reducible refine wpAny_loadPart_at hx ?_ | with_reducible refine hcls.at ?_ | wp_step)
 ·exact ⟨_, #[], _, (Heap.get?_update_ne _ _ _ _ hxs.symm).trans (Heap.get?_push_at rfl rfl), rfl, fun e he => absurd he (by simp), fun _ => rfl⟩
 ·intro h' tk' hn' hs
  have hx₁ : (hp.push { cls := .type "dict", data := .dict #[] }).get? x = some { cls := .ref C, data := .fields fv } := Heap.get?_push_of_some _ hx
  refine hq h' tk' hp.objs.size (fun b o hb ho => ?_) (Nat.le_refl _) hxs.symm ?_ hn'
  ·exact (hs.2 b (Nat.ne_of_lt (Heap.lt_size ho))).trans ((Heap.get?_update_ne _ _ _ _ hb).trans (Heap.get?_push_of_some _ ho))
  ·exact (hs.2 x hxs).trans (Heap.get?_update_self _ hx₁ rfl)
end
end HandSPX
end PySem
namespace DL
variable [DL.TheW]
open PySem PySem.Spec PyProof.Rows L2 PySem.HandSPX
structure OexK (K : PySem.W.Frag) (C : Addr) : Prop where
 cls : ∃ nm q N bs sn sub ab col dd k0 k1 k2 k3 k5, K.lookup C = some (excClassObj nm q C N bs keTail true sn sub ab col dd k0 k1 k2 k3 k5 "LookupError.__new__")
 sa : PySem.W.findIn K (.ref C) "__setattr__" = some (some (.builtin "object.__setattr__"))
 exC : PySem.W.subIn K (.ref C) (.type "BaseException") = some true
 tyC : PySem.W.typeIn K (.ref C) = some (.type "type")
 kC : PySem.W.keepIn K (.ref C) = true
section
variable {X : Cx} {pins : List (Addr × Obj)} {σ : L2.St} {H : Hp} {s : Shared} {a C dx : Addr} {f : Str} {y : V} {u : Value} {fs : List (Str × V)} {Q : Unit → Shared → Prop} {E : Value → Shared → Prop} {A : Around}
theorem ost_newK (T : OexK X.K C) (I : Inv X pins σ H s) (e : H a = some (exo a C none)) (hno : PySem.W.findIn X.K (.ref C) f = some none) (ry : RelV y u)
  (h : ∀ dx s', H dx = none → dx ≠ a → Inv X pins σ (upd (upd H dx (exd dx [(f, y)])) a (exo a C (some dx))) s' → Q () s') : wpAny (model X.prog X.w) A (setAttr (.ref a) f u) Q E s := by
 obtain ⟨nm, q, N, bs, sn, sub, ab, col, dd, k0, k1, k2, k3, k5, hC⟩ := T.cls
 have hcl : PySem.W.clsIn X.K C = some { name := nm, bases := bs, mro := .ref C :: keTail, ns := N, qualname := q, hasDict := true, slotNames := sn, subclasses := sub, abstract := ab, collection := col, hasDel := false } := by unfold PySem.W.clsIn; rw [hC] <;> rfl
 obtain ⟨t1, ho⟩ := exo_at I.hok e
 obtain ⟨hp, g, d, t, os⟩ := s
 refine PySem.W.set_plain I.kIn (ox := { cls := .ref C, dict := none, data := .fields #[.ref t1, .none, .none, .none, .bool false, .none] }) (od := none) ⟨ho, rfl, rfl, trivial⟩ T.sa ?_
 refine exc_osaK I.kIn ho hcl rfl rfl hno (fun h' tk' dx k dn dne hx hn => ?_)
 have hnd : H dx = none := I.hok.fresh dn
 have nd : ∀ {b : Addr} {o : Obj}, hp.get? b = some o → b ≠ dx := fun {b o} q => Nat.ne_of_lt (Nat.lt_of_lt_of_le (Heap.lt_size q) dn)
 have na : ∀ {b : Addr}, H b = none → b ≠ a := fun {b} n z => by
  rw [z, e] at n
  cases n
 have Un1 : Un X.fs [] H (upd (upd H dx (exd dx [(f, y)])) a (exo a C (some dx))) hp h' := {
  keep := fun b o q n _ _ => k b o (na n) q
  slot := fun b o q n _ _ => ⟨o.slots, k b o (na n) q⟩
  free := fun b o q n _ => by rw [upd_ne (na n), upd_ne (nd q)]; exact n
  there := fun b o q _ => by
   by_cases hb : b = a
   ·exact ⟨_, by rw [hb]; exact hx⟩
   ·exact ⟨o, k b o hb q⟩
  tups := fun b xs q => by rw [upd_ne (at_ne e q exo_tup), upd_ne (ne_of_none q hnd)]; exact q
  frzs := fun b o v q => by rw [upd_ne (at_ne e q exo_frz), upd_ne (ne_of_none q hnd)]; exact q
  tbls := fun b ps q => ⟨#[], by rw [upd_ne (at_ne e q exo_tbl), upd_ne (ne_of_none q hnd), q]; simp⟩ }
 refine h dx _ hnd dne (I.un (t' := tk') Un1 fun b o q => ?_)
 by_cases hb : b = a
 ·subst hb
  rw [upd_same] at q
  cases q
  exact exo_ok hx
 ·rw [upd_ne hb] at q
  by_cases hd : b = dx
  ·subst hd
   rw [upd_same] at q
   cases q
   exact exd_ok hn (relO_put (fs := []) ry fun g => True.intro)
  ·rw [upd_ne hd] at q
   exact (I.hok b o q).stay (fun c v hc z => k c v (by
     rcases hc with hc | hc
     ·rw [hc]
      exact hb
     ·exact at_ne e hc exo_own) z)
    (fun c hc => by rw [upd_ne (at_ne e hc exo_own), upd_ne (ne_of_none hc hnd)]; exact hc) (fun c xs hc => by rw [upd_ne (at_ne e hc exo_tup), upd_ne (ne_of_none hc hnd)]; exact hc)
theorem oinit_okK {us : List Value} {Q : Value → Shared → Prop} (T : OexK X.K C) (I : Inv X pins σ H s) (e : H a = some (exo a C none)) (hl : us.length ≤ sizeLine) (h : ∀ s', Inv X pins σ H s' → Q .none s') :
  wpAny (model X.prog X.w) A (call (.builtin "KeyError.__init__") (.ref a :: us)) Q E s := by
 obtain ⟨nm, q, N, bs, sn, sub, ab, col, dd, k0, k1, k2, k3, k5, hC⟩ := T.cls
 obtain ⟨t1, ho⟩ := exo_at I.hok e
 obtain ⟨hp, g, d, t, os⟩ := s
 refine wpAny_call (init_baseK PyProof.Rows.excClass_KeyError ke_KeyError (I.kIn _ _ hC) ho hl fun h' t2 k hx => ?_)
 have J := I.write (t' := t) (x := a) (e := a) (o := exo a C none) (by rw [e]; exact True.intro) (.inl rfl) k ⟨_, hx⟩ (exo_ok hx)
 have eu : upd H a (exo a C none) = H := by
  funext b
  by_cases hb : b = a
  ·rw [hb, upd_same, e]
  ·rw [upd_ne hb]
 rw [eu] at J
 exact h _ J
end
end DL
end
section
namespace ST
variable [DL.TheW]
open PySem PySem.Spec PyProof.Rows L2 DL SH SU SV SW SX SR
abbrev cpl (z : Str) : List Nat := z.cps.toList
def rdO (z : Str) (i : Nat) (o : Bool) : OV := .obj "Reader" [("text", .d (.str z)), ("spot", .d (.int (i : Int))), ("odd", .d (.bool o))]
theorem size_20k : 20000 ≤ sizeLine := by decide +kernel
section
variable {z : Str} {i : Nat} {o : Bool}
end
end ST
end
section
namespace ST
variable [DL.TheW]
open PySem PySem.Spec PyProof.Rows L2 DL SH SU SV SW SX SR
def fgB (c : Nat) : Bool := decide (isFg c)
structure Lts (L : Str) (P : Nat → Bool) : Prop where
 mem : ∀ c, c ∈ cpl L ↔ P c = true
 len : L.length ≤ 100
theorem mem_fig (c : Nat) : c ∈ cpl "0123456789" ↔ isFg c := by
 have e : cpl "0123456789" = [48, 49, 50, 51, 52, 53, 54, 55, 56, 57] := by decide +kernel
 rw [e]
 unfold isFg
 simp only [List.mem_cons, List.not_mem_nil, or_false]
 omega
section
variable {z : Str} {i : Nat} {o : Bool} {L : Str} {P : Nat → Bool}
end
end ST
end
section
namespace ST
variable [DL.TheW]
open PySem PySem.Spec PyProof.Rows L2 DL SH SU SV SW SX SR
structure WdS (P : Nat → Bool) (s : Str) : Prop where
 hd : ∃ c r, cpl s = c :: r ∧ P c = true
 all : ∀ c ∈ cpl s, (P c || fgB c) = true
 len : (cpl s).length ≤ 8
section
variable {z : Str} {i : Nat} {L : Str} {P : Nat → Bool} {o : Bool}
end
end ST
end
section
namespace ST
variable [DL.TheW]
open PySem PySem.Spec PyProof.Rows L2 DL SH SU SV SW SX SR
def StopA (rest : List Nat) : Prop := ∀ c, rest.head? = some c → c = 41 ∨ c = 44
structure TxR (n : Nat) (l : List Nat) (y : D) : Prop where
 hd : ∃ c r, l = c :: r ∧ c ≠ 41
 rd : ∀ (z : Str) (i : Nat) (rest : List Nat), z.length ≤ 20000 → (cpl z).drop i = l ++ rest → StopA rest → SR.f_Reader_term n [rdO z i false] = .ok (.d y) [some (rdO z (i + l.length) false)]
section
variable {z : Str} {i : Nat} {o : Bool}
end
theorem bo_b (b : Bool) : bO (.bool b) = some b := rfl
theorem fr_d (x : D) : OV.frz (.d x) = some x := rfl
end ST
end
section
namespace ST
variable [DL.TheW]
open PySem PySem.Spec PyProof.Rows L2 DL SH SU SV SW SX SR
end ST
end
section
namespace ST
variable [DL.TheW]
open PySem PySem.Spec PyProof.Rows L2 DL SH SU SV SW SX SR
end ST
end
section
namespace ST
variable [DL.TheW]
open PySem PySem.Spec PyProof.Rows L2 DL SH SU SV SW SX SR
end ST
end
section
namespace DL
variable [DL.TheW]
open PySem PySem.Spec PyProof.Rows L2 PySem.HandSPX
def tKeI (K : PySem.W.Frag) (ta : TA) : TE := fun σ H Q => ta σ H fun vs H1 => ∃ (a C : Addr) (ws : List V), vs = .ref a :: ws ∧ ws.length ≤ 1000 ∧ OexK K C ∧ H1 a = some (exo a C none) ∧ Q .non H1
def tOstK (K : PySem.W.Frag) (f : Str) (to te : TE) : TS := fun D σ H => te σ H fun y H1 => to σ H1 fun x H2 => ∃ a C : Addr, x = .ref a ∧ OexK K C ∧ PySem.W.findIn K (.ref C) f = some none ∧
 H2 a = some (exo a C none) ∧ ∀ dx, H2 dx = none → dx ≠ a → D.nx σ (upd (upd H2 dx (exd dx [(f, y)])) a (exo a C (some dx)))
section
variable {X : Cx} {o e : Expr} {es : List Expr} {to te : TE} {ta : TA} {f : Str} {p p' p1 p2 pos : Pos}
theorem pe_keinit {pl : Sem Bool} (hg : Gl X "KeyError") (hm : X.mg "KeyError" = none) (vV : PySem.W.findCls X.K (.type "KeyError") (.type "type") "__init__" = some (.val (.builtin "KeyError.__init__"))) (ha : PA X (e :: es) ta)
  (hc : eval (.Call (.Attribute (.Name "KeyError" p1) "__init__" p2) (e :: es) [] pos) X.env = (do
   let ov ← eval (.Name "KeyError" p1) X.env
   standAt p2.atName
   let (f, first) ← holding [ov] (getMethod ov "__init__" pl)
   callWith pos f first (backTo pos (starEach (e :: es) X.env)) (backToKw pos (keywordEach [] X.env))) := by rfl)
  (he : starEach (e :: es) X.env = (false, eval e X.env) :: starEach es X.env := by rfl) (hpl : (backTo pos (starEach es X.env)).any (·.1) = false := by rfl) :
  PE X (.Call (.Attribute (.Name "KeyError" p1) "__init__" p2) (e :: es) [] pos) (tKeI X.K ta) := by
 refine ⟨fun pins s σ H Q I h => ?_⟩
 refine PySem.W.methodCall_KW (ld_blt I hg hm PyProof.Rows.Boot.«KeyError» ?_ (by decide) (by decide)) hc
 obtain ⟨m, fr⟩ := I.fr
 refine PySem.W.method_type fr I.ok.mod.kin PySem.HandSPX.typ_KE (by decide +kernel) vV (by decide +kernel) ?_
 show wpAny _ _ (callWith pos (Value.builtin "KeyError.__init__") [] (backTo pos (starEach (e :: es) X.env)) []) _ _ _
 refine PyProof.Rows.callWith_method1 (thn (ha.run pos pins _ σ H _ (I.tok _) h) fun us s1 ⟨vs, H1, I1, r1, a, C, ws, ev, hl, T, ea, q⟩ => ?_) he hpl
 subst ev
 cases r1 with
 | @cons _ u0 _ ur ra rw' =>
  obtain rfl : u0 = Value.ref a := ra
  have hlen : ur.length ≤ sizeLine := by
   rw [← Paired.length rw', sizeLine_eq]
   omega
  exact oinit_okK T I1 ea hlen fun s' J => ⟨.non, H1, J, rfl, q⟩
theorem ps_ostK (ho : PE X o to) (he : PE X e te) (hs : swapsWith e (some (.Attribute o f p')) pos.line X.env = pure false := by rfl) : PS X (.Assign [.Attribute o f p'] e pos) (tOstK X.K f to te) := by
 refine ⟨fun pins s σ H D I h => ?_⟩
 refine plainObj_wpAny_Assign_Attribute (thn (he.run pins s σ H _ I h) fun v s1 ⟨y, H1, I1, r1, q1⟩ => thn (ho.run pins s1 σ H1 _ I1 q1) fun u s2 ⟨x, H2, I2, r2, a, C, ex, T, hno, ea, q⟩ => ?_) hs
 subst ex
 obtain rfl : u = Value.ref a := r2
 exact ost_newK T I2 ea hno r1 fun dx s' n ne J => ⟨σ, _, J, q dx n ne⟩
end
section
variable {X : Cx} {x : Str} {p pos : Pos} {kws : List Keyword} {ta : TA} {e : Expr} {es : List Expr}
theorem pmk_oek {CX : CXT} {x : Str} {C fI : Addr} {k : Nat} {fd : FuncData} {ps : List Str} {sp : Sp} {ds : List Value} {dvs : List V} (T : OexK X.K C) (iC : PySem.W.findIn X.K (.ref C) "__init__" = some (some (.ref fI))) (tI : PySem.W.typeIn X.K (.ref fI) = some (.type "function"))
  (F1 : FnOk X.prog X.w X.K X.mg X.base CX k fI fd ps sp) (hr : Room (k + 1) X.A) (hb : Binds X.K fd ps ds) (hd : Vals dvs ds) (hx : Passes CX X (fun _ _ _ => False)) (hg : Gl X x) (hm : X.mg x = some (.ref C)) (ha : PA X (e :: es) ta)
  (hdb : (x == ("__debug__" : Str)) = false := by decide) (he : starEach (e :: es) X.env = (false, eval e X.env) :: starEach es X.env := by rfl) (hpl : (backTo pos (starEach es X.env)).any (·.1) = false := by rfl) :
  L2.PMk X (.Call (.Name x p) (e :: es) [] pos) (tMkO C sp dvs ta) := by
 intro pins s σ H Q I h
 obtain ⟨nm, q, N, bs, sn, sub, ab, col, dd, k0, k1, k2, k3, k5, hC⟩ := T.cls
 refine wpAny_Call_Name_kw (ld_glob I hg hm ?_ hdb)
 refine PySem.W.callWith_K (h₀ := X.base) I.ok.mod.kin T.kC (thn (ha.run pos pins s σ H _ I h) fun us s1 ⟨vs, H1, I1, r1, hz, q1⟩ => ⟨I1.kIn, ?_⟩) he hpl
 show wpAny _ _ (call (.ref C) us) _ _ _
 obtain ⟨hp, g, dr, tk, os⟩ := s1
 have hsz : hp.objs.size ≤ hp.objs.size + 1 := Nat.le_succ _
 have hn : H1 (hp.objs.size + 1) = none := I1.hok.fresh hsz
 have hq := q1 (hp.objs.size + 1) hn
 have kk : ∀ b o, hp.get? b = some o → ((hp.push (PySem.W.kdv_tup us)).push (PySem.HandSPX.excO C hp.objs.size)).get? b = some o := fun b o e => Heap.get?_push_of_some _ (Heap.get?_push_of_some _ e)
 have hget : ((hp.push (PySem.W.kdv_tup us)).push (PySem.HandSPX.excO C hp.objs.size)).get? (hp.objs.size + 1) = some (PySem.HandSPX.excO C hp.objs.size) := by heap_get
 have I2 : Inv X pins σ (upd H1 (hp.objs.size + 1) (exo (hp.objs.size + 1) C none)) ⟨(hp.push (PySem.W.kdv_tup us)).push (PySem.HandSPX.excO C hp.objs.size), g, dr, tk, os⟩ :=
  I1.laid (t' := tk) (a := hp.objs.size + 1) (o := exo (hp.objs.size + 1) C none) (h' := (hp.push (PySem.W.kdv_tup us)).push (PySem.HandSPX.excO C hp.objs.size)) kk hsz (exo_ok hget)
 have r2 : Vals (V.ref (hp.objs.size + 1) :: (vs ++ dvs)) (Value.ref (hp.objs.size + 1) :: (us ++ ds)) := .cons rfl (r1.append hd)
 have hl : (Value.ref (hp.objs.size + 1) :: us ++ ds).length = ps.length := by
  have e := r2.length
  rw [F1.len _ _ _ _ hq] at e
  exact e.symm
 have hus : us.length ≤ sizeLine := by
  rw [← Paired.length r1, sizeLine_eq]
  omega
 refine wpAny_call (PySem.HandSPX.call_ownK F.excBase_LookupError ke_LookupError ke_noA ke_noN (I1.kIn _ _ hC) (PySem.W.looks_findIn I1.kIn iC) (fun self => PySem.W.bind_fn I1.kIn self tI) hus
  (codeAny_mono (F1.run _ X.stack _ _ ⟨Value.ref (hp.objs.size + 1) :: us, []⟩ (Value.ref (hp.objs.size + 1) :: (us ++ ds)) _ _ (fun _ _ _ => False) (hr.make C us []) (I2.env0.make C us []) (hb _ (Value.ref (hp.objs.size + 1) :: us) I2.kIn hl) r2 hq) fun r s' hq' => ?_))
 cases r with
 | error er => exact hx pins σ _ _ er s' I2 hq'
 | ok fl =>
  cases fl with
  | ret u =>
   obtain ⟨v, H2, os2, bare2, un2, hok2, rv, ev, d, fs, ea, ed, hd1, q2⟩ := hq'
   subst ev
   obtain ⟨h2, g2, d2, t2, os'⟩ := s'
   exact ⟨rv, mk_end (raises_own T.exC T.tyC) I1 hsz kk un2 hok2 os2 bare2 ea ed hd1 q2⟩
  | next => exact False.elim hq'
  | brk => exact False.elim hq'
  | cont => exact False.elim hq'
theorem pmk_oekK {CX : CXT} {C fI : Addr} {k : Nat} {fd : FuncData} {ps ks : List Str} {sp : Sp} {g : List Value → List Value → List Value} {gV : List V → List V → List V} (T : OexK X.K C) (iC : PySem.W.findIn X.K (.ref C) "__init__" = some (some (.ref fI))) (tI : PySem.W.typeIn X.K (.ref fI) = some (.type "function"))
  (F1 : FnOk X.prog X.w X.K X.mg X.base CX k fI fd ps sp) (hr : Room (k + 1) X.A) (hb : KBn X.K fd ps 1 ks g gV) (hx : Passes CX X (fun _ _ _ => False)) (hg : Gl X x) (hm : X.mg x = some (.ref C)) (ha : PK X kws ta)
  (hall : (backToKw pos (keywordEach kws X.env)).all (·.1.isSome) = true := by rfl) (hks : (backToKw pos (keywordEach kws X.env)).filterMap (·.1) = ks := by rfl)
  (hdb : (x == ("__debug__" : Str)) = false := by decide) (hpl : ((backTo pos (starEach [] X.env)).any (·.1) || (backToKw pos (keywordEach kws X.env)).any (·.1.isNone)) = false := by rfl) :
  L2.PMk X (.Call (.Name x p) [] kws pos) (tMkOK C sp gV ks.length ta) := by
 intro pins s σ H Q I h
 obtain ⟨nm, q, N, bs, sn, sub, ab, col, dd, k0, k1, k2, k3, k5, hC⟩ := T.cls
 refine wpAny_Call_Name_kw (ld_glob I hg hm ?_ hdb)
 refine PySem.W.callWith_KW0 (h₀ := X.base) I.ok.mod.kin T.kC hall (thn (ha.run pos pins s σ H _ I h) fun ws s1 ⟨zs, H1, I1, rz, lz, q1⟩ => ⟨I1.kIn, ?_⟩) hpl
 rw [hks]
 show wpAny _ _ (call (.ref C) [] (ks.zip ws)) _ _ _
 obtain ⟨hp, g0, dr, tk, os⟩ := s1
 have hsz : hp.objs.size ≤ hp.objs.size + 1 := Nat.le_succ _
 have hn : H1 (hp.objs.size + 1) = none := I1.hok.fresh hsz
 have hq := q1 (hp.objs.size + 1) hn
 have kk : ∀ b o, hp.get? b = some o → ((hp.push (PySem.W.kdv_tup [])).push (PySem.HandSPX.excO C hp.objs.size)).get? b = some o := fun b o e => Heap.get?_push_of_some _ (Heap.get?_push_of_some _ e)
 have hget : ((hp.push (PySem.W.kdv_tup [])).push (PySem.HandSPX.excO C hp.objs.size)).get? (hp.objs.size + 1) = some (PySem.HandSPX.excO C hp.objs.size) := by heap_get
 have I2 : Inv X pins σ (upd H1 (hp.objs.size + 1) (exo (hp.objs.size + 1) C none)) ⟨(hp.push (PySem.W.kdv_tup [])).push (PySem.HandSPX.excO C hp.objs.size), g0, dr, tk, os⟩ :=
  I1.laid (t' := tk) (a := hp.objs.size + 1) (o := exo (hp.objs.size + 1) C none) (h' := (hp.push (PySem.W.kdv_tup [])).push (PySem.HandSPX.excO C hp.objs.size)) kk hsz (exo_ok hget)
 have r1 : Vals [V.ref (hp.objs.size + 1)] [Value.ref (hp.objs.size + 1)] := .cons rfl .nil
 have r2 := hb.rel r1 rz
 have lw : ws.length = ks.length := rz.length.symm.trans lz
 refine wpAny_call (PySem.HandSPX.call_ownK F.excBase_LookupError ke_LookupError ke_noA ke_noN (I1.kIn _ _ hC) (PySem.W.looks_findIn I1.kIn iC) (fun self => PySem.W.bind_fn I1.kIn self tI) (by show 0 ≤ sizeLine; omega)
  (codeAny_mono (F1.run _ X.stack _ _ ⟨[Value.ref (hp.objs.size + 1)], ks.zip ws⟩ (g [Value.ref (hp.objs.size + 1)] ws) _ _ (fun _ _ _ => False) (hr.make C [] (ks.zip ws)) (I2.env0.make C [] (ks.zip ws)) (hb.to _ [Value.ref (hp.objs.size + 1)] ws I2.kIn rfl lw) r2 hq) fun r s' hq' => ?_))
 cases r with
 | error er => exact hx pins σ _ _ er s' I2 hq'
 | ok fl =>
  cases fl with
  | ret u =>
   obtain ⟨v, H2, os2, bare2, un2, hok2, rv, ev, d, fs, ea, ed, hd1, q2⟩ := hq'
   subst ev
   obtain ⟨h2, g2, d2, t2, os'⟩ := s'
   exact ⟨rv, mk_end (raises_own T.exC T.tyC) I1 hsz kk un2 hok2 os2 bare2 ea ed hd1 q2⟩
  | next => exact False.elim hq'
  | brk => exact False.elim hq'
  | cont => exact False.elim hq'
end
section
variable {P : Program} {w : World} {K : Frag} {mg : Str → Option Value} {base : Heap} {x qual g g2 : Str} {params : Arguments} {body : List Stmt} {scope : Scope} {dvs : List V} {kws : List (Str × V)} {f C : Addr} {fd : FuncData} {k : Nat} {m : V}
theorem fn_init1K (Fd : FunD K x qual params body scope dvs kws f fd) (S : FnScope ["self", g] ["self", g] scope) (T : OexK K C) (no : PySem.W.findIn K (.ref C) g = some none)
  (hb : ∀ (cdv : Value) (A : Around) (outer : List PySem.Env) (s : Shared) (H : Hp) (E : XK), PSs (cxOf (CXR rg P w) P w K mg base ["self", g] qual scope f cdv A outer s H E) body (tSeq (tDrop (tKeI K (tCons (tVar 0) (tCons (tC m) tNil)))) (tOstK K g (tVar 0) (tVar 1)))) :
  FnOk P w K mg base (CXR rg P w) (k + 1) f fd ["self", g] (spI C [g]) := by
 refine Fd.ok S (fun vs H Q E h => ?_) fun cdv A outer s H vs Q E hr h => ⟨_, hb cdv A outer s H E, ?_⟩
 ·obtain ⟨a, ys, rfl, hl, _⟩ := h
  rw [List.length_cons, hl] <;> rfl
 ·obtain ⟨a, ys, rfl, hl, ea, q⟩ := h
  match ys, hl with
  | [y], _ =>
   refine ⟨.ref a, rfl, a, C, [m], rfl, by simp, T, ea, ⟨y, rfl, .ref a, rfl, a, C, rfl, T, no, ea, fun dx hd ne => ?_⟩⟩
   refine q dx _ hd ne upd_same ?_ fun b h1 h2 => ?_
   ·rw [upd_ne ne, upd_same] <;> rfl
   ·rw [upd_ne h1, upd_ne h2]
end
structure XkC (K : Frag) (C fI : Addr) : Prop where
 T : OexK K C
 iC : PySem.W.findIn K (.ref C) "__init__" = some (some (.ref fI))
 tI : PySem.W.typeIn K (.ref fI) = some (.type "function")
def mMkXK (y : Str) (gs : List Str) (pm : {α : Type} → List α → List α) (m : M (List AV)) : M D := fun ρ => (m ρ).bind fun as ρ1 => match avD as with
 | some xs => if xs.length = gs.length then .ok (excD y (gs.zip (pm xs)).reverse) ρ1 else .bad
 | none => .bad
end DL
end
section
namespace DL
variable [DL.TheW]
open PySem PySem.Spec PyProof.Rows L2 PySem.HandSPX
section
variable {X : Cx} {CX : CXT} {y : Str} {C g : Addr} {lv : Nat} {fd : FuncData} {ps : List Str} {sp : Sp}
theorem made_endK {pins : List (Addr × Obj)} {σ : L2.St} {H : Hp} {B : Heap} {gs : Array GenState} {dr : Drawn} {tk : Nat} {os : OsState} {us : List Value} {Q : XK} {s' : Shared} (T : OexK X.K C) (J : Inv X pins σ H ⟨B, gs, dr, tk, os⟩)
  (un : Un (frs X.stack) [] (upd H (B.objs.size + 1) (exo (B.objs.size + 1) C none)) (H2 : Hp) ((B.push (PySem.W.kdv_tup us)).push (PySem.HandSPX.excO C B.objs.size)) s'.heap) (hok : HOk X.prog X.w H2 s'.heap) (eo : s'.os = os) (eb : AllBare s'.gens)
  {d : Addr} {fs : List (Str × V)} (ea : H2 (B.objs.size + 1) = some (exo (B.objs.size + 1) C (some d))) (ed : H2 d = some (exd d fs)) (hd : H d = none) (q : Q (.ref C) (some d) (upd (del H2 (B.objs.size + 1)) d (.xd fs))) :
  L2N.MkP X pins σ Q (.ref (B.objs.size + 1)) s' := by
 have kept : ∀ b u, B.get? b = some u → ((B.push (PySem.W.kdv_tup us)).push (PySem.HandSPX.excO C B.objs.size)).get? b = some u := fun b u z => Heap.get?_push_of_some _ (Heap.get?_push_of_some _ z)
 obtain ⟨t, G, J2, g1, g2, g3, g4⟩ := mk_end0 (d2 := s'.drawn) (t2 := s'.toks) J (Nat.le_add_right _ 1) kept un hok eo eb ea ed hd
 have ctx : PXN.CtxN ({ cls := .ref C, dict := some d, data := .fields #[.ref t, .none, .none, .none, .bool false, .none] } : Obj) := fun vs e => by
  injection e with e
  rw [← e]; rfl
 exact ⟨_, _, _, _, _, _, some d, rfl, J2, g1, g2, g3, ⟨rfl, rfl, ctx⟩, rfl, rfl, g4, rfl, eb, raises_own T.exC T.tyC, q⟩
variable {e : Expr} {es : List Expr} {ta : TA} {p pos : Pos} {dvs : List V} {ds : List Value}
theorem pmk_oekN (T : OexK X.K C) (iC : PySem.W.findIn X.K (.ref C) "__init__" = some (some (.ref g))) (tI : PySem.W.typeIn X.K (.ref g) = some (.type "function")) (G : FnOk X.prog X.w X.K X.mg X.base CX lv g fd ps sp) (room : Room (lv + 1) X.A)
  (bd : Binds X.K fd ps ds) (vd : Vals dvs ds) (px : Passes CX X (fun _ _ _ => False)) (gl : Gl X y) (mC : X.mg y = some (.ref C)) (ha : PA X (e :: es) ta)
  (nd : (y == ("__debug__" : Str)) = false := by decide) (h1 : starEach (e :: es) X.env = (false, eval e X.env) :: starEach es X.env := by rfl) (h2 : (backTo pos (starEach es X.env)).any (·.1) = false := by rfl) :
  L2N.PMk X (.Call (.Name y p) (e :: es) [] pos) (tMkO C sp dvs ta) := fun pins s σ H Q I h => by
 obtain ⟨_, _, _, _, _, _, _, _, _, _, _, _, _, _, atC⟩ := T.cls
 have args := ha.run pos pins s σ H _ I h
 refine wpAny_Call_Name_kw (ld_glob I gl mC (PySem.W.callWith_K (h₀ := X.base) I.ok.mod.kin T.kC (thn args ?_) h1 h2) nd)
 rintro us ⟨B, gs, dr, tk, os⟩ ⟨vs, H1, J, rv, few, told⟩
 refine ⟨J.kIn, ?_⟩
 show wpAny _ _ (call (.ref C) us) _ _ _
 have free : H1 (B.objs.size + 1) = none := J.hok.fresh (Nat.le_add_right _ 1)
 have due := told _ free
 have J2 := made_start (C := C) (us := us) J
 have all : Vals (V.ref (B.objs.size + 1) :: (vs ++ dvs)) (Value.ref (B.objs.size + 1) :: (us ++ ds)) := .cons rfl (rv.append vd)
 have size : (Value.ref (B.objs.size + 1) :: us ++ ds).length = ps.length := (G.len _ _ _ _ due ▸ all.length).symm
 have small : us.length ≤ sizeLine := by
  have := Paired.length rv
  rw [sizeLine_eq]
  omega
 have body := G.run _ X.stack _ _ ⟨Value.ref (B.objs.size + 1) :: us, []⟩ (Value.ref (B.objs.size + 1) :: (us ++ ds)) _ _ (fun _ _ _ => False) (room.make C us []) (J2.env0.make C us []) (bd _ (Value.ref (B.objs.size + 1) :: us) J2.kIn size) all due
 refine wpAny_call (call_ownK F.excBase_LookupError ke_LookupError ke_noA ke_noN (J.kIn _ _ atC) (PySem.W.looks_findIn J.kIn iC) (fun me => PySem.W.bind_fn J.kIn me tI) small (codeAny_mono body ?_))
 intro r s' z
 match r, z with
 | .error er, z => exact px pins σ _ _ er s' J2 z
 | .ok (.ret u), z =>
  obtain ⟨v, H2, eo, eb, un, hok, ru, ev, d, fs, ea, ed, hd, q⟩ := z
  subst ev
  exact ⟨ru, made_endK T J un hok eo eb ea ed hd q⟩
 | .ok .next, z => exact False.elim z
 | .ok .brk, z => exact False.elim z
 | .ok .cont, z => exact False.elim z
end
def pmI {α : Type} (l : List α) : List α := l
section
variable {X : Cx} {c : Ct} {CX : CXT} {C fI : Addr} {fd : FuncData} {ps gs ks : List Str} {k : Nat} {x y : Str} {e : Expr} {es : List Expr} {m : M (List AV)} {p pos pos' : Pos} {kws : List Keyword}
theorem mkXK_imp {pm : {α : Type} → List α → List α} {n : Nat} (hpl : ∀ {α : Type} (l : List α), (pm l).length = l.length) (hpr : ∀ {F : Hp} {vs : List V} {xs : List D}, RpAll X.K F vs xs → RpAll X.K F (pm vs) (pm xs)) (hca : c.ca = He.ga X.K) (hy : He.ga X.K y = C) (hn0 : gs.length = n) (hgs : gs ≠ []) : ∀ σ H Q, te X.K c false false (mMkXK y gs pm m) σ H Q → tMkE (tMkOK C (spI C gs) (fun us ws => us ++ pm ws) n (tg X.K c m)) σ H Q := fun σ H Q ⟨F, ρ, O, ev, h⟩ => by
 refine ⟨F, ρ, O, ev, Res.post_imp (Res.post_bind h) (fun as ρ1 h1 F1 H1 O1 vs e1 s1 av => ?_) fun ξ ρ1 h1 => h1⟩
 have h1 : (match avD as with
  | some xs => if xs.length = gs.length then Res.ok (excD y (gs.zip (pm xs)).reverse) ρ1 else .bad
  | none => .bad : Res D).post (PV X.K c false false F H σ Q) (PX X.K c σ) := h1
 cases q : avD as with
 | none => rw [q] at h1; exact h1.elim
 | some xs =>
  rw [q] at h1
  have rp0 := avD_ok av q
  have rp := hpr rp0
  by_cases hn : xs.length = gs.length
  ·have h1 : (if xs.length = gs.length then Res.ok (excD y (gs.zip (pm xs)).reverse) ρ1 else .bad : Res D).post (PV X.K c false false F H σ Q) (PX X.K c σ) := h1
   rw [if_pos hn] at h1
   have lv0 : vs.length = gs.length := (rpAll_len rp0).trans hn
   have lv : (pm vs).length = gs.length := (hpl vs).trans lv0
   have hn : (pm xs).length = gs.length := (hpl xs).trans hn
   refine ⟨by rw [lv0]; exact hn0, fun a na => ⟨a, pm vs, rfl, lv, upd_same, fun dx H' hd ne ea ed ot => ?_⟩⟩
   rw [upd_ne ne] at hd
   refine ⟨rfl, dx, _, ea, ed, hd, ?_⟩
   have eq : upd (del H' a) dx (.xd (gs.zip (pm vs)).reverse) = upd H1 dx (.xd (gs.zip (pm vs)).reverse) := by
    funext b
    by_cases hbd : b = dx
    ·subst hbd; rw [upd_same, upd_same]
    ·rw [upd_ne hbd, upd_ne hbd]
     by_cases hba : b = a
     ·subst hba; rw [del_same, na]
     ·rw [del_ne hba, ot b hba hbd, upd_ne hba]
   rw [eq]
   intro a2 na2
   have nw := New.one e1.sub hd (.xd (gs.zip (pm vs)).reverse)
   have e2 := e1.new nw
   have fa : (upd F1 dx (.xd (gs.zip (pm vs)).reverse)) a2 = none := e2.sub.free na2
   have xr : XR X.K (He.ga X.K) (upd F1 dx (.xd (gs.zip (pm vs)).reverse)) (upd H1 dx (.xd (gs.zip (pm vs)).reverse)) (.ref C) (some dx) ⟨.own y, (gs.zip (pm xs)).reverse⟩ := by
    subst hy
    refine ⟨rfl, fun _ => ⟨dx, _, rfl, upd_same, ?_, ?_⟩, fun z => ?_⟩
    ·rw [List.map_reverse, List.map_reverse, zip_fst lv, zip_fst hn]
    ·rw [List.map_reverse, List.map_reverse, zip_snd lv, zip_snd hn]
     exact rpAll_rev (rp.mono nw.fF)
    ·exfalso
     have z : (gs.zip (pm xs)).reverse = [] := z
     have z2 := congrArg List.length z
     rw [List.length_reverse, List.length_zip, hn, Nat.min_self] at z2
     exact hgs (List.length_eq_zero_iff.mp z2)
   have rp2 := xr_rp (a := a2) xr fa
   refine h1 _ _ O1 (.ref a2) (e2.new (New.one e2.sub na2 _)) ((s1.trans nw.fF).trans (same_upd fa _)) (fun z => by cases z) ?_
   show Rp X.K _ _ _
   exact rp2
  ·have h1 : (if xs.length = gs.length then Res.ok (excD y (gs.zip (pm xs)).reverse) ρ1 else .bad : Res D).post (PV X.K c false false F H σ Q) (PX X.K c σ) := h1
   rw [if_neg hn] at h1
   exact h1.elim
theorem se_mkXk {pm : {α : Type} → List α → List α} (hpl : ∀ {α : Type} (l : List α), (pm l).length = l.length) (hpr : ∀ {F : Hp} {vs : List V} {xs : List D}, RpAll X.K F vs xs → RpAll X.K F (pm vs) (pm xs)) (N : XnC X.K C fI) (F1 : FnOk X.prog X.w X.K X.mg X.base CX k fI fd ps (spI C gs)) (hr : Room (k + 1) X.A)
  (hb : KBn X.K fd ps 1 ks (fun us ws => us ++ pm ws) (fun vs zs => vs ++ pm zs)) (hx : Passes CX X (fun _ _ _ => False)) (gC : X.mg x = some (.ref C)) (hca : c.ca = He.ga X.K) (hy : He.ga X.K y = C) (hn0 : gs.length = ks.length) (ha : L2.PK X kws (tg X.K c m)) (hg : Gl X x := by rfl) (hdb : (x == ("__debug__" : Str)) = false := by decide)
  (hall : (backToKw pos (keywordEach kws X.env)).all (·.1.isSome) = true := by rfl) (hks : (backToKw pos (keywordEach kws X.env)).filterMap (·.1) = ks := by rfl)
  (hpl2 : ((backTo pos (starEach [] X.env)).any (·.1) || (backToKw pos (keywordEach kws X.env)).any (·.1.isNone)) = false := by rfl) (hgs : gs ≠ [] := by decide) :
  PE X (.Call (.Name x p) [] kws pos) (te X.K c false false (mMkXK y gs pm m)) := (pe_mke (pmk_oexK N.T N.iC N.tI F1 hr hb hx hg gC ha hall hks hdb hpl2)).imp (mkXK_imp hpl hpr hca hy hn0 hgs)
theorem se_mkKk {pm : {α : Type} → List α → List α} (hpl : ∀ {α : Type} (l : List α), (pm l).length = l.length) (hpr : ∀ {F : Hp} {vs : List V} {xs : List D}, RpAll X.K F vs xs → RpAll X.K F (pm vs) (pm xs)) (N : XkC X.K C fI) (F1 : FnOk X.prog X.w X.K X.mg X.base CX k fI fd ps (spI C gs)) (hr : Room (k + 1) X.A)
  (hb : KBn X.K fd ps 1 ks (fun us ws => us ++ pm ws) (fun vs zs => vs ++ pm zs)) (hx : Passes CX X (fun _ _ _ => False)) (gC : X.mg x = some (.ref C)) (hca : c.ca = He.ga X.K) (hy : He.ga X.K y = C) (hn0 : gs.length = ks.length) (ha : L2.PK X kws (tg X.K c m)) (hg : Gl X x := by rfl) (hdb : (x == ("__debug__" : Str)) = false := by decide)
  (hall : (backToKw pos (keywordEach kws X.env)).all (·.1.isSome) = true := by rfl) (hks : (backToKw pos (keywordEach kws X.env)).filterMap (·.1) = ks := by rfl)
  (hpl2 : ((backTo pos (starEach [] X.env)).any (·.1) || (backToKw pos (keywordEach kws X.env)).any (·.1.isNone)) = false := by rfl) (hgs : gs ≠ [] := by decide) :
  PE X (.Call (.Name x p) [] kws pos) (te X.K c false false (mMkXK y gs pm m)) := (pe_mke (pmk_oekK N.T N.iC N.tI F1 hr hb hx hg gC ha hall hks hdb hpl2)).imp (mkXK_imp hpl hpr hca hy hn0 hgs)
theorem se_mkK (N : XkC X.K C fI) (F1 : FnOk X.prog X.w X.K X.mg X.base CX k fI fd ps (spI C gs)) (hr : Room (k + 1) X.A) (hb : Binds X.K fd ps []) (hx : Passes CX X (fun _ _ _ => False))
  (gC : X.mg x = some (.ref C)) (hca : c.ca = He.ga X.K) (hy : He.ga X.K y = C) (hl : gs.length ≤ 1000) (ha : PA X (e :: es) (tg X.K c m)) (hg : Gl X x := by rfl) (hdb : (x == ("__debug__" : Str)) = false := by decide)
  (he : starEach (e :: es) X.env = (false, eval e X.env) :: starEach es X.env := by rfl) (hpl : (backTo pos (starEach es X.env)).any (·.1) = false := by rfl) (hgs : gs ≠ [] := by decide) :
  PE X (.Call (.Name x p) (e :: es) [] pos) (te X.K c false false (mMkX y gs m)) := (pe_mke (pmk_oek N.T N.iC N.tI F1 hr hb .nil hx hg gC ha hdb he hpl)).imp (mkX_imp hca hy hl hgs)
theorem sv_raiseK (hc : X.calm = true) (tk : TakesR rg X c.W) (N : XkC X.K C fI) (F1 : FnOk X.prog X.w X.K X.mg X.base CX k fI fd ps (spI C gs)) (hr : Room (k + 1) X.A) (hb : Binds X.K fd ps []) (hx : Passes CX X (fun _ _ _ => False))
  (gC : X.mg x = some (.ref C)) (hca : c.ca y = C) (hl : gs.length ≤ 1000) (ha : PA X (e :: es) (tg X.K c m)) (hg : Gl X x := by rfl) (hdb : (x == ("__debug__" : Str)) = false := by decide)
  (he : starEach (e :: es) X.env = (false, eval e X.env) :: starEach es X.env := by rfl) (hpl : (backTo pos (starEach es X.env)).any (·.1) = false := by rfl) (hgs : gs ≠ [] := by decide) :
  PS X (.Raise (some (.Call (.Name x p) (e :: es) [] pos)) none pos') (ts X.K c (sRaiseX y gs m)) := PS.imp (match rg, tk with
 | true, tk => L2N.ps_raise hc tk (pmk_oekN N.T N.iC N.tI F1 hr hb .nil hx hg gC ha hdb he hpl)
 | false, tk => L2.ps_raise hc tk (pmk_oek N.T N.iC N.tI F1 hr hb .nil hx hg gC ha hdb he hpl)) fun Dn σ H h => raiseX_imp hca hl hgs h
end
section
variable {T : Type} [Tg T] {ρ : Env} {h : Exc → Env → T}
def mkXO (y : Str) (gs : List Str) (as : List AV) : Option D := match avD as with
 | some xs => if xs.length = gs.length then some (excD y (gs.zip xs).reverse) else none
 | none => none
theorem rB_mkX (y : Str) (gs : List Str) (m : M (List AV)) (k : D → Env → T) : rB (mMkX y gs m ρ) k h = rB (m ρ) (fun as ρ1 => oB (mkXO y gs as) fun d => k d ρ1) h := by
 unfold mMkX; rw [rB_bind]; congr; funext as ρ1
 unfold mkXO
 cases avD as with
 | none => rfl
 | some xs =>
  show rB (if xs.length = gs.length then _ else _) k h = oB (if xs.length = gs.length then _ else _) _
  by_cases e : xs.length = gs.length
  ·rw [if_pos e, if_pos e]; rfl
  ·rw [if_neg e, if_neg e]; rfl
def mkXKO (y : Str) (gs : List Str) (pm : {α : Type} → List α → List α) (as : List AV) : Option D := match avD as with
 | some xs => if xs.length = gs.length then some (excD y (gs.zip (pm xs)).reverse) else none
 | none => none
theorem rB_mkXK (y : Str) (gs : List Str) (pm : {α : Type} → List α → List α) (m : M (List AV)) (k : D → Env → T) : rB (mMkXK y gs pm m ρ) k h = rB (m ρ) (fun as ρ1 => oB (mkXKO y gs pm as) fun d => k d ρ1) h := by
 unfold mMkXK; rw [rB_bind]; congr; funext as ρ1
 unfold mkXKO
 cases avD as with
 | none => rfl
 | some xs =>
  show rB (if xs.length = gs.length then _ else _) k h = oB (if xs.length = gs.length then _ else _) _
  by_cases e : xs.length = gs.length
  ·rw [if_pos e, if_pos e]; rfl
  ·rw [if_neg e, if_neg e]; rfl
end
end DL
end
section
namespace DL
variable [DL.TheW]
open PySem PySem.Spec PyProof.Rows L2 PySem.HandSPX
theorem oekB_ok {K : Frag} {C : Addr} (h : oekB K C = true) : OexK K C := by
 obtain ⟨h1, h⟩ := Bool.and_eq_true_iff.mp h
 obtain ⟨h2, h⟩ := Bool.and_eq_true_iff.mp h
 obtain ⟨h3, h⟩ := Bool.and_eq_true_iff.mp h
 obtain ⟨h4, h5⟩ := Bool.and_eq_true_iff.mp h
 refine ⟨?_, of_decide_eq_true h2, of_decide_eq_true h3, of_decide_eq_true h4, h5⟩
 split at h1
 case h_2 => cases h1
 case h_1 t dd cd sl ho =>
  obtain ⟨e1, g1⟩ := Bool.and_eq_true_iff.mp h1
  have e1 : t = "type" := of_decide_eq_true e1
  subst e1
  clear h1
  split at g1
  case h_2 => cases g1
  case h_1 D bm k0 k1 k2 k3 n k5 hm hs =>
   obtain ⟨q1, g2⟩ := Bool.and_eq_true_iff.mp g1
   obtain ⟨q2, g3⟩ := Bool.and_eq_true_iff.mp g2
   obtain ⟨hdel, g4⟩ := Bool.and_eq_true_iff.mp g3
   obtain ⟨hdi, hv⟩ := Bool.and_eq_true_iff.mp g4
   have hdl : cd.hasDel = false := by simpa using hdel
   clear hdel g3 g2 g1 g4
   have q1 : D = C := of_decide_eq_true q1
   have q2 : n = "LookupError.__new__" := of_decide_eq_true q2
   subst q1 q2
   obtain ⟨nm, bs, mro, ns, qn, hd, sn, sub, ab, col, del⟩ := cd
   dsimp only at hm hdl hdi
   subst hm hdl hdi
   have hsl : sl = #[k0, k1, k2, k3, some (.builtin "LookupError.__new__"), k5] := by
    obtain ⟨l⟩ := sl
    simp only at hs
    rw [hs]
   subst hsl
   have hv := beq_iff_eq.mp hv
   subst hv
   exact ⟨nm, qn, ns, bs, sn, sub, ab, col, dd, k0, k1, k2, k3, k5, ho⟩
theorem xnk_ok {K : Frag} {x : Str} (c : (Fx.oek x).ok K = true) (m : (He.Fa.meth x "__init__").ok K = true) : XkC K (He.ga K x) (He.ma K (He.ga K x) "__init__") := by
 obtain ⟨m1, m2, m3⟩ := He.meth_ok m
 exact ⟨oekB_ok c, m1, beq_iff_eq.mp m2⟩
end DL
end
section
namespace SH
variable [DL.TheW]
open PySem PySem.Spec PyProof.Rows L2 DL
end SH
end
section
namespace ST
variable [DL.TheW]
open PySem PySem.Spec PyProof.Rows L2 DL SH SU SV SW SX SR
end ST
end
section
namespace DL
variable [DL.TheW]
open PySem PySem.Spec PyProof.Rows L2
def rIsP (K : Frag) (a C : Addr) (d : Option Addr) : List V → Hp → VK → Prop := fun xs H Q => ∃ (c : V) (u : Value) (b : Bool), xs = [.ref a, c] ∧ ClsV c u ∧ (d = none ∨ ∃ dd fs, d = some dd ∧ H dd = some (.xd fs)) ∧ EcK K C ∧ PySem.W.kitOne K (.ref C) u = some b ∧ Q (.bl b) H
theorem call_isP {X : Cx} {a C : Addr} {oe : Obj} {d : Option Addr} {vs : Array Value} (hp : (a, oe) ∈ X.pn) (hz : Zc (.ref C) d oe) (hf : oe.data = .fields vs) : CallR X (.builtin "isinstance") (rIsP X.K a C d) := by
 intro pins s σ H xs us Q I r h
 obtain ⟨c, u, b, rfl, k, hd, ec, e, q⟩ := h
 obtain ⟨u1, u2, rfl, r1, r2⟩ := vals2 r
 have e2 := k.eq r2
 subst e2
 cases (show u1 = Value.ref a from r1)
 have g := (I.pin (a, oe) (List.mem_append_left _ hp)).1
 have J : ∃ od, PySem.W.InstAt s.heap a oe C od := by
  rcases hd with rfl | ⟨dd, fs, rfl, hd⟩
  ·exact ⟨none, g, hz.1, by unfold PySem.W.notCls; rw [hf] <;> rfl, by rw [hz.2] <;> exact trivial⟩
  ·have hx : ObjOk X.prog X.w H s.heap dd (.xd fs) := I.hok dd _ hd
   obtain ⟨mA, hns, hr⟩ := hx
   obtain ⟨od, ho, hl⟩ := lookIn_ns hns
   exact ⟨some od, g, hz.1, by unfold PySem.W.notCls; rw [hf] <;> rfl, by rw [hz.2]; exact ho⟩
 obtain ⟨od, J⟩ := J
 exact PySem.W.kia_one (PySem.W.kitx_exc ec.hcl ec.hga ec.hgt ec.hsub ec.ha ec.hn ec.htk ec.hm) I.kIn J e (fun z => nomatch z) fun tk => ⟨.bl b, H, I.tok tk, rfl, q⟩
def isHO (ξ : Exc) (T : List (Str × Bool)) : Option D := match ξ.c with
 | .own y => (T.lookup y).map .bool
 | .blt _ => none
def mIsH (ξ : Exc) (T : List (Str × Bool)) : M D := fun ρ => ofO (isHO ξ T) ρ
section
variable {X : Cx} {c : Ct} {a : Addr} {oe : Obj} {cls : Value} {d : Option Addr} {pn : List (Addr × Obj)} {ξ : Exc} {pos p p1 p2 : Pos} {x n : Str} {C : Addr}
theorem isH_imp {u : Value} {cV : V} (kv : ClsV cV u) (T : List (Str × Bool)) (hca : c.ca = He.ga X.K) (hE : ∀ y b, T.lookup y = some b → EcK X.K (He.ga X.K y) ∧ PySem.W.kitOne X.K (.ref (He.ga X.K y)) u = some b) (hz : Zc cls d oe) (hf : ∃ vs, oe.data = .fields vs) {i : Nat} (S : SuF X.K c (some i) a cls d ξ)
  (hN : X.N[i]? = some n) {pins : List (Addr × Obj)} {s : Shared} {σ : Sl} {H : Hp} {Q : VK} (I : Inv (X.suite a ((a, oe) :: pn)) pins σ H s) (h : te X.K c false true (mIsH ξ T) σ H Q) :
  ∃ C : Addr, cls = .ref C ∧ σ[i]? = some (some (.ref a)) ∧ rIsP X.K a C d [.ref a, cV] H Q := by
 obtain ⟨F, ρ, O, e, h⟩ := h
 obtain ⟨y, hy, h2⟩ := post_ofO h
 unfold isHO at hy
 split at hy
 case h_2 => cases hy
 case h_1 z hz1 =>
  obtain ⟨b, hb, rfl⟩ := Option.map_eq_some_iff.mp hy
  obtain ⟨k1, k2⟩ := hE z b hb
  obtain ⟨x1, x2, x3⟩ := S.xr
  have ec : cls = .ref (He.ga X.K z) := by rw [x1, hz1, hca]; rfl
  refine ⟨He.ga X.K z, ec, ?_, cV, u, b, rfl, kv, ?_, k1, k2, h2 F H O _ e (Same.refl _) (fun _ => Same.refl _) (.bl _)⟩
  ·obtain ⟨hi, hs⟩ := S.nm i rfl
   rcases hs with hs | hs
   ·rw [e.fx i hi]; exact hs
   ·exfalso
    have q := e.fx i hi
    rw [hs] at q
    have := List.getElem?_eq_none_iff.mp q
    have l : σ.length = X.N.length := I.len
    have := (List.getElem?_eq_some_iff.mp hN).1
    omega
  ·by_cases q : ξ.fs = []
   ·exact .inl (x3 q)
   ·obtain ⟨dd, fvs, ed, eH, _, _⟩ := x2 q
    exact .inr ⟨dd, fvs, ed, e.sub _ _ (e.f0 _ _ eH)⟩
theorem se_isH (T : List (Str × Bool)) (hm : X.mg "isinstance" = none) (gC : X.mg x = some (.ref C)) (hca : c.ca = He.ga X.K) (hE : ∀ y b, T.lookup y = some b → EcK X.K (He.ga X.K y) ∧ PySem.W.kitOne X.K (.ref (He.ga X.K y)) (.ref C) = some b) (hz : Zc cls d oe) (hf : ∃ vs, oe.data = .fields vs) {i : Nat} (S : SuF X.K c (some i) a cls d ξ)
  (hN : X.N[i]? = some n) (hv : Vis X.env.scope n) (hd : (n == ("__debug__" : Str)) = false) (hcd : (n == ("__classdict__" : Str)) = false)
  (hg : Gl X "isinstance" := by rfl) (hg2 : Gl X x := by rfl) (hd2 : (x == ("__debug__" : Str)) = false := by decide)
  (hs : starEach [.Name n p1, .Name x p2] X.env = (false, eval (.Name n p1) X.env) :: starEach [.Name x p2] X.env := by rfl) (hs2 : starEach [.Name x p2] X.env = (false, eval (.Name x p2) X.env) :: starEach [] X.env := by rfl) (hpl : (backTo pos (starEach [.Name x p2] X.env)).any (·.1) = false := by rfl) :
  PE (X.suite a ((a, oe) :: pn)) (.Call (.Name "isinstance" p) [.Name n p1, .Name x p2] [] pos) (te X.K c false true (mIsH ξ T)) := by
 refine ⟨fun pins s σ H Q I h => ?_⟩
 obtain ⟨D, ed, hi, r⟩ := isH_imp (n := n) (ClsV.own C) T hca hE hz hf S hN I h
 subst ed
 obtain ⟨vs, hvs⟩ := hf
 refine (pe_callB (X := X.suite a ((a, oe) :: pn)) (call_isP (X := X.suite a ((a, oe) :: pn)) (List.mem_cons_self) hz hvs) hg hm boot_isinstance (pa_cons (pe_var (X := X.suite a ((a, oe) :: pn)) (i := i) hN hv hd hcd) (pa_cons (pe_glob (X := X.suite a ((a, oe) :: pn)) (v := .ref C) hg2 gC rfl hd2) pa_nil hs2) hs) (by decide) (by decide) hs hpl).run pins s σ H Q I ?_
 exact ⟨.ref a, hi, r⟩
theorem se_isHB (T : List (Str × Bool)) {bn : String} (hm : X.mg "isinstance" = none) (hm2 : X.mg x = none) (hca : c.ca = He.ga X.K) (hE : ∀ y b, T.lookup y = some b → EcK X.K (He.ga X.K y) ∧ PySem.W.kitOne X.K (.ref (He.ga X.K y)) (.type bn) = some b) (hz : Zc cls d oe) (hf : ∃ vs, oe.data = .fields vs) {i : Nat} (S : SuF X.K c (some i) a cls d ξ)
  (hN : X.N[i]? = some n) (hv : Vis X.env.scope n) (hd : (n == ("__debug__" : Str)) = false) (hcd : (n == ("__classdict__" : Str)) = false) (hv2 : bootBuiltins x = some (.type bn) := by decide +kernel)
  (hg : Gl X "isinstance" := by rfl) (hg2 : Gl X x := by rfl) (hn2 : x ≠ "__name__" := by decide) (hd2 : (x == ("__debug__" : Str)) = false := by decide)
  (hs : starEach [.Name n p1, .Name x p2] X.env = (false, eval (.Name n p1) X.env) :: starEach [.Name x p2] X.env := by rfl) (hs2 : starEach [.Name x p2] X.env = (false, eval (.Name x p2) X.env) :: starEach [] X.env := by rfl) (hpl : (backTo pos (starEach [.Name x p2] X.env)).any (·.1) = false := by rfl) :
  PE (X.suite a ((a, oe) :: pn)) (.Call (.Name "isinstance" p) [.Name n p1, .Name x p2] [] pos) (te X.K c false true (mIsH ξ T)) := by
 refine ⟨fun pins s σ H Q I h => ?_⟩
 obtain ⟨D, ed, hi, r⟩ := isH_imp (n := n) (ClsV.ty bn) T hca hE hz hf S hN I h
 subst ed
 obtain ⟨vs, hvs⟩ := hf
 refine (pe_callB (X := X.suite a ((a, oe) :: pn)) (call_isP (X := X.suite a ((a, oe) :: pn)) (List.mem_cons_self) hz hvs) hg hm boot_isinstance (pa_cons (pe_var (X := X.suite a ((a, oe) :: pn)) (i := i) hN hv hd hcd) (pa_cons (pe_bltn (X := X.suite a ((a, oe) :: pn)) (v := .ty bn) hg2 hm2 hv2 rfl hn2 hd2) pa_nil hs2) hs) (by decide) (by decide) hs hpl).run pins s σ H Q I ?_
 exact ⟨.ref a, hi, r⟩
end
section
variable {T : Type} [Tg T] {ρ : Env} {h : Exc → Env → T} {k : D → Env → T}
theorem rB_isH (ξ : Exc) (Ts : List (Str × Bool)) : rB (mIsH ξ Ts ρ) k h = oB (isHO ξ Ts) fun d => k d ρ := by unfold mIsH; rw [rB_ofO]
end
theorem exm_kb {K : Frag} {C : Addr} {n : String} {b : Bool} (h : PySem.W.kitOne K (.ref C) (.type n) = some b) (hb : PySem.W.subIn K (.type n) (.type "BaseException") = some true := by kernel_rfl) : PySem.W.exmOne K (.ref C) (.type n) = some b := by
 have h2 : PySem.W.kitCls K (.ref C) (.type n) = some b := by
  have h : (if (Value.ref C == Value.type n) = true then some true else PySem.W.kitCls K (.ref C) (.type n)) = some b := h
  rw [if_neg (by intro z; cases beq_iff_eq.mp z)] at h
  exact h
 show (if (PySem.W.subIn K (.type n) (.type "BaseException") == some true) = true then PySem.W.kitCls K (.ref C) (.type n) else none) = some b
 rw [hb]
 exact h2
theorem mkX_1 (y g : Str) (x : D) : mkXO y [g] [.d x] = some (excD y [(g, x)]) := rfl
theorem mkX_2 (y g g2 : Str) (x z : D) : mkXO y [g, g2] [.d x, .d z] = some (excD y [(g2, z), (g, x)]) := rfl
theorem mkXK_1 (y g : Str) (x : D) : mkXKO y [g] pmI [.d x] = some (excD y [(g, x)]) := rfl
theorem mkXK_2 (y g g2 : Str) (x z : D) : mkXKO y [g, g2] List.reverse [.d z, .d x] = some (excD y [(g2, z), (g, x)]) := rfl
abbrev RBVO := And.intro @rB_mkX (And.intro @rB_mkXK (And.intro @mkX_1 (And.intro @mkX_2 (And.intro @mkXK_1 (And.intro @mkXK_2 @rB_isH)))))
end DL
end
section
namespace K07
variable [DL.TheW]
open PySem PySem.Spec PyProof.Rows L2 DL
theorem sc__law_mixed : FnScope ["_law_cell", "_law_k", "_law_mixed_here"] ["_law_cell", "_law_k"] (defScope s__law_mixed) := ⟨rfl, rfl, rfl, by decide +kernel, rfl, by decide +kernel, by decide +kernel⟩
theorem sc__law_pile : FnScope ["_law_script", "_law_k", "_law_cell", "_law_digits"] ["_law_script", "_law_k"] (defScope s__law_pile) := ⟨rfl, rfl, rfl, by decide +kernel, rfl, by decide +kernel, by decide +kernel⟩
theorem sc__law_take : FnScope ["_law_pile_here", "_law_many", "_law_digit"] ["_law_pile_here", "_law_many"] (defScope s__law_take) := ⟨rfl, rfl, rfl, by decide +kernel, rfl, by decide +kernel, by decide +kernel⟩
theorem sc__law_name : FnScope ["_law_pile_here", "_law_kind", "_law_letters", "_law_word", "_law_k"] ["_law_pile_here"] (defScope s__law_name) := ⟨rfl, rfl, rfl, by decide +kernel, rfl, by decide +kernel, by decide +kernel⟩
theorem sc__law_words : FnScope ["_law_thing", "_law_found", "_law_k", "_law_one"] ["_law_thing"] (defScope s__law_words) := ⟨rfl, rfl, rfl, by decide +kernel, rfl, by decide +kernel, by decide +kernel⟩
theorem sc__law_plain : FnScope ["_law_bare", "_law_text"] [] (defScope s__law_plain) := ⟨rfl, rfl, rfl, by decide +kernel, rfl, by decide +kernel, by decide +kernel⟩
theorem sc__law_fields : FnScope ["_law_amount", "_law_called", "_law_row", "_law_by_place", "_law_by_name"] ["_law_amount", "_law_called", "_law_row"] (defScope s__law_fields) := ⟨rfl, rfl, rfl, by decide +kernel, rfl, by decide +kernel, by decide +kernel⟩
theorem sc__law_right : FnScope ["_law_some", "_law_amount", "_law_called", "_law_row"] ["_law_some", "_law_amount", "_law_called", "_law_row"] (defScope s__law_right) := ⟨rfl, rfl, rfl, by decide +kernel, rfl, by decide +kernel, by decide +kernel⟩
theorem sc__law_taken : FnScope ["_law_amount", "_law_said", "e"] ["_law_amount"] (defScope s__law_taken) := ⟨rfl, rfl, rfl, by decide +kernel, rfl, by decide +kernel, by decide +kernel⟩
theorem sc_law : FnScope ["_law_script", "_law_k", "_law_pile_here", "_law_amount", "_law_called", "_law_row", "_law_j", "_law_some", "_law_one", "_law_gone"] ["_law_script"] (defScope s_law) := ⟨rfl, rfl, rfl, by decide +kernel, rfl, by decide +kernel, by decide +kernel⟩
theorem sci_BadStep : FnScope ["self", "at"] ["self", "at"] (defScope si_BadStep) := ⟨rfl, rfl, rfl, by decide +kernel, rfl, by decide +kernel, by decide +kernel⟩
theorem sci_Clash : FnScope ["self", "lot"] ["self", "lot"] (defScope si_Clash) := ⟨rfl, rfl, rfl, by decide +kernel, rfl, by decide +kernel, by decide +kernel⟩
theorem sci_Missing : FnScope ["self", "number"] ["self", "number"] (defScope si_Missing) := ⟨rfl, rfl, rfl, by decide +kernel, rfl, by decide +kernel, by decide +kernel⟩
theorem sci_NoPlace : FnScope ["self", "place"] ["self", "place"] (defScope si_NoPlace) := ⟨rfl, rfl, rfl, by decide +kernel, rfl, by decide +kernel, by decide +kernel⟩
theorem sci_NoText : FnScope ["self", "at"] ["self", "at"] (defScope si_NoText) := ⟨rfl, rfl, rfl, by decide +kernel, rfl, by decide +kernel, by decide +kernel⟩
theorem sci_NotClosed : FnScope ["self", "name", "hole"] ["self", "name", "hole"] (defScope si_NotClosed) := ⟨rfl, rfl, rfl, by decide +kernel, rfl, by decide +kernel, by decide +kernel⟩
theorem sci_NotGood : FnScope ["self", "verdict"] ["self", "verdict"] (defScope si_NotGood) := ⟨rfl, rfl, rfl, by decide +kernel, rfl, by decide +kernel, by decide +kernel⟩
theorem sci_TooLong : FnScope ["self", "most"] ["self", "most"] (defScope si_TooLong) := ⟨rfl, rfl, rfl, by decide +kernel, rfl, by decide +kernel, by decide +kernel⟩
noncomputable def m__law_mixed : M Fl := (sSeq (sSet 2 (mBin modD (mBin addD (mBin addD (mBin mulKD (mVar 0) (mC (.int 48271))) (mBin mulKD (mVar 1) (mC (.int 69621)))) (mC (.int 11))) (mC (.int 2147483629)))) (sSeq (sSet 2 (mBin modD (mBin mulD (mVar 2) (mVar 2)) (mC (.int 2147483587)))) (sRet (mD (mBin divD (mBin modD (mBin mulD (mVar 2) (mVar 2)) (mC (.int 2147483549))) (mC (.int 64)))))))
noncomputable def f__law_mixed : Fn := fnOf 3 2 [] m__law_mixed
theorem eq__law_mixed (x0 : D) (x1 : D) : f__law_mixed [.d x0, .d x1] =
 oB (mulKD x0 (.int 48271)) fun v1 =>
 oB (mulKD x1 (.int 69621)) fun v2 =>
 oB (addD v1 v2) fun v3 =>
 oB (addD v3 (.int 11)) fun v4 =>
 oB (modD v4 (.int 2147483629)) fun v5 =>
 oB (mulD v5 v5) fun v6 =>
 oB (modD v6 (.int 2147483587)) fun v7 =>
 oB (mulD v7 v7) fun v8 =>
 oB (modD v8 (.int 2147483549)) fun v9 =>
 oB (divD v9 (.int 64)) fun v10 =>
 .ok (.d v10) [some (.d x0), some (.d x1)] := by
 refine (fn_eq (n := 3) (np := 2) (fx := []) (os := [.d x0, .d x1]) (m := m__law_mixed) (ρ := [some (.d x0), some (.d x1), none]) rfl rfl).trans ?_
 have oe : ∀ ρ : DL.Env, outsOf [] ρ 0 [.d x0, .d x1] = [some (.d x0), some (.d x1)] := fun _ => rfl
 simp (maxSteps := 2000000) only [m__law_mixed, RB, RBY, RBU, RBW, RBZ, RBV7, RBV8, RBV9, RBVB, RBVE, RBVK, RBVL, RBVM, RBVO, pB_xS, nB_xS, Nat.reduceAdd, Nat.reduceBEq, oe]
noncomputable def g1__law_pile : M Fl := (sK [] (mIf (mB (mBin ltD (mVar 1) (mF1 lenD (mVar 0)))) (sSet 2 (mBin ixD (mVar 0) (mVar 1))) sNil))
noncomputable def m__law_pile : M Fl := (sSeq (sSet 2 (mC (.int 0))) (sSeq g1__law_pile (sSeq (sSet 3 (mBin modD (mVar 2) (mBin mulD (mBin mulD (mBin powD (mC (.int 10)) (mC (.int 60))) (mBin powD (mC (.int 10)) (mC (.int 60)))) (mBin powD (mC (.int 10)) (mC (.int 60)))))) (sRet (mLst (mCons (mBin mulD (mVar 3) (mF1 intD (mBin geD (mF1 absD (mVar 2)) (mBin powD (mC (.int 10)) (mC (.int 18)))))) (mCons (mBin modD (mVar 2) (mC (.int 2147483629))) (mCons (mBin mulD (mC (.int 131)) (mVar 1)) mNil))))))))
noncomputable def f__law_pile : Fn := fnOf 4 2 [] m__law_pile
noncomputable def h1__law_pile (a0 : D) (a1 : D) (a2 : D) : Pr D :=
 oB (lenD a0) fun v1 =>
 oB (ltD a1 v1) fun v2 =>
 oB (bO v2) fun v3 =>
 pB (if v3 = true then
 oB (ixD a0 a1) fun v4 =>
 .ok v4 else
 .ok a2) fun s5 =>
 .ok s5
theorem r1__law_pile {T : Type} [Tg T] (a0 : D) (a1 : D) (a2 : D) (u3 : Option OV) (k : Fl → DL.Env → T) : rB (g1__law_pile [some (.d a0), some (.d a1), some (.d a2), u3]) k hE = pB (h1__law_pile a0 a1 a2) fun z => k .nx [some (.d a0), some (.d a1), some (.d z), u3] := by
 simp (maxSteps := 2000000) only [g1__law_pile, h1__law_pile, RB, RBY, RBU, RBW, RBZ, RBV7, RBV8, RBV9, RBVB, RBVE, RBVK, RBVL, RBVM, RBVO, pB_xS, nB_xS, Nat.reduceAdd, Nat.reduceBEq]
theorem eq__law_pile (x0 : D) (x1 : D) : f__law_pile [.d x0, .d x1] =
 pB (h1__law_pile x0 x1 (.int 0)) fun s6 =>
 oB (powD (.int 10) (.int 60)) fun v7 =>
 oB (powD (.int 10) (.int 60)) fun v8 =>
 oB (mulD v7 v8) fun v9 =>
 oB (powD (.int 10) (.int 60)) fun v10 =>
 oB (mulD v9 v10) fun v11 =>
 oB (modD s6 v11) fun v12 =>
 oB (absD s6) fun v13 =>
 oB (powD (.int 10) (.int 18)) fun v14 =>
 oB (geD v13 v14) fun v15 =>
 oB (intD v15) fun v16 =>
 oB (mulD v12 v16) fun v17 =>
 oB (modD s6 (.int 2147483629)) fun v18 =>
 oB (mulD (.int 131) x1) fun v19 =>
 .ok (.lst [v17, v18, v19]) [some (.d x0), some (.d x1)] := by
 refine (fn_eq (n := 4) (np := 2) (fx := []) (os := [.d x0, .d x1]) (m := m__law_pile) (ρ := [some (.d x0), some (.d x1), none, none]) rfl rfl).trans ?_
 have oe : ∀ ρ : DL.Env, outsOf [] ρ 0 [.d x0, .d x1] = [some (.d x0), some (.d x1)] := fun _ => rfl
 simp (maxSteps := 2000000) only [m__law_pile, RB, RBY, RBU, RBW, RBZ, RBV7, RBV8, RBV9, RBVB, RBVE, RBVK, RBVL, RBVM, RBVO, pB_xS, nB_xS, Nat.reduceAdd, Nat.reduceBEq, r1__law_pile, oe]
noncomputable def m__law_take : M Fl := (sSeq (mIf (mB (mBin eqD (mBin ixD (mLook 0) (mC (.int 0))) (mC (.int 0)))) (sSeq (sPut 0 (mC (.int 2)) (mBin addD (mBin ixD (mLook 0) (mC (.int 2))) (mC (.int 1)))) (sRet (mD (mBin modD (mFrz (mCall f__law_mixed (gD (mBin ixD (mLook 0) (mC (.int 1))) (gD (mBin ixD (mLook 0) (mC (.int 2))) gNil)))) (mVar 1))))) sNil) (sSeq (sSet 2 (mBin modD (mBin ixD (mLook 0) (mC (.int 0))) (mVar 1))) (sSeq (sPut 0 (mC (.int 0)) (mBin divD (mBin ixD (mLook 0) (mC (.int 0))) (mVar 1))) (sRet (mD (mVar 2))))))
noncomputable def f__law_take : Fn := fnOf 3 2 [0] m__law_take
theorem eq__law_take (x0 : OV) (x1 : D) : f__law_take [x0, .d x1] =
 oB (lk (some x0)) fun v1 =>
 oB (ixD v1 (.int 0)) fun v2 =>
 oB (eqD v2 (.int 0)) fun v3 =>
 oB (bO v3) fun v4 =>
 if v4 = true then
 oB (lk (some x0)) fun v5 =>
 oB (ixD v5 (.int 2)) fun v6 =>
 oB (addD v6 (.int 1)) fun v7 =>
 oB (lO (some x0)) fun v8 =>
 oB (lO (some x0)) fun v9 =>
 oB ((iO (.int 2)).bind (ixN v9.length)) fun v10 =>
 oB (lk (some (.lst (List.set v9 v10 v7)))) fun v11 =>
 oB (ixD v11 (.int 1)) fun v12 =>
 oB (lk (some (.lst (List.set v9 v10 v7)))) fun v13 =>
 oB (ixD v13 (.int 2)) fun v14 =>
 cB (f__law_mixed [.d v12, .d v14]) fun v15 w16 =>
 oB (OV.frz v15) fun v17 =>
 oB (modD v17 x1) fun v18 =>
 .ok (.d v18) [(some (.lst (List.set v9 v10 v7))), some (.d x1)] else
 oB (lk (some x0)) fun v19 =>
 oB (ixD v19 (.int 0)) fun v20 =>
 oB (modD v20 x1) fun v21 =>
 oB (lk (some x0)) fun v22 =>
 oB (ixD v22 (.int 0)) fun v23 =>
 oB (divD v23 x1) fun v24 =>
 oB (lO (some x0)) fun v25 =>
 oB (lO (some x0)) fun v26 =>
 oB ((iO (.int 0)).bind (ixN v26.length)) fun v27 =>
 .ok (.d v21) [(some (.lst (List.set v26 v27 v24))), some (.d x1)] := by
 refine (fn_eq (n := 3) (np := 2) (fx := [0]) (os := [x0, .d x1]) (m := m__law_take) (ρ := [some x0, some (.d x1), none]) rfl rfl).trans ?_
 have oe : ∀ ρ : DL.Env, outsOf [0] ρ 0 [x0, .d x1] = [gt ρ 0, some (.d x1)] := fun _ => rfl
 simp (maxSteps := 2000000) only [m__law_take, RB, RBY, RBU, RBW, RBZ, RBV7, RBV8, RBV9, RBVB, RBVE, RBVK, RBVL, RBVM, RBVO, pB_xS, nB_xS, Nat.reduceAdd, Nat.reduceBEq, oe]
noncomputable def g1__law_name : M Fl := (sK [] (mIf (mB (mBin eqD (mVar 1) (mC (.int 1)))) (sSet 3 (mBin addD (mVar 3) (mF1 strD (mFrz (mCall f__law_take (gO 0 (gD (mC (.int 4)) gNil))))))) sNil))
noncomputable abbrev b2__law_name : M Fl := (sK [4] (sSet 3 (mBin addD (mVar 3) (mBin ixD (mBin addD (mVar 2) (mC (.str "0123456789"))) (mFrz (mCall f__law_take (gO 0 (gD (mC (.int 36)) gNil))))))))
noncomputable def g3__law_name : M Fl := (sK [4] (mIf (mB (mBin eqD (mVar 1) (mC (.int 3)))) (sKb [4] (sFor (mRange1 (mBin addD (mC (.int 1)) (mFrz (mCall f__law_take (gO 0 (gD (mC (.int 7)) gNil)))))) (tName 4) b2__law_name)) sNil))
noncomputable def m__law_name : M Fl := (sSeq (sSet 1 (mFrz (mCall f__law_take (gO 0 (gD (mC (.int 4)) gNil))))) (sSeq (sSet 2 (mC (.str "abcdefghijklmnopqrstuvwxyz"))) (sSeq (sSet 3 (mBin ixD (mVar 2) (mFrz (mCall f__law_take (gO 0 (gD (mBin ixD (mLstF (mCons (mC (.int 5)) (mCons (mC (.int 26)) mNil))) (mF1 intD (mBin gtD (mVar 1) (mC (.int 1))))) gNil)))))) (sSeq g1__law_name (sSeq g3__law_name (sRet (mD (mVar 3))))))))
noncomputable def f__law_name : Fn := fnOf 5 1 [0] m__law_name
noncomputable def h1__law_name (a0 : Option OV) (a1 : D) (a3 : D) : Pr (Option OV × D) :=
 oB (eqD a1 (.int 1)) fun v12 =>
 oB (bO v12) fun v13 =>
 pB (if v13 = true then
 oB a0 fun _ =>
 oB a0 fun v14 =>
 cB (f__law_take [v14, .d (.int 4)]) fun v15 w16 =>
 oB (OV.frz v15) fun v17 =>
 oB (strD v17) fun v18 =>
 oB (addD a3 v18) fun v19 =>
 .ok ((gt w16 0), v19) else
 .ok (a0, a3)) fun s20 =>
 .ok (s20.1, s20.2)
theorem r1__law_name {T : Type} [Tg T] (a0 : Option OV) (a1 : D) (a2 : Option OV) (a3 : D) (u4 : Option OV) (k : Fl → DL.Env → T) : rB (g1__law_name [a0, some (.d a1), a2, some (.d a3), u4]) k hE = pB (h1__law_name a0 a1 a3) fun z => k .nx [z.1, some (.d a1), a2, some (.d z.2), u4] := by
 simp (maxSteps := 2000000) only [g1__law_name, h1__law_name, RB, RBY, RBU, RBW, RBZ, RBV7, RBV8, RBV9, RBVB, RBVE, RBVK, RBVL, RBVM, RBVO, pB_xS, nB_xS, Nat.reduceAdd, Nat.reduceBEq]
noncomputable def q3__law_name (a2 : D) (x : D) (s : Option OV × D) : Pr (Option OV × D) :=
 oB (addD a2 (.str "0123456789")) fun v30 =>
 oB s.1 fun _ =>
 oB s.1 fun v31 =>
 cB (f__law_take [v31, .d (.int 36)]) fun v32 w33 =>
 oB (OV.frz v32) fun v34 =>
 oB (ixD v30 v34) fun v35 =>
 oB (addD s.2 v35) fun v36 =>
 .ok ((gt w33 0), v36)
theorem r3__law_name {T : Type} [Tg T] (c0 : Option OV) (a1 : Option OV) (a2 : D) (c3 : D) (xs : List D) (k : Fl → DL.Env → T) : rB (forGo (tName 4) b2__law_name xs [c0, a1, some (.d a2), some (.d c3), none]) k hE = pB (forS (q3__law_name a2) xs (c0, c3)) fun s => k .nx [s.1, a1, some (.d a2), some (.d s.2), none] :=
 for_rB (E := fun (s : Option OV × D) => [s.1, a1, some (.d a2), some (.d s.2), none]) (pb := (q3__law_name a2)) (fun x s => by unfold stp; simp (maxSteps := 2000000) only [b2__law_name, q3__law_name, RB, RBY, RBU, RBW, RBZ, RBV7, RBV8, RBV9, RBVB, RBVE, RBVK, RBVL, RBVM, RBVO, pB_xS, nB_xS, Nat.reduceAdd, Nat.reduceBEq, r1__law_name]) k xs (c0, c3)
noncomputable def h2__law_name (a0 : Option OV) (a1 : D) (a2 : D) (a3 : D) : Pr (Option OV × D) :=
 oB (eqD a1 (.int 3)) fun v22 =>
 oB (bO v22) fun v23 =>
 pB (if v23 = true then
 oB a0 fun _ =>
 oB a0 fun v24 =>
 cB (f__law_take [v24, .d (.int 7)]) fun v25 w26 =>
 oB (OV.frz v25) fun v27 =>
 oB (addD (.int 1) v27) fun v28 =>
 oB (range1 v28) fun v29 =>
 pB (forS (q3__law_name a2) v29 ((gt w26 0), a3)) fun s37 =>
 .ok (s37.1, s37.2) else
 .ok (a0, a3)) fun s38 =>
 .ok (s38.1, s38.2)
theorem r2__law_name {T : Type} [Tg T] (a0 : Option OV) (a1 : D) (a2 : D) (a3 : D) (u4 : Option OV) (k : Fl → DL.Env → T) : rB (g3__law_name [a0, some (.d a1), some (.d a2), some (.d a3), u4]) k hE = pB (h2__law_name a0 a1 a2 a3) fun z => k .nx [z.1, some (.d a1), some (.d a2), some (.d z.2), none] := by
 simp (maxSteps := 2000000) only [g3__law_name, h2__law_name, RB, RBY, RBU, RBW, RBZ, RBV7, RBV8, RBV9, RBVB, RBVE, RBVK, RBVL, RBVM, RBVO, pB_xS, nB_xS, Nat.reduceAdd, Nat.reduceBEq, r1__law_name, r3__law_name]
theorem eq__law_name (x0 : OV) : f__law_name [x0] =
 cB (f__law_take [x0, .d (.int 4)]) fun v1 w2 =>
 oB (OV.frz v1) fun v3 =>
 oB (gt w2 0) fun _ =>
 oB (gtD v3 (.int 1)) fun v4 =>
 oB (intD v4) fun v5 =>
 oB (ixD (.list [(.int 5), (.int 26)]) v5) fun v6 =>
 oB (gt w2 0) fun v7 =>
 cB (f__law_take [v7, .d v6]) fun v8 w9 =>
 oB (OV.frz v8) fun v10 =>
 oB (ixD (.str "abcdefghijklmnopqrstuvwxyz") v10) fun v11 =>
 pB (h1__law_name (gt w9 0) v3 v11) fun s21 =>
 pB (h2__law_name s21.1 v3 (.str "abcdefghijklmnopqrstuvwxyz") s21.2) fun s39 =>
 .ok (.d s39.2) [s39.1] := by
 refine (fn_eq (n := 5) (np := 1) (fx := [0]) (os := [x0]) (m := m__law_name) (ρ := [some x0, none, none, none, none]) rfl rfl).trans ?_
 have oe : ∀ ρ : DL.Env, outsOf [0] ρ 0 [x0] = [gt ρ 0] := fun _ => rfl
 simp (maxSteps := 2000000) only [m__law_name, RB, RBY, RBU, RBW, RBZ, RBV7, RBV8, RBV9, RBVB, RBVE, RBVK, RBVL, RBVM, RBVO, pB_xS, nB_xS, Nat.reduceAdd, Nat.reduceBEq, r1__law_name, r3__law_name, r2__law_name, oe]
noncomputable abbrev p1__law_words : M Bool := (mB (mVar 3))
noncomputable def m__law_words : M Fl := (sSeq (sSet 1 (mLstF (mCons (mF1 (isxD [("BadStep", false), ("Clash", false), ("HasHoles", false), ("Missing", false), ("NoAsk", false), ("NoFacts", false), ("NoFilling", false), ("NoLine", false), ("NoName", true), ("NoPaper", false), ("NoPlace", false), ("NoRule", false), ("NoTerm", false), ("NoText", false), ("NoTurn", false), ("NoUndo", false), ("NoWeighing", false), ("NotApart", false), ("NotClosed", false), ("NotGood", false), ("ShutError", false), ("TooLong", false)]) (mVar 0)) (mCons (mF1 (isxD [("BadStep", false), ("Clash", false), ("HasHoles", false), ("Missing", false), ("NoAsk", false), ("NoFacts", false), ("NoFilling", false), ("NoLine", false), ("NoName", false), ("NoPaper", false), ("NoPlace", false), ("NoRule", false), ("NoTerm", false), ("NoText", false), ("NoTurn", true), ("NoUndo", false), ("NoWeighing", false), ("NotApart", false), ("NotClosed", false), ("NotGood", false), ("ShutError", false), ("TooLong", false)]) (mVar 0)) (mCons (mF1 (isxD [("BadStep", false), ("Clash", false), ("HasHoles", false), ("Missing", false), ("NoAsk", false), ("NoFacts", false), ("NoFilling", false), ("NoLine", false), ("NoName", false), ("NoPaper", false), ("NoPlace", false), ("NoRule", false), ("NoTerm", true), ("NoText", false), ("NoTurn", false), ("NoUndo", false), ("NoWeighing", false), ("NotApart", false), ("NotClosed", false), ("NotGood", false), ("ShutError", false), ("TooLong", false)]) (mVar 0)) mNil))))) (sSeq (sSet 1 (mBin addD (mVar 1) (mLstF (mCons (mF1 (isxD [("BadStep", false), ("Clash", false), ("HasHoles", true), ("Missing", false), ("NoAsk", false), ("NoFacts", false), ("NoFilling", false), ("NoLine", false), ("NoName", false), ("NoPaper", false), ("NoPlace", false), ("NoRule", false), ("NoTerm", false), ("NoText", false), ("NoTurn", false), ("NoUndo", false), ("NoWeighing", false), ("NotApart", false), ("NotClosed", false), ("NotGood", false), ("ShutError", false), ("TooLong", false)]) (mVar 0)) (mCons (mF1 (isxD [("BadStep", false), ("Clash", false), ("HasHoles", false), ("Missing", false), ("NoAsk", false), ("NoFacts", false), ("NoFilling", true), ("NoLine", false), ("NoName", false), ("NoPaper", false), ("NoPlace", false), ("NoRule", false), ("NoTerm", false), ("NoText", false), ("NoTurn", false), ("NoUndo", false), ("NoWeighing", false), ("NotApart", false), ("NotClosed", false), ("NotGood", false), ("ShutError", false), ("TooLong", false)]) (mVar 0)) (mCons (mF1 (isxD [("BadStep", false), ("Clash", false), ("HasHoles", false), ("Missing", false), ("NoAsk", false), ("NoFacts", true), ("NoFilling", false), ("NoLine", false), ("NoName", false), ("NoPaper", false), ("NoPlace", false), ("NoRule", false), ("NoTerm", false), ("NoText", false), ("NoTurn", false), ("NoUndo", false), ("NoWeighing", false), ("NotApart", false), ("NotClosed", false), ("NotGood", false), ("ShutError", false), ("TooLong", false)]) (mVar 0)) mNil)))))) (sSeq (sSet 1 (mBin addD (mVar 1) (mLstF (mCons (mF1 (isxD [("BadStep", false), ("Clash", false), ("HasHoles", false), ("Missing", false), ("NoAsk", true), ("NoFacts", false), ("NoFilling", false), ("NoLine", false), ("NoName", false), ("NoPaper", false), ("NoPlace", false), ("NoRule", false), ("NoTerm", false), ("NoText", false), ("NoTurn", false), ("NoUndo", false), ("NoWeighing", false), ("NotApart", false), ("NotClosed", false), ("NotGood", false), ("ShutError", false), ("TooLong", false)]) (mVar 0)) (mCons (mF1 (isxD [("BadStep", false), ("Clash", false), ("HasHoles", false), ("Missing", false), ("NoAsk", false), ("NoFacts", false), ("NoFilling", false), ("NoLine", false), ("NoName", false), ("NoPaper", false), ("NoPlace", false), ("NoRule", false), ("NoTerm", false), ("NoText", false), ("NoTurn", false), ("NoUndo", false), ("NoWeighing", false), ("NotApart", true), ("NotClosed", false), ("NotGood", false), ("ShutError", false), ("TooLong", false)]) (mVar 0)) (mCons (mF1 (isxD [("BadStep", false), ("Clash", false), ("HasHoles", false), ("Missing", false), ("NoAsk", false), ("NoFacts", false), ("NoFilling", false), ("NoLine", false), ("NoName", false), ("NoPaper", false), ("NoPlace", false), ("NoRule", true), ("NoTerm", false), ("NoText", false), ("NoTurn", false), ("NoUndo", false), ("NoWeighing", false), ("NotApart", false), ("NotClosed", false), ("NotGood", false), ("ShutError", false), ("TooLong", false)]) (mVar 0)) mNil)))))) (sSeq (sSet 1 (mBin addD (mVar 1) (mLstF (mCons (mF1 (isxD [("BadStep", false), ("Clash", false), ("HasHoles", false), ("Missing", false), ("NoAsk", false), ("NoFacts", false), ("NoFilling", false), ("NoLine", false), ("NoName", false), ("NoPaper", false), ("NoPlace", false), ("NoRule", false), ("NoTerm", false), ("NoText", false), ("NoTurn", false), ("NoUndo", false), ("NoWeighing", true), ("NotApart", false), ("NotClosed", false), ("NotGood", false), ("ShutError", false), ("TooLong", false)]) (mVar 0)) (mCons (mF1 (isxD [("BadStep", false), ("Clash", false), ("HasHoles", false), ("Missing", false), ("NoAsk", false), ("NoFacts", false), ("NoFilling", false), ("NoLine", false), ("NoName", false), ("NoPaper", true), ("NoPlace", false), ("NoRule", false), ("NoTerm", false), ("NoText", false), ("NoTurn", false), ("NoUndo", false), ("NoWeighing", false), ("NotApart", false), ("NotClosed", false), ("NotGood", false), ("ShutError", false), ("TooLong", false)]) (mVar 0)) (mCons (mF1 (isxD [("BadStep", false), ("Clash", false), ("HasHoles", false), ("Missing", false), ("NoAsk", false), ("NoFacts", false), ("NoFilling", false), ("NoLine", true), ("NoName", false), ("NoPaper", false), ("NoPlace", false), ("NoRule", false), ("NoTerm", false), ("NoText", false), ("NoTurn", false), ("NoUndo", false), ("NoWeighing", false), ("NotApart", false), ("NotClosed", false), ("NotGood", false), ("ShutError", false), ("TooLong", false)]) (mVar 0)) mNil)))))) (sSeq (sSet 1 (mBin addD (mVar 1) (mLstF (mCons (mF1 (isxD [("BadStep", false), ("Clash", false), ("HasHoles", false), ("Missing", false), ("NoAsk", false), ("NoFacts", false), ("NoFilling", false), ("NoLine", false), ("NoName", false), ("NoPaper", false), ("NoPlace", false), ("NoRule", false), ("NoTerm", false), ("NoText", false), ("NoTurn", false), ("NoUndo", true), ("NoWeighing", false), ("NotApart", false), ("NotClosed", false), ("NotGood", false), ("ShutError", false), ("TooLong", false)]) (mVar 0)) (mCons (mF1 (isxD [("BadStep", false), ("Clash", false), ("HasHoles", false), ("Missing", false), ("NoAsk", false), ("NoFacts", false), ("NoFilling", false), ("NoLine", false), ("NoName", false), ("NoPaper", false), ("NoPlace", true), ("NoRule", false), ("NoTerm", false), ("NoText", false), ("NoTurn", false), ("NoUndo", false), ("NoWeighing", false), ("NotApart", false), ("NotClosed", false), ("NotGood", false), ("ShutError", false), ("TooLong", false)]) (mVar 0)) (mCons (mF1 (isxD [("BadStep", true), ("Clash", false), ("HasHoles", false), ("Missing", false), ("NoAsk", false), ("NoFacts", false), ("NoFilling", false), ("NoLine", false), ("NoName", false), ("NoPaper", false), ("NoPlace", false), ("NoRule", false), ("NoTerm", false), ("NoText", false), ("NoTurn", false), ("NoUndo", false), ("NoWeighing", false), ("NotApart", false), ("NotClosed", false), ("NotGood", false), ("ShutError", false), ("TooLong", false)]) (mVar 0)) mNil)))))) (sSeq (sSet 1 (mBin addD (mVar 1) (mLstF (mCons (mF1 (isxD [("BadStep", false), ("Clash", true), ("HasHoles", false), ("Missing", false), ("NoAsk", false), ("NoFacts", false), ("NoFilling", false), ("NoLine", false), ("NoName", false), ("NoPaper", false), ("NoPlace", false), ("NoRule", false), ("NoTerm", false), ("NoText", false), ("NoTurn", false), ("NoUndo", false), ("NoWeighing", false), ("NotApart", false), ("NotClosed", false), ("NotGood", false), ("ShutError", false), ("TooLong", false)]) (mVar 0)) (mCons (mF1 (isxD [("BadStep", false), ("Clash", false), ("HasHoles", false), ("Missing", false), ("NoAsk", false), ("NoFacts", false), ("NoFilling", false), ("NoLine", false), ("NoName", false), ("NoPaper", false), ("NoPlace", false), ("NoRule", false), ("NoTerm", false), ("NoText", false), ("NoTurn", false), ("NoUndo", false), ("NoWeighing", false), ("NotApart", false), ("NotClosed", true), ("NotGood", false), ("ShutError", false), ("TooLong", false)]) (mVar 0)) (mCons (mF1 (isxD [("BadStep", false), ("Clash", false), ("HasHoles", false), ("Missing", false), ("NoAsk", false), ("NoFacts", false), ("NoFilling", false), ("NoLine", false), ("NoName", false), ("NoPaper", false), ("NoPlace", false), ("NoRule", false), ("NoTerm", false), ("NoText", false), ("NoTurn", false), ("NoUndo", false), ("NoWeighing", false), ("NotApart", false), ("NotClosed", false), ("NotGood", false), ("ShutError", false), ("TooLong", true)]) (mVar 0)) mNil)))))) (sSeq (sSet 1 (mBin addD (mVar 1) (mLstF (mCons (mF1 (isxD [("BadStep", false), ("Clash", false), ("HasHoles", false), ("Missing", false), ("NoAsk", false), ("NoFacts", false), ("NoFilling", false), ("NoLine", false), ("NoName", false), ("NoPaper", false), ("NoPlace", false), ("NoRule", false), ("NoTerm", false), ("NoText", false), ("NoTurn", false), ("NoUndo", false), ("NoWeighing", false), ("NotApart", false), ("NotClosed", false), ("NotGood", true), ("ShutError", false), ("TooLong", false)]) (mVar 0)) (mCons (mF1 (isxD [("BadStep", false), ("Clash", false), ("HasHoles", false), ("Missing", false), ("NoAsk", false), ("NoFacts", false), ("NoFilling", false), ("NoLine", false), ("NoName", false), ("NoPaper", false), ("NoPlace", false), ("NoRule", false), ("NoTerm", false), ("NoText", true), ("NoTurn", false), ("NoUndo", false), ("NoWeighing", false), ("NotApart", false), ("NotClosed", false), ("NotGood", false), ("ShutError", false), ("TooLong", false)]) (mVar 0)) (mCons (mF1 (isxD [("BadStep", false), ("Clash", false), ("HasHoles", false), ("Missing", true), ("NoAsk", false), ("NoFacts", false), ("NoFilling", false), ("NoLine", false), ("NoName", false), ("NoPaper", false), ("NoPlace", false), ("NoRule", false), ("NoTerm", false), ("NoText", false), ("NoTurn", false), ("NoUndo", false), ("NoWeighing", false), ("NotApart", false), ("NotClosed", false), ("NotGood", false), ("ShutError", false), ("TooLong", false)]) (mVar 0)) mNil)))))) (sRet (mLst (mLc [2, 3] (mEnumA (mVar 1)) (tTup 2 (tsCons (tName 2) (tsCons (tName 3) tsNil))) p1__law_words (mVar 2)))))))))))
noncomputable def f__law_words : Fn := fnOf 4 1 [] m__law_words
noncomputable def c1__law_words (x : D) : Pr (Option D) :=
 oB (tupO 2 x) fun v29 =>
 oB (conO v29) fun v30 =>
 oB (conO v30.2) fun v31 =>
 oB (nilO v31.2) fun _ =>
 oB (bO v31.1) fun v32 =>
 if v32 = true then
 .ok (some v30.1) else
 .ok none
theorem r1__law_words {T : Type} [Tg T] (a0 : Option OV) (a1 : Option OV) (xs : List D) (k : List D → DL.Env → T) (h : Exc → DL.Env → T) : rB (lcGo [2, 3] (tTup 2 (tsCons (tName 2) (tsCons (tName 3) tsNil))) p1__law_words (mVar 2) xs [a0, a1, none, none]) k h = nB (lcP c1__law_words xs) fun ys => k ys [a0, a1, none, none] :=
 lc_rB (ρ := [a0, a1, none, none]) (pe := c1__law_words) (fun x => by unfold lst1; simp (maxSteps := 2000000) only [c1__law_words, p1__law_words, RB, RBY, RBU, RBW, RBZ, RBV7, RBV8, RBV9, RBVB, RBVE, RBVK, RBVL, RBVM, RBVO, pB_xS, nB_xS, Nat.reduceAdd, Nat.reduceBEq]) xs k h
theorem eq__law_words (x0 : D) : f__law_words [.d x0] =
 oB ((isxD [("BadStep", false), ("Clash", false), ("HasHoles", false), ("Missing", false), ("NoAsk", false), ("NoFacts", false), ("NoFilling", false), ("NoLine", false), ("NoName", true), ("NoPaper", false), ("NoPlace", false), ("NoRule", false), ("NoTerm", false), ("NoText", false), ("NoTurn", false), ("NoUndo", false), ("NoWeighing", false), ("NotApart", false), ("NotClosed", false), ("NotGood", false), ("ShutError", false), ("TooLong", false)]) x0) fun v1 =>
 oB ((isxD [("BadStep", false), ("Clash", false), ("HasHoles", false), ("Missing", false), ("NoAsk", false), ("NoFacts", false), ("NoFilling", false), ("NoLine", false), ("NoName", false), ("NoPaper", false), ("NoPlace", false), ("NoRule", false), ("NoTerm", false), ("NoText", false), ("NoTurn", true), ("NoUndo", false), ("NoWeighing", false), ("NotApart", false), ("NotClosed", false), ("NotGood", false), ("ShutError", false), ("TooLong", false)]) x0) fun v2 =>
 oB ((isxD [("BadStep", false), ("Clash", false), ("HasHoles", false), ("Missing", false), ("NoAsk", false), ("NoFacts", false), ("NoFilling", false), ("NoLine", false), ("NoName", false), ("NoPaper", false), ("NoPlace", false), ("NoRule", false), ("NoTerm", true), ("NoText", false), ("NoTurn", false), ("NoUndo", false), ("NoWeighing", false), ("NotApart", false), ("NotClosed", false), ("NotGood", false), ("ShutError", false), ("TooLong", false)]) x0) fun v3 =>
 oB ((isxD [("BadStep", false), ("Clash", false), ("HasHoles", true), ("Missing", false), ("NoAsk", false), ("NoFacts", false), ("NoFilling", false), ("NoLine", false), ("NoName", false), ("NoPaper", false), ("NoPlace", false), ("NoRule", false), ("NoTerm", false), ("NoText", false), ("NoTurn", false), ("NoUndo", false), ("NoWeighing", false), ("NotApart", false), ("NotClosed", false), ("NotGood", false), ("ShutError", false), ("TooLong", false)]) x0) fun v4 =>
 oB ((isxD [("BadStep", false), ("Clash", false), ("HasHoles", false), ("Missing", false), ("NoAsk", false), ("NoFacts", false), ("NoFilling", true), ("NoLine", false), ("NoName", false), ("NoPaper", false), ("NoPlace", false), ("NoRule", false), ("NoTerm", false), ("NoText", false), ("NoTurn", false), ("NoUndo", false), ("NoWeighing", false), ("NotApart", false), ("NotClosed", false), ("NotGood", false), ("ShutError", false), ("TooLong", false)]) x0) fun v5 =>
 oB ((isxD [("BadStep", false), ("Clash", false), ("HasHoles", false), ("Missing", false), ("NoAsk", false), ("NoFacts", true), ("NoFilling", false), ("NoLine", false), ("NoName", false), ("NoPaper", false), ("NoPlace", false), ("NoRule", false), ("NoTerm", false), ("NoText", false), ("NoTurn", false), ("NoUndo", false), ("NoWeighing", false), ("NotApart", false), ("NotClosed", false), ("NotGood", false), ("ShutError", false), ("TooLong", false)]) x0) fun v6 =>
 oB (addD (.list [v1, v2, v3]) (.list [v4, v5, v6])) fun v7 =>
 oB ((isxD [("BadStep", false), ("Clash", false), ("HasHoles", false), ("Missing", false), ("NoAsk", true), ("NoFacts", false), ("NoFilling", false), ("NoLine", false), ("NoName", false), ("NoPaper", false), ("NoPlace", false), ("NoRule", false), ("NoTerm", false), ("NoText", false), ("NoTurn", false), ("NoUndo", false), ("NoWeighing", false), ("NotApart", false), ("NotClosed", false), ("NotGood", false), ("ShutError", false), ("TooLong", false)]) x0) fun v8 =>
 oB ((isxD [("BadStep", false), ("Clash", false), ("HasHoles", false), ("Missing", false), ("NoAsk", false), ("NoFacts", false), ("NoFilling", false), ("NoLine", false), ("NoName", false), ("NoPaper", false), ("NoPlace", false), ("NoRule", false), ("NoTerm", false), ("NoText", false), ("NoTurn", false), ("NoUndo", false), ("NoWeighing", false), ("NotApart", true), ("NotClosed", false), ("NotGood", false), ("ShutError", false), ("TooLong", false)]) x0) fun v9 =>
 oB ((isxD [("BadStep", false), ("Clash", false), ("HasHoles", false), ("Missing", false), ("NoAsk", false), ("NoFacts", false), ("NoFilling", false), ("NoLine", false), ("NoName", false), ("NoPaper", false), ("NoPlace", false), ("NoRule", true), ("NoTerm", false), ("NoText", false), ("NoTurn", false), ("NoUndo", false), ("NoWeighing", false), ("NotApart", false), ("NotClosed", false), ("NotGood", false), ("ShutError", false), ("TooLong", false)]) x0) fun v10 =>
 oB (addD v7 (.list [v8, v9, v10])) fun v11 =>
 oB ((isxD [("BadStep", false), ("Clash", false), ("HasHoles", false), ("Missing", false), ("NoAsk", false), ("NoFacts", false), ("NoFilling", false), ("NoLine", false), ("NoName", false), ("NoPaper", false), ("NoPlace", false), ("NoRule", false), ("NoTerm", false), ("NoText", false), ("NoTurn", false), ("NoUndo", false), ("NoWeighing", true), ("NotApart", false), ("NotClosed", false), ("NotGood", false), ("ShutError", false), ("TooLong", false)]) x0) fun v12 =>
 oB ((isxD [("BadStep", false), ("Clash", false), ("HasHoles", false), ("Missing", false), ("NoAsk", false), ("NoFacts", false), ("NoFilling", false), ("NoLine", false), ("NoName", false), ("NoPaper", true), ("NoPlace", false), ("NoRule", false), ("NoTerm", false), ("NoText", false), ("NoTurn", false), ("NoUndo", false), ("NoWeighing", false), ("NotApart", false), ("NotClosed", false), ("NotGood", false), ("ShutError", false), ("TooLong", false)]) x0) fun v13 =>
 oB ((isxD [("BadStep", false), ("Clash", false), ("HasHoles", false), ("Missing", false), ("NoAsk", false), ("NoFacts", false), ("NoFilling", false), ("NoLine", true), ("NoName", false), ("NoPaper", false), ("NoPlace", false), ("NoRule", false), ("NoTerm", false), ("NoText", false), ("NoTurn", false), ("NoUndo", false), ("NoWeighing", false), ("NotApart", false), ("NotClosed", false), ("NotGood", false), ("ShutError", false), ("TooLong", false)]) x0) fun v14 =>
 oB (addD v11 (.list [v12, v13, v14])) fun v15 =>
 oB ((isxD [("BadStep", false), ("Clash", false), ("HasHoles", false), ("Missing", false), ("NoAsk", false), ("NoFacts", false), ("NoFilling", false), ("NoLine", false), ("NoName", false), ("NoPaper", false), ("NoPlace", false), ("NoRule", false), ("NoTerm", false), ("NoText", false), ("NoTurn", false), ("NoUndo", true), ("NoWeighing", false), ("NotApart", false), ("NotClosed", false), ("NotGood", false), ("ShutError", false), ("TooLong", false)]) x0) fun v16 =>
 oB ((isxD [("BadStep", false), ("Clash", false), ("HasHoles", false), ("Missing", false), ("NoAsk", false), ("NoFacts", false), ("NoFilling", false), ("NoLine", false), ("NoName", false), ("NoPaper", false), ("NoPlace", true), ("NoRule", false), ("NoTerm", false), ("NoText", false), ("NoTurn", false), ("NoUndo", false), ("NoWeighing", false), ("NotApart", false), ("NotClosed", false), ("NotGood", false), ("ShutError", false), ("TooLong", false)]) x0) fun v17 =>
 oB ((isxD [("BadStep", true), ("Clash", false), ("HasHoles", false), ("Missing", false), ("NoAsk", false), ("NoFacts", false), ("NoFilling", false), ("NoLine", false), ("NoName", false), ("NoPaper", false), ("NoPlace", false), ("NoRule", false), ("NoTerm", false), ("NoText", false), ("NoTurn", false), ("NoUndo", false), ("NoWeighing", false), ("NotApart", false), ("NotClosed", false), ("NotGood", false), ("ShutError", false), ("TooLong", false)]) x0) fun v18 =>
 oB (addD v15 (.list [v16, v17, v18])) fun v19 =>
 oB ((isxD [("BadStep", false), ("Clash", true), ("HasHoles", false), ("Missing", false), ("NoAsk", false), ("NoFacts", false), ("NoFilling", false), ("NoLine", false), ("NoName", false), ("NoPaper", false), ("NoPlace", false), ("NoRule", false), ("NoTerm", false), ("NoText", false), ("NoTurn", false), ("NoUndo", false), ("NoWeighing", false), ("NotApart", false), ("NotClosed", false), ("NotGood", false), ("ShutError", false), ("TooLong", false)]) x0) fun v20 =>
 oB ((isxD [("BadStep", false), ("Clash", false), ("HasHoles", false), ("Missing", false), ("NoAsk", false), ("NoFacts", false), ("NoFilling", false), ("NoLine", false), ("NoName", false), ("NoPaper", false), ("NoPlace", false), ("NoRule", false), ("NoTerm", false), ("NoText", false), ("NoTurn", false), ("NoUndo", false), ("NoWeighing", false), ("NotApart", false), ("NotClosed", true), ("NotGood", false), ("ShutError", false), ("TooLong", false)]) x0) fun v21 =>
 oB ((isxD [("BadStep", false), ("Clash", false), ("HasHoles", false), ("Missing", false), ("NoAsk", false), ("NoFacts", false), ("NoFilling", false), ("NoLine", false), ("NoName", false), ("NoPaper", false), ("NoPlace", false), ("NoRule", false), ("NoTerm", false), ("NoText", false), ("NoTurn", false), ("NoUndo", false), ("NoWeighing", false), ("NotApart", false), ("NotClosed", false), ("NotGood", false), ("ShutError", false), ("TooLong", true)]) x0) fun v22 =>
 oB (addD v19 (.list [v20, v21, v22])) fun v23 =>
 oB ((isxD [("BadStep", false), ("Clash", false), ("HasHoles", false), ("Missing", false), ("NoAsk", false), ("NoFacts", false), ("NoFilling", false), ("NoLine", false), ("NoName", false), ("NoPaper", false), ("NoPlace", false), ("NoRule", false), ("NoTerm", false), ("NoText", false), ("NoTurn", false), ("NoUndo", false), ("NoWeighing", false), ("NotApart", false), ("NotClosed", false), ("NotGood", true), ("ShutError", false), ("TooLong", false)]) x0) fun v24 =>
 oB ((isxD [("BadStep", false), ("Clash", false), ("HasHoles", false), ("Missing", false), ("NoAsk", false), ("NoFacts", false), ("NoFilling", false), ("NoLine", false), ("NoName", false), ("NoPaper", false), ("NoPlace", false), ("NoRule", false), ("NoTerm", false), ("NoText", true), ("NoTurn", false), ("NoUndo", false), ("NoWeighing", false), ("NotApart", false), ("NotClosed", false), ("NotGood", false), ("ShutError", false), ("TooLong", false)]) x0) fun v25 =>
 oB ((isxD [("BadStep", false), ("Clash", false), ("HasHoles", false), ("Missing", true), ("NoAsk", false), ("NoFacts", false), ("NoFilling", false), ("NoLine", false), ("NoName", false), ("NoPaper", false), ("NoPlace", false), ("NoRule", false), ("NoTerm", false), ("NoText", false), ("NoTurn", false), ("NoUndo", false), ("NoWeighing", false), ("NotApart", false), ("NotClosed", false), ("NotGood", false), ("ShutError", false), ("TooLong", false)]) x0) fun v26 =>
 oB (addD v23 (.list [v24, v25, v26])) fun v27 =>
 oB (enumA v27) fun v28 =>
 nB (lcP c1__law_words v28) fun v33 =>
 .ok (.lst v33) [some (.d x0)] := by
 refine (fn_eq (n := 4) (np := 1) (fx := []) (os := [.d x0]) (m := m__law_words) (ρ := [some (.d x0), none, none, none]) rfl rfl).trans ?_
 have oe : ∀ ρ : DL.Env, outsOf [] ρ 0 [.d x0] = [some (.d x0)] := fun _ => rfl
 simp (maxSteps := 2000000) only [m__law_words, p1__law_words, RB, RBY, RBU, RBW, RBZ, RBV7, RBV8, RBV9, RBVB, RBVE, RBVK, RBVL, RBVM, RBVO, pB_xS, nB_xS, Nat.reduceAdd, Nat.reduceBEq, r1__law_words, oe]
noncomputable def m__law_plain : M Fl := (sSeq (sSet 0 (mLstF (mCons (mC (excD "NoName" [])) (mCons (mC (excD "NoTurn" [])) (mCons (mC (excD "NoTerm" [])) (mCons (mC (excD "HasHoles" [])) (mCons (mC (excD "NoFilling" [])) (mCons (mC (excD "NoFacts" [])) (mCons (mC (excD "NoAsk" [])) (mCons (mC (excD "NotApart" [])) (mCons (mC (excD "NoRule" [])) mNil))))))))))) (sSeq (sSet 0 (mBin addD (mVar 0) (mLstF (mCons (mC (excD "NoWeighing" [])) (mCons (mC (excD "NoPaper" [])) (mCons (mC (excD "NoLine" [])) (mCons (mC (excD "NoUndo" [])) mNil))))))) (sSeq (sSet 1 (mLstF (mCons (mC (excD "NoName" [])) (mCons (mC (excD "NoTurn" [])) (mCons (mC (excD "NoTerm" [])) (mCons (mC (excD "HasHoles" [])) (mCons (mC (excD "NoFilling" [])) (mCons (mC (excD "NoFacts" [])) (mCons (mC (excD "NoAsk" [])) mNil))))))))) (sRet (mD (mTup (mCons (mVar 0) (mCons (mBin addD (mVar 1) (mLstF (mCons (mC (excD "NotApart" [])) (mCons (mC (excD "NoRule" [])) (mCons (mC (excD "NoWeighing" [])) (mCons (mC (excD "NoPaper" [])) (mCons (mC (excD "NoLine" [])) (mCons (mC (excD "NoUndo" [])) mNil)))))))) mNil))))))))
noncomputable def f__law_plain : Fn := fnOf 2 0 [] m__law_plain
theorem eq__law_plain  : f__law_plain [] =
 oB (addD (.list [(excD "NoName" []), (excD "NoTurn" []), (excD "NoTerm" []), (excD "HasHoles" []), (excD "NoFilling" []), (excD "NoFacts" []), (excD "NoAsk" []), (excD "NotApart" []), (excD "NoRule" [])]) (.list [(excD "NoWeighing" []), (excD "NoPaper" []), (excD "NoLine" []), (excD "NoUndo" [])])) fun v1 =>
 oB (addD (.list [(excD "NoName" []), (excD "NoTurn" []), (excD "NoTerm" []), (excD "HasHoles" []), (excD "NoFilling" []), (excD "NoFacts" []), (excD "NoAsk" [])]) (.list [(excD "NotApart" []), (excD "NoRule" []), (excD "NoWeighing" []), (excD "NoPaper" []), (excD "NoLine" []), (excD "NoUndo" [])])) fun v2 =>
 .ok (.d (.tuple [v1, v2])) [] := by
 refine (fn_eq (n := 2) (np := 0) (fx := []) (os := []) (m := m__law_plain) (ρ := [none, none]) rfl rfl).trans ?_
 have oe : ∀ ρ : DL.Env, outsOf [] ρ 0 [] = [] := fun _ => rfl
 simp (maxSteps := 2000000) only [m__law_plain, RB, RBY, RBU, RBW, RBZ, RBV7, RBV8, RBV9, RBVB, RBVE, RBVK, RBVL, RBVM, RBVO, pB_xS, nB_xS, Nat.reduceAdd, Nat.reduceBEq, oe]
noncomputable def m__law_fields : M Fl := (sSeq (sSet 3 (mLstF (mCons (mMkX "NoPlace" ["place"] (gD (mVar 2) gNil)) (mCons (mMkX "BadStep" ["at"] (gD (mVar 0) gNil)) (mCons (mMkX "Clash" ["lot"] (gD (mVar 2) gNil)) (mCons (mMkX "NotClosed" ["name", "hole"] (gD (mVar 1) (gD (mC .none) gNil))) (mCons (mMkX "TooLong" ["most"] (gD (mVar 0) gNil)) (mCons (mMkX "NotGood" ["verdict"] (gD (mVar 2) gNil)) mNil)))))))) (sSeq (sSet 4 (mLstF (mCons (mMkXK "NoPlace" ["place"] pmI (gD (mVar 2) gNil)) (mCons (mMkXK "BadStep" ["at"] pmI (gD (mVar 0) gNil)) (mCons (mMkXK "Clash" ["lot"] pmI (gD (mVar 2) gNil)) (mCons (mMkXK "NotClosed" ["name", "hole"] List.reverse (gD (mC .none) (gD (mVar 1) gNil))) mNil)))))) (sSeq (sSet 4 (mBin addD (mVar 4) (mLstF (mCons (mMkXK "TooLong" ["most"] pmI (gD (mVar 0) gNil)) (mCons (mMkXK "NotGood" ["verdict"] pmI (gD (mVar 2) gNil)) (mCons (mMkXK "NoText" ["at"] pmI (gD (mVar 0) gNil)) mNil)))))) (sRet (mD (mTup (mCons (mBin addD (mVar 3) (mLstF (mCons (mMkX "NoText" ["at"] (gD (mVar 0) gNil)) mNil))) (mCons (mVar 4) mNil))))))))
noncomputable def f__law_fields : Fn := fnOf 5 3 [] m__law_fields
theorem eq__law_fields (x0 : D) (x1 : D) (x2 : D) : f__law_fields [.d x0, .d x1, .d x2] =
 oB (addD (.list [(excD "NoPlace" [("place", x2)]), (excD "BadStep" [("at", x0)]), (excD "Clash" [("lot", x2)]), (excD "NotClosed" [("hole", .none), ("name", x1)])]) (.list [(excD "TooLong" [("most", x0)]), (excD "NotGood" [("verdict", x2)]), (excD "NoText" [("at", x0)])])) fun v1 =>
 oB (addD (.list [(excD "NoPlace" [("place", x2)]), (excD "BadStep" [("at", x0)]), (excD "Clash" [("lot", x2)]), (excD "NotClosed" [("hole", .none), ("name", x1)]), (excD "TooLong" [("most", x0)]), (excD "NotGood" [("verdict", x2)])]) (.list [(excD "NoText" [("at", x0)])])) fun v2 =>
 .ok (.d (.tuple [v2, v1])) [some (.d x0), some (.d x1), some (.d x2)] := by
 refine (fn_eq (n := 5) (np := 3) (fx := []) (os := [.d x0, .d x1, .d x2]) (m := m__law_fields) (ρ := [some (.d x0), some (.d x1), some (.d x2), none, none]) rfl rfl).trans ?_
 have oe : ∀ ρ : DL.Env, outsOf [] ρ 0 [.d x0, .d x1, .d x2] = [some (.d x0), some (.d x1), some (.d x2)] := fun _ => rfl
 simp (maxSteps := 2000000) only [m__law_fields, RB, RBY, RBU, RBW, RBZ, RBV7, RBV8, RBV9, RBVB, RBVE, RBVK, RBVL, RBVM, RBVO, pB_xS, nB_xS, Nat.reduceAdd, Nat.reduceBEq, oe]
noncomputable def m__law_right : M Fl := (sSeq (mIf (mB (mBin neD (mLstF (mCons (mF1 (fldxD ["NoPlace"] "place") (mBin ixD (mVar 0) (mC (.int 0)))) (mCons (mF1 (fldxD ["Clash"] "lot") (mBin ixD (mVar 0) (mC (.int 2)))) (mCons (mF1 (fldxD ["NotGood"] "verdict") (mBin ixD (mVar 0) (mC (.int 5)))) mNil)))) (mLstF (mCons (mVar 3) (mCons (mVar 3) (mCons (mVar 3) mNil)))))) (sRet (mD (mC (.bool false)))) sNil) (sRet (mD (mBin eqD (mLstF (mCons (mF1 (fldxD ["BadStep", "NoText"] "at") (mBin ixD (mVar 0) (mC (.int 1)))) (mCons (mF1 (fldxD ["NotClosed"] "name") (mBin ixD (mVar 0) (mC (.int 3)))) (mCons (mF1 (fldxD ["NotClosed"] "hole") (mBin ixD (mVar 0) (mC (.int 3)))) (mCons (mF1 (fldxD ["TooLong"] "most") (mBin ixD (mVar 0) (mC (.int 4)))) (mCons (mF1 (fldxD ["BadStep", "NoText"] "at") (mBin ixD (mVar 0) (mC (.int 6)))) mNil)))))) (mLstF (mCons (mVar 1) (mCons (mVar 2) (mCons (mC .none) (mCons (mVar 1) (mCons (mVar 1) mNil))))))))))
noncomputable def f__law_right : Fn := fnOf 4 4 [] m__law_right
theorem eq__law_right (x0 : D) (x1 : D) (x2 : D) (x3 : D) : f__law_right [.d x0, .d x1, .d x2, .d x3] =
 oB (ixD x0 (.int 0)) fun v1 =>
 oB ((fldxD ["NoPlace"] "place") v1) fun v2 =>
 oB (ixD x0 (.int 2)) fun v3 =>
 oB ((fldxD ["Clash"] "lot") v3) fun v4 =>
 oB (ixD x0 (.int 5)) fun v5 =>
 oB ((fldxD ["NotGood"] "verdict") v5) fun v6 =>
 oB (neD (.list [v2, v4, v6]) (.list [x3, x3, x3])) fun v7 =>
 oB (bO v7) fun v8 =>
 if v8 = true then
 .ok (.d (.bool false)) [some (.d x0), some (.d x1), some (.d x2), some (.d x3)] else
 oB (ixD x0 (.int 1)) fun v9 =>
 oB ((fldxD ["BadStep", "NoText"] "at") v9) fun v10 =>
 oB (ixD x0 (.int 3)) fun v11 =>
 oB ((fldxD ["NotClosed"] "name") v11) fun v12 =>
 oB (ixD x0 (.int 3)) fun v13 =>
 oB ((fldxD ["NotClosed"] "hole") v13) fun v14 =>
 oB (ixD x0 (.int 4)) fun v15 =>
 oB ((fldxD ["TooLong"] "most") v15) fun v16 =>
 oB (ixD x0 (.int 6)) fun v17 =>
 oB ((fldxD ["BadStep", "NoText"] "at") v17) fun v18 =>
 oB (eqD (.list [v10, v12, v14, v16, v18]) (.list [x1, x2, .none, x1, x1])) fun v19 =>
 .ok (.d v19) [some (.d x0), some (.d x1), some (.d x2), some (.d x3)] := by
 refine (fn_eq (n := 4) (np := 4) (fx := []) (os := [.d x0, .d x1, .d x2, .d x3]) (m := m__law_right) (ρ := [some (.d x0), some (.d x1), some (.d x2), some (.d x3)]) rfl rfl).trans ?_
 have oe : ∀ ρ : DL.Env, outsOf [] ρ 0 [.d x0, .d x1, .d x2, .d x3] = [some (.d x0), some (.d x1), some (.d x2), some (.d x3)] := fun _ => rfl
 simp (maxSteps := 2000000) only [m__law_right, RB, RBY, RBU, RBW, RBZ, RBV7, RBV8, RBV9, RBVB, RBVE, RBVK, RBVL, RBVM, RBVO, pB_xS, nB_xS, Nat.reduceAdd, Nat.reduceBEq, oe]
noncomputable def m__law_taken : M Fl := (sSeq (sSetO 1 (mLst mNil)) (sSeq (sTryX (sRaiseX "TooLong" ["most"] (gD (mVar 0) gNil)) [(hX (tabIsa [("TooLong", true)]) (some 2) fun ξ => (sDrop (mD (mLM 1 appendD (mCons (mIsH ξ [("TooLong", true)]) mNil)))))]) (sSeq (sTryX (sRaiseX "NotClosed" ["name", "hole"] (gD (mC (.str "a")) (gD (mC (.str "X")) gNil))) [(hX (tabIsa [("NotClosed", true)]) (some 2) fun ξ => (sDrop (mD (mLM 1 appendD (mCons (mAndV (mIsH ξ [("NotClosed", true)]) (mIsH ξ [("NotClosed", true)])) mNil)))))]) (sSeq (sTryX (sRaiseX "Missing" ["number"] (gD (mVar 0) gNil)) [(hX (tabIsa [("Missing", true)]) none fun ξ => (sDrop (mD (mLM 1 appendD (mCons (mC (.bool true)) mNil)))))]) (sRet (mMove 1))))))
noncomputable def f__law_taken : Fn := fnOf 3 1 [] m__law_taken
theorem eq__law_taken (x0 : D) : f__law_taken [.d x0] = .ok (.lst [.bool true, .bool true, .bool true]) [some (.d x0)] := by
 refine (fn_eq (n := 3) (np := 1) (fx := []) (os := [.d x0]) (m := m__law_taken) (ρ := [some (.d x0), none, none]) rfl rfl).trans ?_
 have oe : ∀ ρ : DL.Env, outsOf [] ρ 0 [.d x0] = [some (.d x0)] := fun _ => rfl
 simp (maxSteps := 2000000) only [m__law_taken, RB, RBY, RBU, RBW, RBZ, RBV7, RBV8, RBV9, RBVB, RBVE, RBVK, RBVL, RBVM, RBVO, pB_xS, nB_xS, Nat.reduceAdd, Nat.reduceBEq, oe]
 rfl
noncomputable abbrev e1_law : M D := (mFrz (mCall f__law_take (gO 2 (gD (mC (.int 9)) gNil))))
noncomputable abbrev p2_law : M Bool := (mOr (mB (mBin neD (mFrz (mCall f__law_words (gD (mVar 8) gNil))) (mLstF (mCons (mVar 6) mNil)))) (mNot (mB (mF1 (isxD [("BadStep", true), ("Clash", true), ("HasHoles", true), ("Missing", false), ("NoAsk", true), ("NoFacts", true), ("NoFilling", true), ("NoLine", true), ("NoName", true), ("NoPaper", true), ("NoPlace", true), ("NoRule", true), ("NoTerm", true), ("NoText", true), ("NoTurn", true), ("NoUndo", true), ("NoWeighing", true), ("NotApart", true), ("NotClosed", true), ("NotGood", true), ("ShutError", true), ("TooLong", true)]) (mVar 8)))))
noncomputable def g3_law : M Bool := (mB (mBin neD (mLstF (mLc [6, 8] (mEnumA (mVar 7)) (tTup 2 (tsCons (tName 6) (tsCons (tName 8) tsNil))) p2_law (mVar 6))) (mLstF mNil)))
noncomputable abbrev p4_law : M Bool := (mNot (mB (mF1 (isxD [("BadStep", true), ("Clash", true), ("HasHoles", true), ("Missing", false), ("NoAsk", true), ("NoFacts", true), ("NoFilling", true), ("NoLine", true), ("NoName", true), ("NoPaper", true), ("NoPlace", true), ("NoRule", true), ("NoTerm", true), ("NoText", true), ("NoTurn", true), ("NoUndo", true), ("NoWeighing", true), ("NotApart", true), ("NotClosed", true), ("NotGood", true), ("ShutError", true), ("TooLong", true)]) (mVar 8))))
noncomputable abbrev b5_law : M Fl := (sK [6, 7, 8] (sSeq (mIf g3_law (sRet (mD (mC (.bool false)))) sNil) (mIf (mB (mBin neD (mLstF (mLc [8] (mItems (mVar 7)) (tName 8) p4_law (mVar 8))) (mLstF mNil))) (sRet (mD (mC (.bool false)))) sNil)))
noncomputable def g6_law : M Bool := (mOr (mB (mBin neD (mFrz (mCall f__law_words (gD (mVar 8) gNil))) (mLstF (mCons (mBin addD (mC (.int 13)) (mVar 6)) mNil)))) (mOr (mNot (mB (mF1 (isxD [("BadStep", true), ("Clash", true), ("HasHoles", true), ("Missing", false), ("NoAsk", true), ("NoFacts", true), ("NoFilling", true), ("NoLine", true), ("NoName", true), ("NoPaper", true), ("NoPlace", true), ("NoRule", true), ("NoTerm", true), ("NoText", true), ("NoTurn", true), ("NoUndo", true), ("NoWeighing", true), ("NotApart", true), ("NotClosed", true), ("NotGood", true), ("ShutError", true), ("TooLong", true)]) (mVar 8)))) (mNot (mB (mF1 (isxD [("BadStep", true), ("Clash", true), ("HasHoles", true), ("Missing", false), ("NoAsk", true), ("NoFacts", true), ("NoFilling", true), ("NoLine", true), ("NoName", true), ("NoPaper", true), ("NoPlace", true), ("NoRule", true), ("NoTerm", true), ("NoText", true), ("NoTurn", true), ("NoUndo", true), ("NoWeighing", true), ("NotApart", true), ("NotClosed", true), ("NotGood", true), ("ShutError", true), ("TooLong", true)]) (mVar 8))))))
noncomputable abbrev b7_law : M Fl := (sK [6, 8] (mIf g6_law (sRet (mD (mC (.bool false)))) sNil))
noncomputable abbrev b8_law : M Fl := (sK [6, 7, 8] (sSeq (mIf (mNot (mB (mFrz (mCall f__law_right (gD (mVar 7) (gD (mVar 3) (gD (mVar 4) (gD (mVar 5) gNil)))))))) (sRet (mD (mC (.bool false)))) sNil) (sKb [6, 8] (sFor (mEnumA (mVar 7)) (tTup 2 (tsCons (tName 6) (tsCons (tName 8) tsNil))) b7_law))))
noncomputable def g9_law : M Bool := (mOr (mB (mBin neD (mFrz (mCall f__law_words (gD (mVar 9) gNil))) (mLstF (mCons (mC (.int 20)) mNil)))) (mOr (mB (mBin neD (mF1 (fldxD ["Missing"] "number") (mVar 9)) (mVar 3))) (mB (mF1 (isxD [("BadStep", true), ("Clash", true), ("HasHoles", true), ("Missing", false), ("NoAsk", true), ("NoFacts", true), ("NoFilling", true), ("NoLine", true), ("NoName", true), ("NoPaper", true), ("NoPlace", true), ("NoRule", true), ("NoTerm", true), ("NoText", true), ("NoTurn", true), ("NoUndo", true), ("NoWeighing", true), ("NotApart", true), ("NotClosed", true), ("NotGood", true), ("ShutError", true), ("TooLong", true)]) (mVar 9)))))
noncomputable abbrev b10_law : M Fl := (sK [9] (mIf g9_law (sRet (mD (mC (.bool false)))) sNil))
noncomputable def g11_law : M Bool := (mOr (mB (mBin neD (mFrz (mCall f__law_taken (gD (mVar 3) gNil))) (mLstF (mCons (mC (.bool true)) (mCons (mC (.bool true)) (mCons (mC (.bool true)) mNil)))))) (mNot (mB (mF1 (isxD [("BadStep", true), ("Clash", true), ("HasHoles", true), ("Missing", false), ("NoAsk", true), ("NoFacts", true), ("NoFilling", true), ("NoLine", true), ("NoName", true), ("NoPaper", true), ("NoPlace", true), ("NoRule", true), ("NoTerm", true), ("NoText", true), ("NoTurn", true), ("NoUndo", true), ("NoWeighing", true), ("NotApart", true), ("NotClosed", true), ("NotGood", true), ("ShutError", true), ("TooLong", true)]) (mC (excD "ShutError" []))))))
noncomputable abbrev b12_law : M Fl := (sK [1, 2, 3, 4, 5, 6, 7, 8, 9] (sSeq (sSetO 2 (mCall f__law_pile (gD (mVar 0) (gD (mVar 1) gNil)))) (sSeq (sSet 3 (mBin subD (mFrz (mCall f__law_take (gO 2 (gD (mBin mulD (mC (.int 2)) (mBin powD (mC (.int 10)) (mC (.int 19)))) gNil)))) (mBin powD (mC (.int 10)) (mC (.int 19))))) (sSeq (sSet 4 (mFrz (mCall f__law_name (gO 2 gNil)))) (sSeq (sSet 5 (mF1 tupD (mLstF (mLc [6] (mRange1 (mFrz (mCall f__law_take (gO 2 (gD (mC (.int 4)) gNil))))) (tName 6) mYes e1_law)))) (sSeq (sKb [6, 7, 8] (sFor (mItems (mFrz (mCall f__law_plain gNil))) (tName 7) b5_law)) (sSeq (sKb [6, 7, 8] (sFor (mItems (mFrz (mCall f__law_fields (gD (mVar 3) (gD (mVar 4) (gD (mVar 5) gNil)))))) (tName 7) b8_law)) (sSeq (sKb [9] (sFor (mItems (mLstF (mCons (mMkX "Missing" ["number"] (gD (mVar 3) gNil)) (mCons (mMkXK "Missing" ["number"] pmI (gD (mVar 3) gNil)) mNil)))) (tName 9) b10_law)) (mIf g11_law (sRet (mD (mC (.bool false)))) sNil)))))))))
noncomputable def m_law : M Fl := (sSeq (sKb [1, 2, 3, 4, 5, 6, 7, 8, 9] (sFor (mRange1 (mC (.int 10))) (tName 1) b12_law)) (sRet (mD (mC (.bool true)))))
noncomputable def f_law : Fn := fnOf 10 1 [] m_law
noncomputable def c2_law (x : D) (s : Option OV) : Pr (Option D × Option OV) :=
 oB s fun _ =>
 oB s fun v20 =>
 cB (f__law_take [v20, .d (.int 9)]) fun v21 w22 =>
 oB (OV.frz v21) fun v23 =>
 .ok (some v23, (gt w22 0))
theorem r2_law {T : Type} [Tg T] (a0 : Option OV) (a1 : Option OV) (c2 : Option OV) (a3 : Option OV) (a4 : Option OV) (u5 : Option OV) (u7 : Option OV) (u8 : Option OV) (u9 : Option OV) (xs : List D) (k : List D → DL.Env → T) (h : Exc → DL.Env → T) : rB (lcGo [6] (tName 6) mYes e1_law xs [a0, a1, c2, a3, a4, u5, none, u7, u8, u9]) k h = nB (lcS c2_law xs c2) fun z => k z.1 [a0, a1, z.2, a3, a4, u5, none, u7, u8, u9] :=
 lc_rBS (E := fun s => [a0, a1, s, a3, a4, u5, none, u7, u8, u9]) (pe := c2_law) (fun x s => by unfold lst1; simp (maxSteps := 2000000) only [c2_law, e1_law, p2_law, p4_law, RB, RBY, RBU, RBW, RBZ, RBV7, RBV8, RBV9, RBVB, RBVE, RBVK, RBVL, RBVM, RBVO, pB_xS, nB_xS, Nat.reduceAdd, Nat.reduceBEq]) xs c2 k h
noncomputable def c5_law (x : D) : Pr (Option D) :=
 oB (tupO 2 x) fun v31 =>
 oB (conO v31) fun v32 =>
 oB (conO v32.2) fun v33 =>
 oB (nilO v33.2) fun _ =>
 cB (f__law_words [.d v33.1]) fun v34 w35 =>
 oB (OV.frz v34) fun v36 =>
 oB (neD v36 (.list [v32.1])) fun v37 =>
 oB (bO v37) fun v38 =>
 pB (if v38 = true then
 .ok true else
 oB ((isxD [("BadStep", true), ("Clash", true), ("HasHoles", true), ("Missing", false), ("NoAsk", true), ("NoFacts", true), ("NoFilling", true), ("NoLine", true), ("NoName", true), ("NoPaper", true), ("NoPlace", true), ("NoRule", true), ("NoTerm", true), ("NoText", true), ("NoTurn", true), ("NoUndo", true), ("NoWeighing", true), ("NotApart", true), ("NotClosed", true), ("NotGood", true), ("ShutError", true), ("TooLong", true)]) v33.1) fun v39 =>
 oB (bO v39) fun v40 =>
 .ok (!v40)) fun v41 =>
 if v41 = true then
 .ok (some v32.1) else
 .ok none
theorem r5_law {T : Type} [Tg T] (a0 : Option OV) (a1 : Option OV) (a2 : Option OV) (a3 : Option OV) (a4 : Option OV) (a5 : Option OV) (a7 : Option OV) (u9 : Option OV) (xs : List D) (k : List D → DL.Env → T) (h : Exc → DL.Env → T) : rB (lcGo [6, 8] (tTup 2 (tsCons (tName 6) (tsCons (tName 8) tsNil))) p2_law (mVar 6) xs [a0, a1, a2, a3, a4, a5, none, a7, none, u9]) k h = nB (lcP c5_law xs) fun ys => k ys [a0, a1, a2, a3, a4, a5, none, a7, none, u9] :=
 lc_rB (ρ := [a0, a1, a2, a3, a4, a5, none, a7, none, u9]) (pe := c5_law) (fun x => by unfold lst1; simp (maxSteps := 2000000) only [c5_law, e1_law, p2_law, p4_law, RB, RBY, RBU, RBW, RBZ, RBV7, RBV8, RBV9, RBVB, RBVE, RBVK, RBVL, RBVM, RBVO, pB_xS, nB_xS, Nat.reduceAdd, Nat.reduceBEq, r2_law]) xs k h
noncomputable def h4_law (a7 : D) : Pr Bool :=
 oB (enumA a7) fun v30 =>
 nB (lcP c5_law v30) fun v42 =>
 oB (neD (.list v42) (.list [])) fun v43 =>
 oB (bO v43) fun v44 =>
 .ok v44
theorem r4_law {T : Type} [Tg T] (a0 : Option OV) (a1 : Option OV) (a2 : Option OV) (a3 : Option OV) (a4 : Option OV) (a5 : Option OV) (a7 : D) (u9 : Option OV) (k : Bool → DL.Env → T) : rB (g3_law [a0, a1, a2, a3, a4, a5, none, some (.d a7), none, u9]) k hE = pB (h4_law a7) fun z => k z [a0, a1, a2, a3, a4, a5, none, some (.d a7), none, u9] := by
 simp (maxSteps := 2000000) only [g3_law, h4_law, e1_law, p2_law, p4_law, RB, RBY, RBU, RBW, RBZ, RBV7, RBV8, RBV9, RBVB, RBVE, RBVK, RBVL, RBVM, RBVO, pB_xS, nB_xS, Nat.reduceAdd, Nat.reduceBEq, r2_law, r5_law]
noncomputable def c6_law (x : D) : Pr (Option D) :=
 oB ((isxD [("BadStep", true), ("Clash", true), ("HasHoles", true), ("Missing", false), ("NoAsk", true), ("NoFacts", true), ("NoFilling", true), ("NoLine", true), ("NoName", true), ("NoPaper", true), ("NoPlace", true), ("NoRule", true), ("NoTerm", true), ("NoText", true), ("NoTurn", true), ("NoUndo", true), ("NoWeighing", true), ("NotApart", true), ("NotClosed", true), ("NotGood", true), ("ShutError", true), ("TooLong", true)]) x) fun v47 =>
 oB (bO v47) fun v48 =>
 if (!v48) = true then
 .ok (some x) else
 .ok none
theorem r6_law {T : Type} [Tg T] (a0 : Option OV) (a1 : Option OV) (a2 : Option OV) (a3 : Option OV) (a4 : Option OV) (a5 : Option OV) (u6 : Option OV) (a7 : Option OV) (u9 : Option OV) (xs : List D) (k : List D → DL.Env → T) (h : Exc → DL.Env → T) : rB (lcGo [8] (tName 8) p4_law (mVar 8) xs [a0, a1, a2, a3, a4, a5, u6, a7, none, u9]) k h = nB (lcP c6_law xs) fun ys => k ys [a0, a1, a2, a3, a4, a5, u6, a7, none, u9] :=
 lc_rB (ρ := [a0, a1, a2, a3, a4, a5, u6, a7, none, u9]) (pe := c6_law) (fun x => by unfold lst1; simp (maxSteps := 2000000) only [c6_law, e1_law, p2_law, p4_law, RB, RBY, RBU, RBW, RBZ, RBV7, RBV8, RBV9, RBVB, RBVE, RBVK, RBVL, RBVM, RBVO, pB_xS, nB_xS, Nat.reduceAdd, Nat.reduceBEq, r2_law, r5_law, r4_law]) xs k h
noncomputable def q3_law (x : D) (s : Unit) : Pr (Fo Unit) :=
 pB (h4_law x) fun v45 =>
 if v45 = true then
 .ok (.rt (.d (.bool false)) ()) else
 oB (itemsD x) fun v46 =>
 nB (lcP c6_law v46) fun v49 =>
 oB (neD (.list v49) (.list [])) fun v50 =>
 oB (bO v50) fun v51 =>
 if v51 = true then
 .ok (.rt (.d (.bool false)) ()) else
 .ok (.nx ())
theorem r3_law {T : Type} [Tg T] (a0 : Option OV) (a1 : Option OV) (a2 : Option OV) (a3 : Option OV) (a4 : Option OV) (a5 : Option OV) (u9 : Option OV) (xs : List D) (k : Fl → DL.Env → T) : rB (forGo (tName 7) b5_law xs [a0, a1, a2, a3, a4, a5, none, none, none, u9]) k hE = lF (forF q3_law xs ()) (fun o s => k (.rt o) [a0, a1, a2, a3, a4, a5, none, none, none, u9]) fun s => k .nx [a0, a1, a2, a3, a4, a5, none, none, none, u9] :=
 for_rBF (E := fun (s : Unit) => [a0, a1, a2, a3, a4, a5, none, none, none, u9]) (pb := q3_law) (fun x s => by unfold stp; simp (maxSteps := 2000000) only [b5_law, q3_law, e1_law, p2_law, p4_law, RB, RBY, RBU, RBW, RBZ, RBV7, RBV8, RBV9, RBVB, RBVE, RBVK, RBVL, RBVM, RBVO, pB_xS, nB_xS, Nat.reduceAdd, Nat.reduceBEq, r2_law, r5_law, r4_law, r6_law]) k xs ()
noncomputable def h9_law (a6 : D) (a8 : D) : Pr Bool :=
 cB (f__law_words [.d a8]) fun v66 w67 =>
 oB (OV.frz v66) fun v68 =>
 oB (addD (.int 13) a6) fun v69 =>
 oB (neD v68 (.list [v69])) fun v70 =>
 oB (bO v70) fun v71 =>
 pB (if v71 = true then
 .ok true else
 oB ((isxD [("BadStep", true), ("Clash", true), ("HasHoles", true), ("Missing", false), ("NoAsk", true), ("NoFacts", true), ("NoFilling", true), ("NoLine", true), ("NoName", true), ("NoPaper", true), ("NoPlace", true), ("NoRule", true), ("NoTerm", true), ("NoText", true), ("NoTurn", true), ("NoUndo", true), ("NoWeighing", true), ("NotApart", true), ("NotClosed", true), ("NotGood", true), ("ShutError", true), ("TooLong", true)]) a8) fun v72 =>
 oB (bO v72) fun v73 =>
 pB (if (!v73) = true then
 .ok true else
 oB ((isxD [("BadStep", true), ("Clash", true), ("HasHoles", true), ("Missing", false), ("NoAsk", true), ("NoFacts", true), ("NoFilling", true), ("NoLine", true), ("NoName", true), ("NoPaper", true), ("NoPlace", true), ("NoRule", true), ("NoTerm", true), ("NoText", true), ("NoTurn", true), ("NoUndo", true), ("NoWeighing", true), ("NotApart", true), ("NotClosed", true), ("NotGood", true), ("ShutError", true), ("TooLong", true)]) a8) fun v74 =>
 oB (bO v74) fun v75 =>
 .ok (!v75)) fun v76 =>
 .ok v76) fun v77 =>
 .ok v77
theorem r9_law {T : Type} [Tg T] (a0 : Option OV) (a1 : Option OV) (a2 : Option OV) (a3 : Option OV) (a4 : Option OV) (a5 : Option OV) (a6 : D) (a7 : Option OV) (a8 : D) (u9 : Option OV) (k : Bool → DL.Env → T) : rB (g6_law [a0, a1, a2, a3, a4, a5, some (.d a6), a7, some (.d a8), u9]) k hE = pB (h9_law a6 a8) fun z => k z [a0, a1, a2, a3, a4, a5, some (.d a6), a7, some (.d a8), u9] := by
 simp (maxSteps := 2000000) only [g6_law, h9_law, e1_law, p2_law, p4_law, RB, RBY, RBU, RBW, RBZ, RBV7, RBV8, RBV9, RBVB, RBVE, RBVK, RBVL, RBVM, RBVO, pB_xS, nB_xS, Nat.reduceAdd, Nat.reduceBEq, r2_law, r5_law, r4_law, r6_law, r3_law]
noncomputable def q8_law (x : D) (s : Unit) : Pr (Fo Unit) :=
 oB (tupO 2 x) fun v63 =>
 oB (conO v63) fun v64 =>
 oB (conO v64.2) fun v65 =>
 oB (nilO v65.2) fun _ =>
 pB (h9_law v64.1 v65.1) fun v78 =>
 if v78 = true then
 .ok (.rt (.d (.bool false)) ()) else
 .ok (.nx ())
theorem r8_law {T : Type} [Tg T] (a0 : Option OV) (a1 : Option OV) (a2 : Option OV) (a3 : Option OV) (a4 : Option OV) (a5 : Option OV) (a7 : Option OV) (u9 : Option OV) (xs : List D) (k : Fl → DL.Env → T) : rB (forGo (tTup 2 (tsCons (tName 6) (tsCons (tName 8) tsNil))) b7_law xs [a0, a1, a2, a3, a4, a5, none, a7, none, u9]) k hE = lF (forF q8_law xs ()) (fun o s => k (.rt o) [a0, a1, a2, a3, a4, a5, none, a7, none, u9]) fun s => k .nx [a0, a1, a2, a3, a4, a5, none, a7, none, u9] :=
 for_rBF (E := fun (s : Unit) => [a0, a1, a2, a3, a4, a5, none, a7, none, u9]) (pb := q8_law) (fun x s => by unfold stp; simp (maxSteps := 2000000) only [b7_law, q8_law, e1_law, p2_law, p4_law, RB, RBY, RBU, RBW, RBZ, RBV7, RBV8, RBV9, RBVB, RBVE, RBVK, RBVL, RBVM, RBVO, pB_xS, nB_xS, Nat.reduceAdd, Nat.reduceBEq, r2_law, r5_law, r4_law, r6_law, r3_law, r9_law]) k xs ()
noncomputable def q7_law (a3 : D) (a4 : D) (a5 : D) (x : D) (s : Unit) : Pr (Fo Unit) :=
 cB (f__law_right [.d x, .d a3, .d a4, .d a5]) fun v58 w59 =>
 oB (OV.frz v58) fun v60 =>
 oB (bO v60) fun v61 =>
 if (!v61) = true then
 .ok (.rt (.d (.bool false)) ()) else
 oB (enumA x) fun v62 =>
 lF (forF q8_law v62 ()) (fun v80 s79 => .ok (.rt v80 ())) fun s79 =>
 .ok (.nx ())
theorem r7_law {T : Type} [Tg T] (a0 : Option OV) (a1 : Option OV) (a2 : Option OV) (a3 : D) (a4 : D) (a5 : D) (u9 : Option OV) (xs : List D) (k : Fl → DL.Env → T) : rB (forGo (tName 7) b8_law xs [a0, a1, a2, some (.d a3), some (.d a4), some (.d a5), none, none, none, u9]) k hE = lF (forF (q7_law a3 a4 a5) xs ()) (fun o s => k (.rt o) [a0, a1, a2, some (.d a3), some (.d a4), some (.d a5), none, none, none, u9]) fun s => k .nx [a0, a1, a2, some (.d a3), some (.d a4), some (.d a5), none, none, none, u9] :=
 for_rBF (E := fun (s : Unit) => [a0, a1, a2, some (.d a3), some (.d a4), some (.d a5), none, none, none, u9]) (pb := (q7_law a3 a4 a5)) (fun x s => by unfold stp; simp (maxSteps := 2000000) only [b8_law, q7_law, e1_law, p2_law, p4_law, RB, RBY, RBU, RBW, RBZ, RBV7, RBV8, RBV9, RBVB, RBVE, RBVK, RBVL, RBVM, RBVO, pB_xS, nB_xS, Nat.reduceAdd, Nat.reduceBEq, r2_law, r5_law, r4_law, r6_law, r3_law, r9_law, r8_law]) k xs ()
noncomputable def h11_law (a3 : D) (a9 : D) : Pr Bool :=
 cB (f__law_words [.d a9]) fun v84 w85 =>
 oB (OV.frz v84) fun v86 =>
 oB (neD v86 (.list [(.int 20)])) fun v87 =>
 oB (bO v87) fun v88 =>
 pB (if v88 = true then
 .ok true else
 oB ((fldxD ["Missing"] "number") a9) fun v89 =>
 oB (neD v89 a3) fun v90 =>
 oB (bO v90) fun v91 =>
 pB (if v91 = true then
 .ok true else
 oB ((isxD [("BadStep", true), ("Clash", true), ("HasHoles", true), ("Missing", false), ("NoAsk", true), ("NoFacts", true), ("NoFilling", true), ("NoLine", true), ("NoName", true), ("NoPaper", true), ("NoPlace", true), ("NoRule", true), ("NoTerm", true), ("NoText", true), ("NoTurn", true), ("NoUndo", true), ("NoWeighing", true), ("NotApart", true), ("NotClosed", true), ("NotGood", true), ("ShutError", true), ("TooLong", true)]) a9) fun v92 =>
 oB (bO v92) fun v93 =>
 .ok v93) fun v94 =>
 .ok v94) fun v95 =>
 .ok v95
theorem r11_law {T : Type} [Tg T] (a0 : Option OV) (a1 : Option OV) (a2 : Option OV) (a3 : D) (a4 : Option OV) (a5 : Option OV) (u6 : Option OV) (u7 : Option OV) (u8 : Option OV) (a9 : D) (k : Bool → DL.Env → T) : rB (g9_law [a0, a1, a2, some (.d a3), a4, a5, u6, u7, u8, some (.d a9)]) k hE = pB (h11_law a3 a9) fun z => k z [a0, a1, a2, some (.d a3), a4, a5, u6, u7, u8, some (.d a9)] := by
 simp (maxSteps := 2000000) only [g9_law, h11_law, e1_law, p2_law, p4_law, RB, RBY, RBU, RBW, RBZ, RBV7, RBV8, RBV9, RBVB, RBVE, RBVK, RBVL, RBVM, RBVO, pB_xS, nB_xS, Nat.reduceAdd, Nat.reduceBEq, r2_law, r5_law, r4_law, r6_law, r3_law, r9_law, r8_law, r7_law]
noncomputable def q10_law (a3 : D) (x : D) (s : Unit) : Pr (Fo Unit) :=
 pB (h11_law a3 x) fun v96 =>
 if v96 = true then
 .ok (.rt (.d (.bool false)) ()) else
 .ok (.nx ())
theorem r10_law {T : Type} [Tg T] (a0 : Option OV) (a1 : Option OV) (a2 : Option OV) (a3 : D) (a4 : Option OV) (a5 : Option OV) (u6 : Option OV) (u7 : Option OV) (u8 : Option OV) (xs : List D) (k : Fl → DL.Env → T) : rB (forGo (tName 9) b10_law xs [a0, a1, a2, some (.d a3), a4, a5, u6, u7, u8, none]) k hE = lF (forF (q10_law a3) xs ()) (fun o s => k (.rt o) [a0, a1, a2, some (.d a3), a4, a5, u6, u7, u8, none]) fun s => k .nx [a0, a1, a2, some (.d a3), a4, a5, u6, u7, u8, none] :=
 for_rBF (E := fun (s : Unit) => [a0, a1, a2, some (.d a3), a4, a5, u6, u7, u8, none]) (pb := (q10_law a3)) (fun x s => by unfold stp; simp (maxSteps := 2000000) only [b10_law, q10_law, e1_law, p2_law, p4_law, RB, RBY, RBU, RBW, RBZ, RBV7, RBV8, RBV9, RBVB, RBVE, RBVK, RBVL, RBVM, RBVO, pB_xS, nB_xS, Nat.reduceAdd, Nat.reduceBEq, r2_law, r5_law, r4_law, r6_law, r3_law, r9_law, r8_law, r7_law, r11_law]) k xs ()
noncomputable def h12_law (a3 : D) : Pr Bool :=
 cB (f__law_taken [.d a3]) fun v99 w100 =>
 oB (OV.frz v99) fun v101 =>
 oB (neD v101 (.list [(.bool true), (.bool true), (.bool true)])) fun v102 =>
 oB (bO v102) fun v103 =>
 pB (if v103 = true then
 .ok true else
 oB ((isxD [("BadStep", true), ("Clash", true), ("HasHoles", true), ("Missing", false), ("NoAsk", true), ("NoFacts", true), ("NoFilling", true), ("NoLine", true), ("NoName", true), ("NoPaper", true), ("NoPlace", true), ("NoRule", true), ("NoTerm", true), ("NoText", true), ("NoTurn", true), ("NoUndo", true), ("NoWeighing", true), ("NotApart", true), ("NotClosed", true), ("NotGood", true), ("ShutError", true), ("TooLong", true)]) (excD "ShutError" [])) fun v104 =>
 oB (bO v104) fun v105 =>
 .ok (!v105)) fun v106 =>
 .ok v106
theorem r12_law {T : Type} [Tg T] (a0 : Option OV) (a1 : Option OV) (a2 : Option OV) (a3 : D) (a4 : Option OV) (a5 : Option OV) (u6 : Option OV) (u7 : Option OV) (u8 : Option OV) (u9 : Option OV) (k : Bool → DL.Env → T) : rB (g11_law [a0, a1, a2, some (.d a3), a4, a5, u6, u7, u8, u9]) k hE = pB (h12_law a3) fun z => k z [a0, a1, a2, some (.d a3), a4, a5, u6, u7, u8, u9] := by
 simp (maxSteps := 2000000) only [g11_law, h12_law, e1_law, p2_law, p4_law, RB, RBY, RBU, RBW, RBZ, RBV7, RBV8, RBV9, RBVB, RBVE, RBVK, RBVL, RBVM, RBVO, pB_xS, nB_xS, Nat.reduceAdd, Nat.reduceBEq, r2_law, r5_law, r4_law, r6_law, r3_law, r9_law, r8_law, r7_law, r11_law, r10_law]
noncomputable def q1_law (a0 : D) (x : D) (s : Unit) : Pr (Fo Unit) :=
 cB (f__law_pile [.d a0, .d x]) fun v2 w3 =>
 oB (powD (.int 10) (.int 19)) fun v4 =>
 oB (mulD (.int 2) v4) fun v5 =>
 cB (f__law_take [v2, .d v5]) fun v6 w7 =>
 oB (OV.frz v6) fun v8 =>
 oB (powD (.int 10) (.int 19)) fun v9 =>
 oB (subD v8 v9) fun v10 =>
 oB (gt w7 0) fun _ =>
 oB (gt w7 0) fun v11 =>
 cB (f__law_name [v11]) fun v12 w13 =>
 oB (OV.frz v12) fun v14 =>
 oB (gt w13 0) fun _ =>
 oB (gt w13 0) fun v15 =>
 cB (f__law_take [v15, .d (.int 4)]) fun v16 w17 =>
 oB (OV.frz v16) fun v18 =>
 oB (range1 v18) fun v19 =>
 nB (lcS c2_law v19 (gt w17 0)) fun v24 =>
 oB (tupD (.list v24.1)) fun v25 =>
 cB (f__law_plain []) fun v26 w27 =>
 oB (OV.frz v26) fun v28 =>
 oB (itemsD v28) fun v29 =>
 lF (forF q3_law v29 ()) (fun v53 s52 => .ok (.rt v53 ())) fun s52 =>
 cB (f__law_fields [.d v10, .d v14, .d v25]) fun v54 w55 =>
 oB (OV.frz v54) fun v56 =>
 oB (itemsD v56) fun v57 =>
 lF (forF (q7_law v10 v14 v25) v57 ()) (fun v82 s81 => .ok (.rt v82 ())) fun s81 =>
 oB (itemsD (.list [(excD "Missing" [("number", v10)]), (excD "Missing" [("number", v10)])])) fun v83 =>
 lF (forF (q10_law v10) v83 ()) (fun v98 s97 => .ok (.rt v98 ())) fun s97 =>
 pB (h12_law v10) fun v107 =>
 if v107 = true then
 .ok (.rt (.d (.bool false)) ()) else
 .ok (.nx ())
theorem r1_law {T : Type} [Tg T] (a0 : D) (xs : List D) (k : Fl → DL.Env → T) : rB (forGo (tName 1) b12_law xs [some (.d a0), none, none, none, none, none, none, none, none, none]) k hE = lF (forF (q1_law a0) xs ()) (fun o s => k (.rt o) [some (.d a0), none, none, none, none, none, none, none, none, none]) fun s => k .nx [some (.d a0), none, none, none, none, none, none, none, none, none] :=
 for_rBF (E := fun (s : Unit) => [some (.d a0), none, none, none, none, none, none, none, none, none]) (pb := (q1_law a0)) (fun x s => by unfold stp; simp (maxSteps := 2000000) only [b12_law, q1_law, e1_law, p2_law, p4_law, RB, RBY, RBU, RBW, RBZ, RBV7, RBV8, RBV9, RBVB, RBVE, RBVK, RBVL, RBVM, RBVO, pB_xS, nB_xS, Nat.reduceAdd, Nat.reduceBEq, r2_law, r5_law, r4_law, r6_law, r3_law, r9_law, r8_law, r7_law, r11_law, r10_law, r12_law]) k xs ()
theorem eq_law (x0 : D) : f_law [.d x0] =
 oB (range1 (.int 10)) fun v1 =>
 lF (forF (q1_law x0) v1 ()) (fun v109 s108 => .ok v109 [some (.d x0)]) fun s108 =>
 .ok (.d (.bool true)) [some (.d x0)] := by
 refine (fn_eq (n := 10) (np := 1) (fx := []) (os := [.d x0]) (m := m_law) (ρ := [some (.d x0), none, none, none, none, none, none, none, none, none]) rfl rfl).trans ?_
 have oe : ∀ ρ : DL.Env, outsOf [] ρ 0 [.d x0] = [some (.d x0)] := fun _ => rfl
 simp (maxSteps := 2000000) only [m_law, e1_law, p2_law, p4_law, RB, RBY, RBU, RBW, RBZ, RBV7, RBV8, RBV9, RBVB, RBVE, RBVK, RBVL, RBVM, RBVO, pB_xS, nB_xS, Nat.reduceAdd, Nat.reduceBEq, r2_law, r5_law, r4_law, r6_law, r3_law, r9_law, r8_law, r7_law, r11_law, r10_law, r12_law, r1_law, oe]
structure Wd (K : Frag) (mg : Str → Option Value) where
 b_KeyError : mg "KeyError" = none
 b_ValueError : mg "ValueError" = none
 b_abs : mg "abs" = none
 b_enumerate : mg "enumerate" = none
 b_int : mg "int" = none
 b_isinstance : mg "isinstance" = none
 b_len : mg "len" = none
 b_range : mg "range" = none
 b_str : mg "str" = none
 b_tuple : mg "tuple" = none
 n_BadStep : mg "BadStep" = some (.ref (He.ga K "BadStep"))
 n_Clash : mg "Clash" = some (.ref (He.ga K "Clash"))
 n_HasHoles : mg "HasHoles" = some (.ref (He.ga K "HasHoles"))
 n_Missing : mg "Missing" = some (.ref (He.ga K "Missing"))
 n_NoAsk : mg "NoAsk" = some (.ref (He.ga K "NoAsk"))
 n_NoFacts : mg "NoFacts" = some (.ref (He.ga K "NoFacts"))
 n_NoFilling : mg "NoFilling" = some (.ref (He.ga K "NoFilling"))
 n_NoLine : mg "NoLine" = some (.ref (He.ga K "NoLine"))
 n_NoName : mg "NoName" = some (.ref (He.ga K "NoName"))
 n_NoPaper : mg "NoPaper" = some (.ref (He.ga K "NoPaper"))
 n_NoPlace : mg "NoPlace" = some (.ref (He.ga K "NoPlace"))
 n_NoRule : mg "NoRule" = some (.ref (He.ga K "NoRule"))
 n_NoTerm : mg "NoTerm" = some (.ref (He.ga K "NoTerm"))
 n_NoText : mg "NoText" = some (.ref (He.ga K "NoText"))
 n_NoTurn : mg "NoTurn" = some (.ref (He.ga K "NoTurn"))
 n_NoUndo : mg "NoUndo" = some (.ref (He.ga K "NoUndo"))
 n_NoWeighing : mg "NoWeighing" = some (.ref (He.ga K "NoWeighing"))
 n_NotApart : mg "NotApart" = some (.ref (He.ga K "NotApart"))
 n_NotClosed : mg "NotClosed" = some (.ref (He.ga K "NotClosed"))
 n_NotGood : mg "NotGood" = some (.ref (He.ga K "NotGood"))
 n_ShutError : mg "ShutError" = some (.ref (He.ga K "ShutError"))
 n_TooLong : mg "TooLong" = some (.ref (He.ga K "TooLong"))
 x_HasHoles : PySem.W.excIn K (He.ga K "HasHoles") [.type "ValueError", .type "Exception", .type "BaseException", .type "object"] "ValueError.__new__" = true ∧ PySem.W.keepIn K (.ref (He.ga K "HasHoles")) = true ∧ PySem.W.subIn K (.ref (He.ga K "HasHoles")) (.type "BaseException") = some true ∧ PySem.W.typeIn K (.ref (He.ga K "HasHoles")) = some (.type "type")
 x_NoAsk : PySem.W.excIn K (He.ga K "NoAsk") [.type "ValueError", .type "Exception", .type "BaseException", .type "object"] "ValueError.__new__" = true ∧ PySem.W.keepIn K (.ref (He.ga K "NoAsk")) = true ∧ PySem.W.subIn K (.ref (He.ga K "NoAsk")) (.type "BaseException") = some true ∧ PySem.W.typeIn K (.ref (He.ga K "NoAsk")) = some (.type "type")
 x_NoFacts : PySem.W.excIn K (He.ga K "NoFacts") [.type "ValueError", .type "Exception", .type "BaseException", .type "object"] "ValueError.__new__" = true ∧ PySem.W.keepIn K (.ref (He.ga K "NoFacts")) = true ∧ PySem.W.subIn K (.ref (He.ga K "NoFacts")) (.type "BaseException") = some true ∧ PySem.W.typeIn K (.ref (He.ga K "NoFacts")) = some (.type "type")
 x_NoFilling : PySem.W.excIn K (He.ga K "NoFilling") [.type "ValueError", .type "Exception", .type "BaseException", .type "object"] "ValueError.__new__" = true ∧ PySem.W.keepIn K (.ref (He.ga K "NoFilling")) = true ∧ PySem.W.subIn K (.ref (He.ga K "NoFilling")) (.type "BaseException") = some true ∧ PySem.W.typeIn K (.ref (He.ga K "NoFilling")) = some (.type "type")
 x_NoLine : PySem.W.excIn K (He.ga K "NoLine") [.type "ValueError", .type "Exception", .type "BaseException", .type "object"] "ValueError.__new__" = true ∧ PySem.W.keepIn K (.ref (He.ga K "NoLine")) = true ∧ PySem.W.subIn K (.ref (He.ga K "NoLine")) (.type "BaseException") = some true ∧ PySem.W.typeIn K (.ref (He.ga K "NoLine")) = some (.type "type")
 x_NoName : PySem.W.excIn K (He.ga K "NoName") [.type "ValueError", .type "Exception", .type "BaseException", .type "object"] "ValueError.__new__" = true ∧ PySem.W.keepIn K (.ref (He.ga K "NoName")) = true ∧ PySem.W.subIn K (.ref (He.ga K "NoName")) (.type "BaseException") = some true ∧ PySem.W.typeIn K (.ref (He.ga K "NoName")) = some (.type "type")
 x_NoPaper : PySem.W.excIn K (He.ga K "NoPaper") [.type "ValueError", .type "Exception", .type "BaseException", .type "object"] "ValueError.__new__" = true ∧ PySem.W.keepIn K (.ref (He.ga K "NoPaper")) = true ∧ PySem.W.subIn K (.ref (He.ga K "NoPaper")) (.type "BaseException") = some true ∧ PySem.W.typeIn K (.ref (He.ga K "NoPaper")) = some (.type "type")
 x_NoRule : PySem.W.excIn K (He.ga K "NoRule") [.type "ValueError", .type "Exception", .type "BaseException", .type "object"] "ValueError.__new__" = true ∧ PySem.W.keepIn K (.ref (He.ga K "NoRule")) = true ∧ PySem.W.subIn K (.ref (He.ga K "NoRule")) (.type "BaseException") = some true ∧ PySem.W.typeIn K (.ref (He.ga K "NoRule")) = some (.type "type")
 x_NoTerm : PySem.W.excIn K (He.ga K "NoTerm") [.type "ValueError", .type "Exception", .type "BaseException", .type "object"] "ValueError.__new__" = true ∧ PySem.W.keepIn K (.ref (He.ga K "NoTerm")) = true ∧ PySem.W.subIn K (.ref (He.ga K "NoTerm")) (.type "BaseException") = some true ∧ PySem.W.typeIn K (.ref (He.ga K "NoTerm")) = some (.type "type")
 x_NoTurn : PySem.W.excIn K (He.ga K "NoTurn") [.type "ValueError", .type "Exception", .type "BaseException", .type "object"] "ValueError.__new__" = true ∧ PySem.W.keepIn K (.ref (He.ga K "NoTurn")) = true ∧ PySem.W.subIn K (.ref (He.ga K "NoTurn")) (.type "BaseException") = some true ∧ PySem.W.typeIn K (.ref (He.ga K "NoTurn")) = some (.type "type")
 x_NoUndo : PySem.W.excIn K (He.ga K "NoUndo") [.type "ValueError", .type "Exception", .type "BaseException", .type "object"] "ValueError.__new__" = true ∧ PySem.W.keepIn K (.ref (He.ga K "NoUndo")) = true ∧ PySem.W.subIn K (.ref (He.ga K "NoUndo")) (.type "BaseException") = some true ∧ PySem.W.typeIn K (.ref (He.ga K "NoUndo")) = some (.type "type")
 x_NoWeighing : PySem.W.excIn K (He.ga K "NoWeighing") [.type "ValueError", .type "Exception", .type "BaseException", .type "object"] "ValueError.__new__" = true ∧ PySem.W.keepIn K (.ref (He.ga K "NoWeighing")) = true ∧ PySem.W.subIn K (.ref (He.ga K "NoWeighing")) (.type "BaseException") = some true ∧ PySem.W.typeIn K (.ref (He.ga K "NoWeighing")) = some (.type "type")
 x_NotApart : PySem.W.excIn K (He.ga K "NotApart") [.type "ValueError", .type "Exception", .type "BaseException", .type "object"] "ValueError.__new__" = true ∧ PySem.W.keepIn K (.ref (He.ga K "NotApart")) = true ∧ PySem.W.subIn K (.ref (He.ga K "NotApart")) (.type "BaseException") = some true ∧ PySem.W.typeIn K (.ref (He.ga K "NotApart")) = some (.type "type")
 x_ShutError : PySem.W.excIn K (He.ga K "ShutError") [.type "ValueError", .type "Exception", .type "BaseException", .type "object"] "ValueError.__new__" = true ∧ PySem.W.keepIn K (.ref (He.ga K "ShutError")) = true ∧ PySem.W.subIn K (.ref (He.ga K "ShutError")) (.type "BaseException") = some true ∧ PySem.W.typeIn K (.ref (He.ga K "ShutError")) = some (.type "type")
 e_NotClosed_ShutError : PySem.W.exmOne K (.ref (He.ga K "NotClosed")) (.ref (He.ga K "ShutError")) = some true
 e_TooLong_ShutError : PySem.W.exmOne K (.ref (He.ga K "TooLong")) (.ref (He.ga K "ShutError")) = some true
 na_BadStep_at : PySem.W.findIn K (.ref (He.ga K "BadStep")) "at" = some none
 na_Clash_lot : PySem.W.findIn K (.ref (He.ga K "Clash")) "lot" = some none
 na_Missing_number : PySem.W.findIn K (.ref (He.ga K "Missing")) "number" = some none
 na_NoPlace_place : PySem.W.findIn K (.ref (He.ga K "NoPlace")) "place" = some none
 na_NoText_at : PySem.W.findIn K (.ref (He.ga K "NoText")) "at" = some none
 na_NotClosed_hole : PySem.W.findIn K (.ref (He.ga K "NotClosed")) "hole" = some none
 na_NotClosed_name : PySem.W.findIn K (.ref (He.ga K "NotClosed")) "name" = some none
 na_NotGood_verdict : PySem.W.findIn K (.ref (He.ga K "NotGood")) "verdict" = some none
 na_TooLong_most : PySem.W.findIn K (.ref (He.ga K "TooLong")) "most" = some none
 B_ShutError : XbC K (He.ga K "ShutError")
 xf_BadStep : XfC K (He.ga K "BadStep")
 xf_Clash : XfC K (He.ga K "Clash")
 xf_Missing : XfC K (He.ga K "Missing")
 xf_NoPlace : XfC K (He.ga K "NoPlace")
 xf_NoText : XfC K (He.ga K "NoText")
 xf_NotClosed : XfC K (He.ga K "NotClosed")
 xf_NotGood : XfC K (He.ga K "NotGood")
 xf_TooLong : XfC K (He.ga K "TooLong")
 xk_BadStep : EcK K (He.ga K "BadStep")
 xk_Clash : EcK K (He.ga K "Clash")
 xk_HasHoles : EcK K (He.ga K "HasHoles")
 xk_Missing : EcK K (He.ga K "Missing")
 xk_NoAsk : EcK K (He.ga K "NoAsk")
 xk_NoFacts : EcK K (He.ga K "NoFacts")
 xk_NoFilling : EcK K (He.ga K "NoFilling")
 xk_NoLine : EcK K (He.ga K "NoLine")
 xk_NoName : EcK K (He.ga K "NoName")
 xk_NoPaper : EcK K (He.ga K "NoPaper")
 xk_NoPlace : EcK K (He.ga K "NoPlace")
 xk_NoRule : EcK K (He.ga K "NoRule")
 xk_NoTerm : EcK K (He.ga K "NoTerm")
 xk_NoText : EcK K (He.ga K "NoText")
 xk_NoTurn : EcK K (He.ga K "NoTurn")
 xk_NoUndo : EcK K (He.ga K "NoUndo")
 xk_NoWeighing : EcK K (He.ga K "NoWeighing")
 xk_NotApart : EcK K (He.ga K "NotApart")
 xk_NotClosed : EcK K (He.ga K "NotClosed")
 xk_NotGood : EcK K (He.ga K "NotGood")
 xk_ShutError : EcK K (He.ga K "ShutError")
 xk_TooLong : EcK K (He.ga K "TooLong")
 ki_BadStep_BadStep : PySem.W.kitOne K (.ref (He.ga K "BadStep")) (.ref (He.ga K "BadStep")) = some true
 ki_BadStep_Clash : PySem.W.kitOne K (.ref (He.ga K "BadStep")) (.ref (He.ga K "Clash")) = some false
 ki_BadStep_HasHoles : PySem.W.kitOne K (.ref (He.ga K "BadStep")) (.ref (He.ga K "HasHoles")) = some false
 ki_BadStep_Missing : PySem.W.kitOne K (.ref (He.ga K "BadStep")) (.ref (He.ga K "Missing")) = some false
 ki_BadStep_NoAsk : PySem.W.kitOne K (.ref (He.ga K "BadStep")) (.ref (He.ga K "NoAsk")) = some false
 ki_BadStep_NoFacts : PySem.W.kitOne K (.ref (He.ga K "BadStep")) (.ref (He.ga K "NoFacts")) = some false
 ki_BadStep_NoFilling : PySem.W.kitOne K (.ref (He.ga K "BadStep")) (.ref (He.ga K "NoFilling")) = some false
 ki_BadStep_NoLine : PySem.W.kitOne K (.ref (He.ga K "BadStep")) (.ref (He.ga K "NoLine")) = some false
 ki_BadStep_NoName : PySem.W.kitOne K (.ref (He.ga K "BadStep")) (.ref (He.ga K "NoName")) = some false
 ki_BadStep_NoPaper : PySem.W.kitOne K (.ref (He.ga K "BadStep")) (.ref (He.ga K "NoPaper")) = some false
 ki_BadStep_NoPlace : PySem.W.kitOne K (.ref (He.ga K "BadStep")) (.ref (He.ga K "NoPlace")) = some false
 ki_BadStep_NoRule : PySem.W.kitOne K (.ref (He.ga K "BadStep")) (.ref (He.ga K "NoRule")) = some false
 ki_BadStep_NoTerm : PySem.W.kitOne K (.ref (He.ga K "BadStep")) (.ref (He.ga K "NoTerm")) = some false
 ki_BadStep_NoText : PySem.W.kitOne K (.ref (He.ga K "BadStep")) (.ref (He.ga K "NoText")) = some false
 ki_BadStep_NoTurn : PySem.W.kitOne K (.ref (He.ga K "BadStep")) (.ref (He.ga K "NoTurn")) = some false
 ki_BadStep_NoUndo : PySem.W.kitOne K (.ref (He.ga K "BadStep")) (.ref (He.ga K "NoUndo")) = some false
 ki_BadStep_NoWeighing : PySem.W.kitOne K (.ref (He.ga K "BadStep")) (.ref (He.ga K "NoWeighing")) = some false
 ki_BadStep_NotApart : PySem.W.kitOne K (.ref (He.ga K "BadStep")) (.ref (He.ga K "NotApart")) = some false
 ki_BadStep_NotClosed : PySem.W.kitOne K (.ref (He.ga K "BadStep")) (.ref (He.ga K "NotClosed")) = some false
 ki_BadStep_NotGood : PySem.W.kitOne K (.ref (He.ga K "BadStep")) (.ref (He.ga K "NotGood")) = some false
 ki_BadStep_ShutError : PySem.W.kitOne K (.ref (He.ga K "BadStep")) (.ref (He.ga K "ShutError")) = some true
 ki_BadStep_TooLong : PySem.W.kitOne K (.ref (He.ga K "BadStep")) (.ref (He.ga K "TooLong")) = some false
 ki_Clash_BadStep : PySem.W.kitOne K (.ref (He.ga K "Clash")) (.ref (He.ga K "BadStep")) = some false
 ki_Clash_Clash : PySem.W.kitOne K (.ref (He.ga K "Clash")) (.ref (He.ga K "Clash")) = some true
 ki_Clash_HasHoles : PySem.W.kitOne K (.ref (He.ga K "Clash")) (.ref (He.ga K "HasHoles")) = some false
 ki_Clash_Missing : PySem.W.kitOne K (.ref (He.ga K "Clash")) (.ref (He.ga K "Missing")) = some false
 ki_Clash_NoAsk : PySem.W.kitOne K (.ref (He.ga K "Clash")) (.ref (He.ga K "NoAsk")) = some false
 ki_Clash_NoFacts : PySem.W.kitOne K (.ref (He.ga K "Clash")) (.ref (He.ga K "NoFacts")) = some false
 ki_Clash_NoFilling : PySem.W.kitOne K (.ref (He.ga K "Clash")) (.ref (He.ga K "NoFilling")) = some false
 ki_Clash_NoLine : PySem.W.kitOne K (.ref (He.ga K "Clash")) (.ref (He.ga K "NoLine")) = some false
 ki_Clash_NoName : PySem.W.kitOne K (.ref (He.ga K "Clash")) (.ref (He.ga K "NoName")) = some false
 ki_Clash_NoPaper : PySem.W.kitOne K (.ref (He.ga K "Clash")) (.ref (He.ga K "NoPaper")) = some false
 ki_Clash_NoPlace : PySem.W.kitOne K (.ref (He.ga K "Clash")) (.ref (He.ga K "NoPlace")) = some false
 ki_Clash_NoRule : PySem.W.kitOne K (.ref (He.ga K "Clash")) (.ref (He.ga K "NoRule")) = some false
 ki_Clash_NoTerm : PySem.W.kitOne K (.ref (He.ga K "Clash")) (.ref (He.ga K "NoTerm")) = some false
 ki_Clash_NoText : PySem.W.kitOne K (.ref (He.ga K "Clash")) (.ref (He.ga K "NoText")) = some false
 ki_Clash_NoTurn : PySem.W.kitOne K (.ref (He.ga K "Clash")) (.ref (He.ga K "NoTurn")) = some false
 ki_Clash_NoUndo : PySem.W.kitOne K (.ref (He.ga K "Clash")) (.ref (He.ga K "NoUndo")) = some false
 ki_Clash_NoWeighing : PySem.W.kitOne K (.ref (He.ga K "Clash")) (.ref (He.ga K "NoWeighing")) = some false
 ki_Clash_NotApart : PySem.W.kitOne K (.ref (He.ga K "Clash")) (.ref (He.ga K "NotApart")) = some false
 ki_Clash_NotClosed : PySem.W.kitOne K (.ref (He.ga K "Clash")) (.ref (He.ga K "NotClosed")) = some false
 ki_Clash_NotGood : PySem.W.kitOne K (.ref (He.ga K "Clash")) (.ref (He.ga K "NotGood")) = some false
 ki_Clash_ShutError : PySem.W.kitOne K (.ref (He.ga K "Clash")) (.ref (He.ga K "ShutError")) = some true
 ki_Clash_TooLong : PySem.W.kitOne K (.ref (He.ga K "Clash")) (.ref (He.ga K "TooLong")) = some false
 ki_HasHoles_BadStep : PySem.W.kitOne K (.ref (He.ga K "HasHoles")) (.ref (He.ga K "BadStep")) = some false
 ki_HasHoles_Clash : PySem.W.kitOne K (.ref (He.ga K "HasHoles")) (.ref (He.ga K "Clash")) = some false
 ki_HasHoles_HasHoles : PySem.W.kitOne K (.ref (He.ga K "HasHoles")) (.ref (He.ga K "HasHoles")) = some true
 ki_HasHoles_Missing : PySem.W.kitOne K (.ref (He.ga K "HasHoles")) (.ref (He.ga K "Missing")) = some false
 ki_HasHoles_NoAsk : PySem.W.kitOne K (.ref (He.ga K "HasHoles")) (.ref (He.ga K "NoAsk")) = some false
 ki_HasHoles_NoFacts : PySem.W.kitOne K (.ref (He.ga K "HasHoles")) (.ref (He.ga K "NoFacts")) = some false
 ki_HasHoles_NoFilling : PySem.W.kitOne K (.ref (He.ga K "HasHoles")) (.ref (He.ga K "NoFilling")) = some false
 ki_HasHoles_NoLine : PySem.W.kitOne K (.ref (He.ga K "HasHoles")) (.ref (He.ga K "NoLine")) = some false
 ki_HasHoles_NoName : PySem.W.kitOne K (.ref (He.ga K "HasHoles")) (.ref (He.ga K "NoName")) = some false
 ki_HasHoles_NoPaper : PySem.W.kitOne K (.ref (He.ga K "HasHoles")) (.ref (He.ga K "NoPaper")) = some false
 ki_HasHoles_NoPlace : PySem.W.kitOne K (.ref (He.ga K "HasHoles")) (.ref (He.ga K "NoPlace")) = some false
 ki_HasHoles_NoRule : PySem.W.kitOne K (.ref (He.ga K "HasHoles")) (.ref (He.ga K "NoRule")) = some false
 ki_HasHoles_NoTerm : PySem.W.kitOne K (.ref (He.ga K "HasHoles")) (.ref (He.ga K "NoTerm")) = some false
 ki_HasHoles_NoText : PySem.W.kitOne K (.ref (He.ga K "HasHoles")) (.ref (He.ga K "NoText")) = some false
 ki_HasHoles_NoTurn : PySem.W.kitOne K (.ref (He.ga K "HasHoles")) (.ref (He.ga K "NoTurn")) = some false
 ki_HasHoles_NoUndo : PySem.W.kitOne K (.ref (He.ga K "HasHoles")) (.ref (He.ga K "NoUndo")) = some false
 ki_HasHoles_NoWeighing : PySem.W.kitOne K (.ref (He.ga K "HasHoles")) (.ref (He.ga K "NoWeighing")) = some false
 ki_HasHoles_NotApart : PySem.W.kitOne K (.ref (He.ga K "HasHoles")) (.ref (He.ga K "NotApart")) = some false
 ki_HasHoles_NotClosed : PySem.W.kitOne K (.ref (He.ga K "HasHoles")) (.ref (He.ga K "NotClosed")) = some false
 ki_HasHoles_NotGood : PySem.W.kitOne K (.ref (He.ga K "HasHoles")) (.ref (He.ga K "NotGood")) = some false
 ki_HasHoles_ShutError : PySem.W.kitOne K (.ref (He.ga K "HasHoles")) (.ref (He.ga K "ShutError")) = some true
 ki_HasHoles_TooLong : PySem.W.kitOne K (.ref (He.ga K "HasHoles")) (.ref (He.ga K "TooLong")) = some false
 ki_Missing_BadStep : PySem.W.kitOne K (.ref (He.ga K "Missing")) (.ref (He.ga K "BadStep")) = some false
 ki_Missing_Clash : PySem.W.kitOne K (.ref (He.ga K "Missing")) (.ref (He.ga K "Clash")) = some false
 ki_Missing_HasHoles : PySem.W.kitOne K (.ref (He.ga K "Missing")) (.ref (He.ga K "HasHoles")) = some false
 ki_Missing_Missing : PySem.W.kitOne K (.ref (He.ga K "Missing")) (.ref (He.ga K "Missing")) = some true
 ki_Missing_NoAsk : PySem.W.kitOne K (.ref (He.ga K "Missing")) (.ref (He.ga K "NoAsk")) = some false
 ki_Missing_NoFacts : PySem.W.kitOne K (.ref (He.ga K "Missing")) (.ref (He.ga K "NoFacts")) = some false
 ki_Missing_NoFilling : PySem.W.kitOne K (.ref (He.ga K "Missing")) (.ref (He.ga K "NoFilling")) = some false
 ki_Missing_NoLine : PySem.W.kitOne K (.ref (He.ga K "Missing")) (.ref (He.ga K "NoLine")) = some false
 ki_Missing_NoName : PySem.W.kitOne K (.ref (He.ga K "Missing")) (.ref (He.ga K "NoName")) = some false
 ki_Missing_NoPaper : PySem.W.kitOne K (.ref (He.ga K "Missing")) (.ref (He.ga K "NoPaper")) = some false
 ki_Missing_NoPlace : PySem.W.kitOne K (.ref (He.ga K "Missing")) (.ref (He.ga K "NoPlace")) = some false
 ki_Missing_NoRule : PySem.W.kitOne K (.ref (He.ga K "Missing")) (.ref (He.ga K "NoRule")) = some false
 ki_Missing_NoTerm : PySem.W.kitOne K (.ref (He.ga K "Missing")) (.ref (He.ga K "NoTerm")) = some false
 ki_Missing_NoText : PySem.W.kitOne K (.ref (He.ga K "Missing")) (.ref (He.ga K "NoText")) = some false
 ki_Missing_NoTurn : PySem.W.kitOne K (.ref (He.ga K "Missing")) (.ref (He.ga K "NoTurn")) = some false
 ki_Missing_NoUndo : PySem.W.kitOne K (.ref (He.ga K "Missing")) (.ref (He.ga K "NoUndo")) = some false
 ki_Missing_NoWeighing : PySem.W.kitOne K (.ref (He.ga K "Missing")) (.ref (He.ga K "NoWeighing")) = some false
 ki_Missing_NotApart : PySem.W.kitOne K (.ref (He.ga K "Missing")) (.ref (He.ga K "NotApart")) = some false
 ki_Missing_NotClosed : PySem.W.kitOne K (.ref (He.ga K "Missing")) (.ref (He.ga K "NotClosed")) = some false
 ki_Missing_NotGood : PySem.W.kitOne K (.ref (He.ga K "Missing")) (.ref (He.ga K "NotGood")) = some false
 ki_Missing_ShutError : PySem.W.kitOne K (.ref (He.ga K "Missing")) (.ref (He.ga K "ShutError")) = some false
 ki_Missing_TooLong : PySem.W.kitOne K (.ref (He.ga K "Missing")) (.ref (He.ga K "TooLong")) = some false
 ki_NoAsk_BadStep : PySem.W.kitOne K (.ref (He.ga K "NoAsk")) (.ref (He.ga K "BadStep")) = some false
 ki_NoAsk_Clash : PySem.W.kitOne K (.ref (He.ga K "NoAsk")) (.ref (He.ga K "Clash")) = some false
 ki_NoAsk_HasHoles : PySem.W.kitOne K (.ref (He.ga K "NoAsk")) (.ref (He.ga K "HasHoles")) = some false
 ki_NoAsk_Missing : PySem.W.kitOne K (.ref (He.ga K "NoAsk")) (.ref (He.ga K "Missing")) = some false
 ki_NoAsk_NoAsk : PySem.W.kitOne K (.ref (He.ga K "NoAsk")) (.ref (He.ga K "NoAsk")) = some true
 ki_NoAsk_NoFacts : PySem.W.kitOne K (.ref (He.ga K "NoAsk")) (.ref (He.ga K "NoFacts")) = some false
 ki_NoAsk_NoFilling : PySem.W.kitOne K (.ref (He.ga K "NoAsk")) (.ref (He.ga K "NoFilling")) = some false
 ki_NoAsk_NoLine : PySem.W.kitOne K (.ref (He.ga K "NoAsk")) (.ref (He.ga K "NoLine")) = some false
 ki_NoAsk_NoName : PySem.W.kitOne K (.ref (He.ga K "NoAsk")) (.ref (He.ga K "NoName")) = some false
 ki_NoAsk_NoPaper : PySem.W.kitOne K (.ref (He.ga K "NoAsk")) (.ref (He.ga K "NoPaper")) = some false
 ki_NoAsk_NoPlace : PySem.W.kitOne K (.ref (He.ga K "NoAsk")) (.ref (He.ga K "NoPlace")) = some false
 ki_NoAsk_NoRule : PySem.W.kitOne K (.ref (He.ga K "NoAsk")) (.ref (He.ga K "NoRule")) = some false
 ki_NoAsk_NoTerm : PySem.W.kitOne K (.ref (He.ga K "NoAsk")) (.ref (He.ga K "NoTerm")) = some false
 ki_NoAsk_NoText : PySem.W.kitOne K (.ref (He.ga K "NoAsk")) (.ref (He.ga K "NoText")) = some false
 ki_NoAsk_NoTurn : PySem.W.kitOne K (.ref (He.ga K "NoAsk")) (.ref (He.ga K "NoTurn")) = some false
 ki_NoAsk_NoUndo : PySem.W.kitOne K (.ref (He.ga K "NoAsk")) (.ref (He.ga K "NoUndo")) = some false
 ki_NoAsk_NoWeighing : PySem.W.kitOne K (.ref (He.ga K "NoAsk")) (.ref (He.ga K "NoWeighing")) = some false
 ki_NoAsk_NotApart : PySem.W.kitOne K (.ref (He.ga K "NoAsk")) (.ref (He.ga K "NotApart")) = some false
 ki_NoAsk_NotClosed : PySem.W.kitOne K (.ref (He.ga K "NoAsk")) (.ref (He.ga K "NotClosed")) = some false
 ki_NoAsk_NotGood : PySem.W.kitOne K (.ref (He.ga K "NoAsk")) (.ref (He.ga K "NotGood")) = some false
 ki_NoAsk_ShutError : PySem.W.kitOne K (.ref (He.ga K "NoAsk")) (.ref (He.ga K "ShutError")) = some true
 ki_NoAsk_TooLong : PySem.W.kitOne K (.ref (He.ga K "NoAsk")) (.ref (He.ga K "TooLong")) = some false
 ki_NoFacts_BadStep : PySem.W.kitOne K (.ref (He.ga K "NoFacts")) (.ref (He.ga K "BadStep")) = some false
 ki_NoFacts_Clash : PySem.W.kitOne K (.ref (He.ga K "NoFacts")) (.ref (He.ga K "Clash")) = some false
 ki_NoFacts_HasHoles : PySem.W.kitOne K (.ref (He.ga K "NoFacts")) (.ref (He.ga K "HasHoles")) = some false
 ki_NoFacts_Missing : PySem.W.kitOne K (.ref (He.ga K "NoFacts")) (.ref (He.ga K "Missing")) = some false
 ki_NoFacts_NoAsk : PySem.W.kitOne K (.ref (He.ga K "NoFacts")) (.ref (He.ga K "NoAsk")) = some false
 ki_NoFacts_NoFacts : PySem.W.kitOne K (.ref (He.ga K "NoFacts")) (.ref (He.ga K "NoFacts")) = some true
 ki_NoFacts_NoFilling : PySem.W.kitOne K (.ref (He.ga K "NoFacts")) (.ref (He.ga K "NoFilling")) = some false
 ki_NoFacts_NoLine : PySem.W.kitOne K (.ref (He.ga K "NoFacts")) (.ref (He.ga K "NoLine")) = some false
 ki_NoFacts_NoName : PySem.W.kitOne K (.ref (He.ga K "NoFacts")) (.ref (He.ga K "NoName")) = some false
 ki_NoFacts_NoPaper : PySem.W.kitOne K (.ref (He.ga K "NoFacts")) (.ref (He.ga K "NoPaper")) = some false
 ki_NoFacts_NoPlace : PySem.W.kitOne K (.ref (He.ga K "NoFacts")) (.ref (He.ga K "NoPlace")) = some false
 ki_NoFacts_NoRule : PySem.W.kitOne K (.ref (He.ga K "NoFacts")) (.ref (He.ga K "NoRule")) = some false
 ki_NoFacts_NoTerm : PySem.W.kitOne K (.ref (He.ga K "NoFacts")) (.ref (He.ga K "NoTerm")) = some false
 ki_NoFacts_NoText : PySem.W.kitOne K (.ref (He.ga K "NoFacts")) (.ref (He.ga K "NoText")) = some false
 ki_NoFacts_NoTurn : PySem.W.kitOne K (.ref (He.ga K "NoFacts")) (.ref (He.ga K "NoTurn")) = some false
 ki_NoFacts_NoUndo : PySem.W.kitOne K (.ref (He.ga K "NoFacts")) (.ref (He.ga K "NoUndo")) = some false
 ki_NoFacts_NoWeighing : PySem.W.kitOne K (.ref (He.ga K "NoFacts")) (.ref (He.ga K "NoWeighing")) = some false
 ki_NoFacts_NotApart : PySem.W.kitOne K (.ref (He.ga K "NoFacts")) (.ref (He.ga K "NotApart")) = some false
 ki_NoFacts_NotClosed : PySem.W.kitOne K (.ref (He.ga K "NoFacts")) (.ref (He.ga K "NotClosed")) = some false
 ki_NoFacts_NotGood : PySem.W.kitOne K (.ref (He.ga K "NoFacts")) (.ref (He.ga K "NotGood")) = some false
 ki_NoFacts_ShutError : PySem.W.kitOne K (.ref (He.ga K "NoFacts")) (.ref (He.ga K "ShutError")) = some true
 ki_NoFacts_TooLong : PySem.W.kitOne K (.ref (He.ga K "NoFacts")) (.ref (He.ga K "TooLong")) = some false
 ki_NoFilling_BadStep : PySem.W.kitOne K (.ref (He.ga K "NoFilling")) (.ref (He.ga K "BadStep")) = some false
 ki_NoFilling_Clash : PySem.W.kitOne K (.ref (He.ga K "NoFilling")) (.ref (He.ga K "Clash")) = some false
 ki_NoFilling_HasHoles : PySem.W.kitOne K (.ref (He.ga K "NoFilling")) (.ref (He.ga K "HasHoles")) = some false
 ki_NoFilling_Missing : PySem.W.kitOne K (.ref (He.ga K "NoFilling")) (.ref (He.ga K "Missing")) = some false
 ki_NoFilling_NoAsk : PySem.W.kitOne K (.ref (He.ga K "NoFilling")) (.ref (He.ga K "NoAsk")) = some false
 ki_NoFilling_NoFacts : PySem.W.kitOne K (.ref (He.ga K "NoFilling")) (.ref (He.ga K "NoFacts")) = some false
 ki_NoFilling_NoFilling : PySem.W.kitOne K (.ref (He.ga K "NoFilling")) (.ref (He.ga K "NoFilling")) = some true
 ki_NoFilling_NoLine : PySem.W.kitOne K (.ref (He.ga K "NoFilling")) (.ref (He.ga K "NoLine")) = some false
 ki_NoFilling_NoName : PySem.W.kitOne K (.ref (He.ga K "NoFilling")) (.ref (He.ga K "NoName")) = some false
 ki_NoFilling_NoPaper : PySem.W.kitOne K (.ref (He.ga K "NoFilling")) (.ref (He.ga K "NoPaper")) = some false
 ki_NoFilling_NoPlace : PySem.W.kitOne K (.ref (He.ga K "NoFilling")) (.ref (He.ga K "NoPlace")) = some false
 ki_NoFilling_NoRule : PySem.W.kitOne K (.ref (He.ga K "NoFilling")) (.ref (He.ga K "NoRule")) = some false
 ki_NoFilling_NoTerm : PySem.W.kitOne K (.ref (He.ga K "NoFilling")) (.ref (He.ga K "NoTerm")) = some false
 ki_NoFilling_NoText : PySem.W.kitOne K (.ref (He.ga K "NoFilling")) (.ref (He.ga K "NoText")) = some false
 ki_NoFilling_NoTurn : PySem.W.kitOne K (.ref (He.ga K "NoFilling")) (.ref (He.ga K "NoTurn")) = some false
 ki_NoFilling_NoUndo : PySem.W.kitOne K (.ref (He.ga K "NoFilling")) (.ref (He.ga K "NoUndo")) = some false
 ki_NoFilling_NoWeighing : PySem.W.kitOne K (.ref (He.ga K "NoFilling")) (.ref (He.ga K "NoWeighing")) = some false
 ki_NoFilling_NotApart : PySem.W.kitOne K (.ref (He.ga K "NoFilling")) (.ref (He.ga K "NotApart")) = some false
 ki_NoFilling_NotClosed : PySem.W.kitOne K (.ref (He.ga K "NoFilling")) (.ref (He.ga K "NotClosed")) = some false
 ki_NoFilling_NotGood : PySem.W.kitOne K (.ref (He.ga K "NoFilling")) (.ref (He.ga K "NotGood")) = some false
 ki_NoFilling_ShutError : PySem.W.kitOne K (.ref (He.ga K "NoFilling")) (.ref (He.ga K "ShutError")) = some true
 ki_NoFilling_TooLong : PySem.W.kitOne K (.ref (He.ga K "NoFilling")) (.ref (He.ga K "TooLong")) = some false
 ki_NoLine_BadStep : PySem.W.kitOne K (.ref (He.ga K "NoLine")) (.ref (He.ga K "BadStep")) = some false
 ki_NoLine_Clash : PySem.W.kitOne K (.ref (He.ga K "NoLine")) (.ref (He.ga K "Clash")) = some false
 ki_NoLine_HasHoles : PySem.W.kitOne K (.ref (He.ga K "NoLine")) (.ref (He.ga K "HasHoles")) = some false
 ki_NoLine_Missing : PySem.W.kitOne K (.ref (He.ga K "NoLine")) (.ref (He.ga K "Missing")) = some false
 ki_NoLine_NoAsk : PySem.W.kitOne K (.ref (He.ga K "NoLine")) (.ref (He.ga K "NoAsk")) = some false
 ki_NoLine_NoFacts : PySem.W.kitOne K (.ref (He.ga K "NoLine")) (.ref (He.ga K "NoFacts")) = some false
 ki_NoLine_NoFilling : PySem.W.kitOne K (.ref (He.ga K "NoLine")) (.ref (He.ga K "NoFilling")) = some false
 ki_NoLine_NoLine : PySem.W.kitOne K (.ref (He.ga K "NoLine")) (.ref (He.ga K "NoLine")) = some true
 ki_NoLine_NoName : PySem.W.kitOne K (.ref (He.ga K "NoLine")) (.ref (He.ga K "NoName")) = some false
 ki_NoLine_NoPaper : PySem.W.kitOne K (.ref (He.ga K "NoLine")) (.ref (He.ga K "NoPaper")) = some false
 ki_NoLine_NoPlace : PySem.W.kitOne K (.ref (He.ga K "NoLine")) (.ref (He.ga K "NoPlace")) = some false
 ki_NoLine_NoRule : PySem.W.kitOne K (.ref (He.ga K "NoLine")) (.ref (He.ga K "NoRule")) = some false
 ki_NoLine_NoTerm : PySem.W.kitOne K (.ref (He.ga K "NoLine")) (.ref (He.ga K "NoTerm")) = some false
 ki_NoLine_NoText : PySem.W.kitOne K (.ref (He.ga K "NoLine")) (.ref (He.ga K "NoText")) = some false
 ki_NoLine_NoTurn : PySem.W.kitOne K (.ref (He.ga K "NoLine")) (.ref (He.ga K "NoTurn")) = some false
 ki_NoLine_NoUndo : PySem.W.kitOne K (.ref (He.ga K "NoLine")) (.ref (He.ga K "NoUndo")) = some false
 ki_NoLine_NoWeighing : PySem.W.kitOne K (.ref (He.ga K "NoLine")) (.ref (He.ga K "NoWeighing")) = some false
 ki_NoLine_NotApart : PySem.W.kitOne K (.ref (He.ga K "NoLine")) (.ref (He.ga K "NotApart")) = some false
 ki_NoLine_NotClosed : PySem.W.kitOne K (.ref (He.ga K "NoLine")) (.ref (He.ga K "NotClosed")) = some false
 ki_NoLine_NotGood : PySem.W.kitOne K (.ref (He.ga K "NoLine")) (.ref (He.ga K "NotGood")) = some false
 ki_NoLine_ShutError : PySem.W.kitOne K (.ref (He.ga K "NoLine")) (.ref (He.ga K "ShutError")) = some true
 ki_NoLine_TooLong : PySem.W.kitOne K (.ref (He.ga K "NoLine")) (.ref (He.ga K "TooLong")) = some false
 ki_NoName_BadStep : PySem.W.kitOne K (.ref (He.ga K "NoName")) (.ref (He.ga K "BadStep")) = some false
 ki_NoName_Clash : PySem.W.kitOne K (.ref (He.ga K "NoName")) (.ref (He.ga K "Clash")) = some false
 ki_NoName_HasHoles : PySem.W.kitOne K (.ref (He.ga K "NoName")) (.ref (He.ga K "HasHoles")) = some false
 ki_NoName_Missing : PySem.W.kitOne K (.ref (He.ga K "NoName")) (.ref (He.ga K "Missing")) = some false
 ki_NoName_NoAsk : PySem.W.kitOne K (.ref (He.ga K "NoName")) (.ref (He.ga K "NoAsk")) = some false
 ki_NoName_NoFacts : PySem.W.kitOne K (.ref (He.ga K "NoName")) (.ref (He.ga K "NoFacts")) = some false
 ki_NoName_NoFilling : PySem.W.kitOne K (.ref (He.ga K "NoName")) (.ref (He.ga K "NoFilling")) = some false
 ki_NoName_NoLine : PySem.W.kitOne K (.ref (He.ga K "NoName")) (.ref (He.ga K "NoLine")) = some false
 ki_NoName_NoName : PySem.W.kitOne K (.ref (He.ga K "NoName")) (.ref (He.ga K "NoName")) = some true
 ki_NoName_NoPaper : PySem.W.kitOne K (.ref (He.ga K "NoName")) (.ref (He.ga K "NoPaper")) = some false
 ki_NoName_NoPlace : PySem.W.kitOne K (.ref (He.ga K "NoName")) (.ref (He.ga K "NoPlace")) = some false
 ki_NoName_NoRule : PySem.W.kitOne K (.ref (He.ga K "NoName")) (.ref (He.ga K "NoRule")) = some false
 ki_NoName_NoTerm : PySem.W.kitOne K (.ref (He.ga K "NoName")) (.ref (He.ga K "NoTerm")) = some false
 ki_NoName_NoText : PySem.W.kitOne K (.ref (He.ga K "NoName")) (.ref (He.ga K "NoText")) = some false
 ki_NoName_NoTurn : PySem.W.kitOne K (.ref (He.ga K "NoName")) (.ref (He.ga K "NoTurn")) = some false
 ki_NoName_NoUndo : PySem.W.kitOne K (.ref (He.ga K "NoName")) (.ref (He.ga K "NoUndo")) = some false
 ki_NoName_NoWeighing : PySem.W.kitOne K (.ref (He.ga K "NoName")) (.ref (He.ga K "NoWeighing")) = some false
 ki_NoName_NotApart : PySem.W.kitOne K (.ref (He.ga K "NoName")) (.ref (He.ga K "NotApart")) = some false
 ki_NoName_NotClosed : PySem.W.kitOne K (.ref (He.ga K "NoName")) (.ref (He.ga K "NotClosed")) = some false
 ki_NoName_NotGood : PySem.W.kitOne K (.ref (He.ga K "NoName")) (.ref (He.ga K "NotGood")) = some false
 ki_NoName_ShutError : PySem.W.kitOne K (.ref (He.ga K "NoName")) (.ref (He.ga K "ShutError")) = some true
 ki_NoName_TooLong : PySem.W.kitOne K (.ref (He.ga K "NoName")) (.ref (He.ga K "TooLong")) = some false
 ki_NoPaper_BadStep : PySem.W.kitOne K (.ref (He.ga K "NoPaper")) (.ref (He.ga K "BadStep")) = some false
 ki_NoPaper_Clash : PySem.W.kitOne K (.ref (He.ga K "NoPaper")) (.ref (He.ga K "Clash")) = some false
 ki_NoPaper_HasHoles : PySem.W.kitOne K (.ref (He.ga K "NoPaper")) (.ref (He.ga K "HasHoles")) = some false
 ki_NoPaper_Missing : PySem.W.kitOne K (.ref (He.ga K "NoPaper")) (.ref (He.ga K "Missing")) = some false
 ki_NoPaper_NoAsk : PySem.W.kitOne K (.ref (He.ga K "NoPaper")) (.ref (He.ga K "NoAsk")) = some false
 ki_NoPaper_NoFacts : PySem.W.kitOne K (.ref (He.ga K "NoPaper")) (.ref (He.ga K "NoFacts")) = some false
 ki_NoPaper_NoFilling : PySem.W.kitOne K (.ref (He.ga K "NoPaper")) (.ref (He.ga K "NoFilling")) = some false
 ki_NoPaper_NoLine : PySem.W.kitOne K (.ref (He.ga K "NoPaper")) (.ref (He.ga K "NoLine")) = some false
 ki_NoPaper_NoName : PySem.W.kitOne K (.ref (He.ga K "NoPaper")) (.ref (He.ga K "NoName")) = some false
 ki_NoPaper_NoPaper : PySem.W.kitOne K (.ref (He.ga K "NoPaper")) (.ref (He.ga K "NoPaper")) = some true
 ki_NoPaper_NoPlace : PySem.W.kitOne K (.ref (He.ga K "NoPaper")) (.ref (He.ga K "NoPlace")) = some false
 ki_NoPaper_NoRule : PySem.W.kitOne K (.ref (He.ga K "NoPaper")) (.ref (He.ga K "NoRule")) = some false
 ki_NoPaper_NoTerm : PySem.W.kitOne K (.ref (He.ga K "NoPaper")) (.ref (He.ga K "NoTerm")) = some false
 ki_NoPaper_NoText : PySem.W.kitOne K (.ref (He.ga K "NoPaper")) (.ref (He.ga K "NoText")) = some false
 ki_NoPaper_NoTurn : PySem.W.kitOne K (.ref (He.ga K "NoPaper")) (.ref (He.ga K "NoTurn")) = some false
 ki_NoPaper_NoUndo : PySem.W.kitOne K (.ref (He.ga K "NoPaper")) (.ref (He.ga K "NoUndo")) = some false
 ki_NoPaper_NoWeighing : PySem.W.kitOne K (.ref (He.ga K "NoPaper")) (.ref (He.ga K "NoWeighing")) = some false
 ki_NoPaper_NotApart : PySem.W.kitOne K (.ref (He.ga K "NoPaper")) (.ref (He.ga K "NotApart")) = some false
 ki_NoPaper_NotClosed : PySem.W.kitOne K (.ref (He.ga K "NoPaper")) (.ref (He.ga K "NotClosed")) = some false
 ki_NoPaper_NotGood : PySem.W.kitOne K (.ref (He.ga K "NoPaper")) (.ref (He.ga K "NotGood")) = some false
 ki_NoPaper_ShutError : PySem.W.kitOne K (.ref (He.ga K "NoPaper")) (.ref (He.ga K "ShutError")) = some true
 ki_NoPaper_TooLong : PySem.W.kitOne K (.ref (He.ga K "NoPaper")) (.ref (He.ga K "TooLong")) = some false
 ki_NoPlace_BadStep : PySem.W.kitOne K (.ref (He.ga K "NoPlace")) (.ref (He.ga K "BadStep")) = some false
 ki_NoPlace_Clash : PySem.W.kitOne K (.ref (He.ga K "NoPlace")) (.ref (He.ga K "Clash")) = some false
 ki_NoPlace_HasHoles : PySem.W.kitOne K (.ref (He.ga K "NoPlace")) (.ref (He.ga K "HasHoles")) = some false
 ki_NoPlace_Missing : PySem.W.kitOne K (.ref (He.ga K "NoPlace")) (.ref (He.ga K "Missing")) = some false
 ki_NoPlace_NoAsk : PySem.W.kitOne K (.ref (He.ga K "NoPlace")) (.ref (He.ga K "NoAsk")) = some false
 ki_NoPlace_NoFacts : PySem.W.kitOne K (.ref (He.ga K "NoPlace")) (.ref (He.ga K "NoFacts")) = some false
 ki_NoPlace_NoFilling : PySem.W.kitOne K (.ref (He.ga K "NoPlace")) (.ref (He.ga K "NoFilling")) = some false
 ki_NoPlace_NoLine : PySem.W.kitOne K (.ref (He.ga K "NoPlace")) (.ref (He.ga K "NoLine")) = some false
 ki_NoPlace_NoName : PySem.W.kitOne K (.ref (He.ga K "NoPlace")) (.ref (He.ga K "NoName")) = some false
 ki_NoPlace_NoPaper : PySem.W.kitOne K (.ref (He.ga K "NoPlace")) (.ref (He.ga K "NoPaper")) = some false
 ki_NoPlace_NoPlace : PySem.W.kitOne K (.ref (He.ga K "NoPlace")) (.ref (He.ga K "NoPlace")) = some true
 ki_NoPlace_NoRule : PySem.W.kitOne K (.ref (He.ga K "NoPlace")) (.ref (He.ga K "NoRule")) = some false
 ki_NoPlace_NoTerm : PySem.W.kitOne K (.ref (He.ga K "NoPlace")) (.ref (He.ga K "NoTerm")) = some false
 ki_NoPlace_NoText : PySem.W.kitOne K (.ref (He.ga K "NoPlace")) (.ref (He.ga K "NoText")) = some false
 ki_NoPlace_NoTurn : PySem.W.kitOne K (.ref (He.ga K "NoPlace")) (.ref (He.ga K "NoTurn")) = some false
 ki_NoPlace_NoUndo : PySem.W.kitOne K (.ref (He.ga K "NoPlace")) (.ref (He.ga K "NoUndo")) = some false
 ki_NoPlace_NoWeighing : PySem.W.kitOne K (.ref (He.ga K "NoPlace")) (.ref (He.ga K "NoWeighing")) = some false
 ki_NoPlace_NotApart : PySem.W.kitOne K (.ref (He.ga K "NoPlace")) (.ref (He.ga K "NotApart")) = some false
 ki_NoPlace_NotClosed : PySem.W.kitOne K (.ref (He.ga K "NoPlace")) (.ref (He.ga K "NotClosed")) = some false
 ki_NoPlace_NotGood : PySem.W.kitOne K (.ref (He.ga K "NoPlace")) (.ref (He.ga K "NotGood")) = some false
 ki_NoPlace_ShutError : PySem.W.kitOne K (.ref (He.ga K "NoPlace")) (.ref (He.ga K "ShutError")) = some true
 ki_NoPlace_TooLong : PySem.W.kitOne K (.ref (He.ga K "NoPlace")) (.ref (He.ga K "TooLong")) = some false
 ki_NoRule_BadStep : PySem.W.kitOne K (.ref (He.ga K "NoRule")) (.ref (He.ga K "BadStep")) = some false
 ki_NoRule_Clash : PySem.W.kitOne K (.ref (He.ga K "NoRule")) (.ref (He.ga K "Clash")) = some false
 ki_NoRule_HasHoles : PySem.W.kitOne K (.ref (He.ga K "NoRule")) (.ref (He.ga K "HasHoles")) = some false
 ki_NoRule_Missing : PySem.W.kitOne K (.ref (He.ga K "NoRule")) (.ref (He.ga K "Missing")) = some false
 ki_NoRule_NoAsk : PySem.W.kitOne K (.ref (He.ga K "NoRule")) (.ref (He.ga K "NoAsk")) = some false
 ki_NoRule_NoFacts : PySem.W.kitOne K (.ref (He.ga K "NoRule")) (.ref (He.ga K "NoFacts")) = some false
 ki_NoRule_NoFilling : PySem.W.kitOne K (.ref (He.ga K "NoRule")) (.ref (He.ga K "NoFilling")) = some false
 ki_NoRule_NoLine : PySem.W.kitOne K (.ref (He.ga K "NoRule")) (.ref (He.ga K "NoLine")) = some false
 ki_NoRule_NoName : PySem.W.kitOne K (.ref (He.ga K "NoRule")) (.ref (He.ga K "NoName")) = some false
 ki_NoRule_NoPaper : PySem.W.kitOne K (.ref (He.ga K "NoRule")) (.ref (He.ga K "NoPaper")) = some false
 ki_NoRule_NoPlace : PySem.W.kitOne K (.ref (He.ga K "NoRule")) (.ref (He.ga K "NoPlace")) = some false
 ki_NoRule_NoRule : PySem.W.kitOne K (.ref (He.ga K "NoRule")) (.ref (He.ga K "NoRule")) = some true
 ki_NoRule_NoTerm : PySem.W.kitOne K (.ref (He.ga K "NoRule")) (.ref (He.ga K "NoTerm")) = some false
 ki_NoRule_NoText : PySem.W.kitOne K (.ref (He.ga K "NoRule")) (.ref (He.ga K "NoText")) = some false
 ki_NoRule_NoTurn : PySem.W.kitOne K (.ref (He.ga K "NoRule")) (.ref (He.ga K "NoTurn")) = some false
 ki_NoRule_NoUndo : PySem.W.kitOne K (.ref (He.ga K "NoRule")) (.ref (He.ga K "NoUndo")) = some false
 ki_NoRule_NoWeighing : PySem.W.kitOne K (.ref (He.ga K "NoRule")) (.ref (He.ga K "NoWeighing")) = some false
 ki_NoRule_NotApart : PySem.W.kitOne K (.ref (He.ga K "NoRule")) (.ref (He.ga K "NotApart")) = some false
 ki_NoRule_NotClosed : PySem.W.kitOne K (.ref (He.ga K "NoRule")) (.ref (He.ga K "NotClosed")) = some false
 ki_NoRule_NotGood : PySem.W.kitOne K (.ref (He.ga K "NoRule")) (.ref (He.ga K "NotGood")) = some false
 ki_NoRule_ShutError : PySem.W.kitOne K (.ref (He.ga K "NoRule")) (.ref (He.ga K "ShutError")) = some true
 ki_NoRule_TooLong : PySem.W.kitOne K (.ref (He.ga K "NoRule")) (.ref (He.ga K "TooLong")) = some false
 ki_NoTerm_BadStep : PySem.W.kitOne K (.ref (He.ga K "NoTerm")) (.ref (He.ga K "BadStep")) = some false
 ki_NoTerm_Clash : PySem.W.kitOne K (.ref (He.ga K "NoTerm")) (.ref (He.ga K "Clash")) = some false
 ki_NoTerm_HasHoles : PySem.W.kitOne K (.ref (He.ga K "NoTerm")) (.ref (He.ga K "HasHoles")) = some false
 ki_NoTerm_Missing : PySem.W.kitOne K (.ref (He.ga K "NoTerm")) (.ref (He.ga K "Missing")) = some false
 ki_NoTerm_NoAsk : PySem.W.kitOne K (.ref (He.ga K "NoTerm")) (.ref (He.ga K "NoAsk")) = some false
 ki_NoTerm_NoFacts : PySem.W.kitOne K (.ref (He.ga K "NoTerm")) (.ref (He.ga K "NoFacts")) = some false
 ki_NoTerm_NoFilling : PySem.W.kitOne K (.ref (He.ga K "NoTerm")) (.ref (He.ga K "NoFilling")) = some false
 ki_NoTerm_NoLine : PySem.W.kitOne K (.ref (He.ga K "NoTerm")) (.ref (He.ga K "NoLine")) = some false
 ki_NoTerm_NoName : PySem.W.kitOne K (.ref (He.ga K "NoTerm")) (.ref (He.ga K "NoName")) = some false
 ki_NoTerm_NoPaper : PySem.W.kitOne K (.ref (He.ga K "NoTerm")) (.ref (He.ga K "NoPaper")) = some false
 ki_NoTerm_NoPlace : PySem.W.kitOne K (.ref (He.ga K "NoTerm")) (.ref (He.ga K "NoPlace")) = some false
 ki_NoTerm_NoRule : PySem.W.kitOne K (.ref (He.ga K "NoTerm")) (.ref (He.ga K "NoRule")) = some false
 ki_NoTerm_NoTerm : PySem.W.kitOne K (.ref (He.ga K "NoTerm")) (.ref (He.ga K "NoTerm")) = some true
 ki_NoTerm_NoText : PySem.W.kitOne K (.ref (He.ga K "NoTerm")) (.ref (He.ga K "NoText")) = some false
 ki_NoTerm_NoTurn : PySem.W.kitOne K (.ref (He.ga K "NoTerm")) (.ref (He.ga K "NoTurn")) = some false
 ki_NoTerm_NoUndo : PySem.W.kitOne K (.ref (He.ga K "NoTerm")) (.ref (He.ga K "NoUndo")) = some false
 ki_NoTerm_NoWeighing : PySem.W.kitOne K (.ref (He.ga K "NoTerm")) (.ref (He.ga K "NoWeighing")) = some false
 ki_NoTerm_NotApart : PySem.W.kitOne K (.ref (He.ga K "NoTerm")) (.ref (He.ga K "NotApart")) = some false
 ki_NoTerm_NotClosed : PySem.W.kitOne K (.ref (He.ga K "NoTerm")) (.ref (He.ga K "NotClosed")) = some false
 ki_NoTerm_NotGood : PySem.W.kitOne K (.ref (He.ga K "NoTerm")) (.ref (He.ga K "NotGood")) = some false
 ki_NoTerm_ShutError : PySem.W.kitOne K (.ref (He.ga K "NoTerm")) (.ref (He.ga K "ShutError")) = some true
 ki_NoTerm_TooLong : PySem.W.kitOne K (.ref (He.ga K "NoTerm")) (.ref (He.ga K "TooLong")) = some false
 ki_NoText_BadStep : PySem.W.kitOne K (.ref (He.ga K "NoText")) (.ref (He.ga K "BadStep")) = some false
 ki_NoText_Clash : PySem.W.kitOne K (.ref (He.ga K "NoText")) (.ref (He.ga K "Clash")) = some false
 ki_NoText_HasHoles : PySem.W.kitOne K (.ref (He.ga K "NoText")) (.ref (He.ga K "HasHoles")) = some false
 ki_NoText_Missing : PySem.W.kitOne K (.ref (He.ga K "NoText")) (.ref (He.ga K "Missing")) = some false
 ki_NoText_NoAsk : PySem.W.kitOne K (.ref (He.ga K "NoText")) (.ref (He.ga K "NoAsk")) = some false
 ki_NoText_NoFacts : PySem.W.kitOne K (.ref (He.ga K "NoText")) (.ref (He.ga K "NoFacts")) = some false
 ki_NoText_NoFilling : PySem.W.kitOne K (.ref (He.ga K "NoText")) (.ref (He.ga K "NoFilling")) = some false
 ki_NoText_NoLine : PySem.W.kitOne K (.ref (He.ga K "NoText")) (.ref (He.ga K "NoLine")) = some false
 ki_NoText_NoName : PySem.W.kitOne K (.ref (He.ga K "NoText")) (.ref (He.ga K "NoName")) = some false
 ki_NoText_NoPaper : PySem.W.kitOne K (.ref (He.ga K "NoText")) (.ref (He.ga K "NoPaper")) = some false
 ki_NoText_NoPlace : PySem.W.kitOne K (.ref (He.ga K "NoText")) (.ref (He.ga K "NoPlace")) = some false
 ki_NoText_NoRule : PySem.W.kitOne K (.ref (He.ga K "NoText")) (.ref (He.ga K "NoRule")) = some false
 ki_NoText_NoTerm : PySem.W.kitOne K (.ref (He.ga K "NoText")) (.ref (He.ga K "NoTerm")) = some false
 ki_NoText_NoText : PySem.W.kitOne K (.ref (He.ga K "NoText")) (.ref (He.ga K "NoText")) = some true
 ki_NoText_NoTurn : PySem.W.kitOne K (.ref (He.ga K "NoText")) (.ref (He.ga K "NoTurn")) = some false
 ki_NoText_NoUndo : PySem.W.kitOne K (.ref (He.ga K "NoText")) (.ref (He.ga K "NoUndo")) = some false
 ki_NoText_NoWeighing : PySem.W.kitOne K (.ref (He.ga K "NoText")) (.ref (He.ga K "NoWeighing")) = some false
 ki_NoText_NotApart : PySem.W.kitOne K (.ref (He.ga K "NoText")) (.ref (He.ga K "NotApart")) = some false
 ki_NoText_NotClosed : PySem.W.kitOne K (.ref (He.ga K "NoText")) (.ref (He.ga K "NotClosed")) = some false
 ki_NoText_NotGood : PySem.W.kitOne K (.ref (He.ga K "NoText")) (.ref (He.ga K "NotGood")) = some false
 ki_NoText_ShutError : PySem.W.kitOne K (.ref (He.ga K "NoText")) (.ref (He.ga K "ShutError")) = some true
 ki_NoText_TooLong : PySem.W.kitOne K (.ref (He.ga K "NoText")) (.ref (He.ga K "TooLong")) = some false
 ki_NoTurn_BadStep : PySem.W.kitOne K (.ref (He.ga K "NoTurn")) (.ref (He.ga K "BadStep")) = some false
 ki_NoTurn_Clash : PySem.W.kitOne K (.ref (He.ga K "NoTurn")) (.ref (He.ga K "Clash")) = some false
 ki_NoTurn_HasHoles : PySem.W.kitOne K (.ref (He.ga K "NoTurn")) (.ref (He.ga K "HasHoles")) = some false
 ki_NoTurn_Missing : PySem.W.kitOne K (.ref (He.ga K "NoTurn")) (.ref (He.ga K "Missing")) = some false
 ki_NoTurn_NoAsk : PySem.W.kitOne K (.ref (He.ga K "NoTurn")) (.ref (He.ga K "NoAsk")) = some false
 ki_NoTurn_NoFacts : PySem.W.kitOne K (.ref (He.ga K "NoTurn")) (.ref (He.ga K "NoFacts")) = some false
 ki_NoTurn_NoFilling : PySem.W.kitOne K (.ref (He.ga K "NoTurn")) (.ref (He.ga K "NoFilling")) = some false
 ki_NoTurn_NoLine : PySem.W.kitOne K (.ref (He.ga K "NoTurn")) (.ref (He.ga K "NoLine")) = some false
 ki_NoTurn_NoName : PySem.W.kitOne K (.ref (He.ga K "NoTurn")) (.ref (He.ga K "NoName")) = some false
 ki_NoTurn_NoPaper : PySem.W.kitOne K (.ref (He.ga K "NoTurn")) (.ref (He.ga K "NoPaper")) = some false
 ki_NoTurn_NoPlace : PySem.W.kitOne K (.ref (He.ga K "NoTurn")) (.ref (He.ga K "NoPlace")) = some false
 ki_NoTurn_NoRule : PySem.W.kitOne K (.ref (He.ga K "NoTurn")) (.ref (He.ga K "NoRule")) = some false
 ki_NoTurn_NoTerm : PySem.W.kitOne K (.ref (He.ga K "NoTurn")) (.ref (He.ga K "NoTerm")) = some false
 ki_NoTurn_NoText : PySem.W.kitOne K (.ref (He.ga K "NoTurn")) (.ref (He.ga K "NoText")) = some false
 ki_NoTurn_NoTurn : PySem.W.kitOne K (.ref (He.ga K "NoTurn")) (.ref (He.ga K "NoTurn")) = some true
 ki_NoTurn_NoUndo : PySem.W.kitOne K (.ref (He.ga K "NoTurn")) (.ref (He.ga K "NoUndo")) = some false
 ki_NoTurn_NoWeighing : PySem.W.kitOne K (.ref (He.ga K "NoTurn")) (.ref (He.ga K "NoWeighing")) = some false
 ki_NoTurn_NotApart : PySem.W.kitOne K (.ref (He.ga K "NoTurn")) (.ref (He.ga K "NotApart")) = some false
 ki_NoTurn_NotClosed : PySem.W.kitOne K (.ref (He.ga K "NoTurn")) (.ref (He.ga K "NotClosed")) = some false
 ki_NoTurn_NotGood : PySem.W.kitOne K (.ref (He.ga K "NoTurn")) (.ref (He.ga K "NotGood")) = some false
 ki_NoTurn_ShutError : PySem.W.kitOne K (.ref (He.ga K "NoTurn")) (.ref (He.ga K "ShutError")) = some true
 ki_NoTurn_TooLong : PySem.W.kitOne K (.ref (He.ga K "NoTurn")) (.ref (He.ga K "TooLong")) = some false
 ki_NoUndo_BadStep : PySem.W.kitOne K (.ref (He.ga K "NoUndo")) (.ref (He.ga K "BadStep")) = some false
 ki_NoUndo_Clash : PySem.W.kitOne K (.ref (He.ga K "NoUndo")) (.ref (He.ga K "Clash")) = some false
 ki_NoUndo_HasHoles : PySem.W.kitOne K (.ref (He.ga K "NoUndo")) (.ref (He.ga K "HasHoles")) = some false
 ki_NoUndo_Missing : PySem.W.kitOne K (.ref (He.ga K "NoUndo")) (.ref (He.ga K "Missing")) = some false
 ki_NoUndo_NoAsk : PySem.W.kitOne K (.ref (He.ga K "NoUndo")) (.ref (He.ga K "NoAsk")) = some false
 ki_NoUndo_NoFacts : PySem.W.kitOne K (.ref (He.ga K "NoUndo")) (.ref (He.ga K "NoFacts")) = some false
 ki_NoUndo_NoFilling : PySem.W.kitOne K (.ref (He.ga K "NoUndo")) (.ref (He.ga K "NoFilling")) = some false
 ki_NoUndo_NoLine : PySem.W.kitOne K (.ref (He.ga K "NoUndo")) (.ref (He.ga K "NoLine")) = some false
 ki_NoUndo_NoName : PySem.W.kitOne K (.ref (He.ga K "NoUndo")) (.ref (He.ga K "NoName")) = some false
 ki_NoUndo_NoPaper : PySem.W.kitOne K (.ref (He.ga K "NoUndo")) (.ref (He.ga K "NoPaper")) = some false
 ki_NoUndo_NoPlace : PySem.W.kitOne K (.ref (He.ga K "NoUndo")) (.ref (He.ga K "NoPlace")) = some false
 ki_NoUndo_NoRule : PySem.W.kitOne K (.ref (He.ga K "NoUndo")) (.ref (He.ga K "NoRule")) = some false
 ki_NoUndo_NoTerm : PySem.W.kitOne K (.ref (He.ga K "NoUndo")) (.ref (He.ga K "NoTerm")) = some false
 ki_NoUndo_NoText : PySem.W.kitOne K (.ref (He.ga K "NoUndo")) (.ref (He.ga K "NoText")) = some false
 ki_NoUndo_NoTurn : PySem.W.kitOne K (.ref (He.ga K "NoUndo")) (.ref (He.ga K "NoTurn")) = some false
 ki_NoUndo_NoUndo : PySem.W.kitOne K (.ref (He.ga K "NoUndo")) (.ref (He.ga K "NoUndo")) = some true
 ki_NoUndo_NoWeighing : PySem.W.kitOne K (.ref (He.ga K "NoUndo")) (.ref (He.ga K "NoWeighing")) = some false
 ki_NoUndo_NotApart : PySem.W.kitOne K (.ref (He.ga K "NoUndo")) (.ref (He.ga K "NotApart")) = some false
 ki_NoUndo_NotClosed : PySem.W.kitOne K (.ref (He.ga K "NoUndo")) (.ref (He.ga K "NotClosed")) = some false
 ki_NoUndo_NotGood : PySem.W.kitOne K (.ref (He.ga K "NoUndo")) (.ref (He.ga K "NotGood")) = some false
 ki_NoUndo_ShutError : PySem.W.kitOne K (.ref (He.ga K "NoUndo")) (.ref (He.ga K "ShutError")) = some true
 ki_NoUndo_TooLong : PySem.W.kitOne K (.ref (He.ga K "NoUndo")) (.ref (He.ga K "TooLong")) = some false
 ki_NoWeighing_BadStep : PySem.W.kitOne K (.ref (He.ga K "NoWeighing")) (.ref (He.ga K "BadStep")) = some false
 ki_NoWeighing_Clash : PySem.W.kitOne K (.ref (He.ga K "NoWeighing")) (.ref (He.ga K "Clash")) = some false
 ki_NoWeighing_HasHoles : PySem.W.kitOne K (.ref (He.ga K "NoWeighing")) (.ref (He.ga K "HasHoles")) = some false
 ki_NoWeighing_Missing : PySem.W.kitOne K (.ref (He.ga K "NoWeighing")) (.ref (He.ga K "Missing")) = some false
 ki_NoWeighing_NoAsk : PySem.W.kitOne K (.ref (He.ga K "NoWeighing")) (.ref (He.ga K "NoAsk")) = some false
 ki_NoWeighing_NoFacts : PySem.W.kitOne K (.ref (He.ga K "NoWeighing")) (.ref (He.ga K "NoFacts")) = some false
 ki_NoWeighing_NoFilling : PySem.W.kitOne K (.ref (He.ga K "NoWeighing")) (.ref (He.ga K "NoFilling")) = some false
 ki_NoWeighing_NoLine : PySem.W.kitOne K (.ref (He.ga K "NoWeighing")) (.ref (He.ga K "NoLine")) = some false
 ki_NoWeighing_NoName : PySem.W.kitOne K (.ref (He.ga K "NoWeighing")) (.ref (He.ga K "NoName")) = some false
 ki_NoWeighing_NoPaper : PySem.W.kitOne K (.ref (He.ga K "NoWeighing")) (.ref (He.ga K "NoPaper")) = some false
 ki_NoWeighing_NoPlace : PySem.W.kitOne K (.ref (He.ga K "NoWeighing")) (.ref (He.ga K "NoPlace")) = some false
 ki_NoWeighing_NoRule : PySem.W.kitOne K (.ref (He.ga K "NoWeighing")) (.ref (He.ga K "NoRule")) = some false
 ki_NoWeighing_NoTerm : PySem.W.kitOne K (.ref (He.ga K "NoWeighing")) (.ref (He.ga K "NoTerm")) = some false
 ki_NoWeighing_NoText : PySem.W.kitOne K (.ref (He.ga K "NoWeighing")) (.ref (He.ga K "NoText")) = some false
 ki_NoWeighing_NoTurn : PySem.W.kitOne K (.ref (He.ga K "NoWeighing")) (.ref (He.ga K "NoTurn")) = some false
 ki_NoWeighing_NoUndo : PySem.W.kitOne K (.ref (He.ga K "NoWeighing")) (.ref (He.ga K "NoUndo")) = some false
 ki_NoWeighing_NoWeighing : PySem.W.kitOne K (.ref (He.ga K "NoWeighing")) (.ref (He.ga K "NoWeighing")) = some true
 ki_NoWeighing_NotApart : PySem.W.kitOne K (.ref (He.ga K "NoWeighing")) (.ref (He.ga K "NotApart")) = some false
 ki_NoWeighing_NotClosed : PySem.W.kitOne K (.ref (He.ga K "NoWeighing")) (.ref (He.ga K "NotClosed")) = some false
 ki_NoWeighing_NotGood : PySem.W.kitOne K (.ref (He.ga K "NoWeighing")) (.ref (He.ga K "NotGood")) = some false
 ki_NoWeighing_ShutError : PySem.W.kitOne K (.ref (He.ga K "NoWeighing")) (.ref (He.ga K "ShutError")) = some true
 ki_NoWeighing_TooLong : PySem.W.kitOne K (.ref (He.ga K "NoWeighing")) (.ref (He.ga K "TooLong")) = some false
 ki_NotApart_BadStep : PySem.W.kitOne K (.ref (He.ga K "NotApart")) (.ref (He.ga K "BadStep")) = some false
 ki_NotApart_Clash : PySem.W.kitOne K (.ref (He.ga K "NotApart")) (.ref (He.ga K "Clash")) = some false
 ki_NotApart_HasHoles : PySem.W.kitOne K (.ref (He.ga K "NotApart")) (.ref (He.ga K "HasHoles")) = some false
 ki_NotApart_Missing : PySem.W.kitOne K (.ref (He.ga K "NotApart")) (.ref (He.ga K "Missing")) = some false
 ki_NotApart_NoAsk : PySem.W.kitOne K (.ref (He.ga K "NotApart")) (.ref (He.ga K "NoAsk")) = some false
 ki_NotApart_NoFacts : PySem.W.kitOne K (.ref (He.ga K "NotApart")) (.ref (He.ga K "NoFacts")) = some false
 ki_NotApart_NoFilling : PySem.W.kitOne K (.ref (He.ga K "NotApart")) (.ref (He.ga K "NoFilling")) = some false
 ki_NotApart_NoLine : PySem.W.kitOne K (.ref (He.ga K "NotApart")) (.ref (He.ga K "NoLine")) = some false
 ki_NotApart_NoName : PySem.W.kitOne K (.ref (He.ga K "NotApart")) (.ref (He.ga K "NoName")) = some false
 ki_NotApart_NoPaper : PySem.W.kitOne K (.ref (He.ga K "NotApart")) (.ref (He.ga K "NoPaper")) = some false
 ki_NotApart_NoPlace : PySem.W.kitOne K (.ref (He.ga K "NotApart")) (.ref (He.ga K "NoPlace")) = some false
 ki_NotApart_NoRule : PySem.W.kitOne K (.ref (He.ga K "NotApart")) (.ref (He.ga K "NoRule")) = some false
 ki_NotApart_NoTerm : PySem.W.kitOne K (.ref (He.ga K "NotApart")) (.ref (He.ga K "NoTerm")) = some false
 ki_NotApart_NoText : PySem.W.kitOne K (.ref (He.ga K "NotApart")) (.ref (He.ga K "NoText")) = some false
 ki_NotApart_NoTurn : PySem.W.kitOne K (.ref (He.ga K "NotApart")) (.ref (He.ga K "NoTurn")) = some false
 ki_NotApart_NoUndo : PySem.W.kitOne K (.ref (He.ga K "NotApart")) (.ref (He.ga K "NoUndo")) = some false
 ki_NotApart_NoWeighing : PySem.W.kitOne K (.ref (He.ga K "NotApart")) (.ref (He.ga K "NoWeighing")) = some false
 ki_NotApart_NotApart : PySem.W.kitOne K (.ref (He.ga K "NotApart")) (.ref (He.ga K "NotApart")) = some true
 ki_NotApart_NotClosed : PySem.W.kitOne K (.ref (He.ga K "NotApart")) (.ref (He.ga K "NotClosed")) = some false
 ki_NotApart_NotGood : PySem.W.kitOne K (.ref (He.ga K "NotApart")) (.ref (He.ga K "NotGood")) = some false
 ki_NotApart_ShutError : PySem.W.kitOne K (.ref (He.ga K "NotApart")) (.ref (He.ga K "ShutError")) = some true
 ki_NotApart_TooLong : PySem.W.kitOne K (.ref (He.ga K "NotApart")) (.ref (He.ga K "TooLong")) = some false
 ki_NotClosed_BadStep : PySem.W.kitOne K (.ref (He.ga K "NotClosed")) (.ref (He.ga K "BadStep")) = some false
 ki_NotClosed_Clash : PySem.W.kitOne K (.ref (He.ga K "NotClosed")) (.ref (He.ga K "Clash")) = some false
 ki_NotClosed_HasHoles : PySem.W.kitOne K (.ref (He.ga K "NotClosed")) (.ref (He.ga K "HasHoles")) = some false
 ki_NotClosed_Missing : PySem.W.kitOne K (.ref (He.ga K "NotClosed")) (.ref (He.ga K "Missing")) = some false
 ki_NotClosed_NoAsk : PySem.W.kitOne K (.ref (He.ga K "NotClosed")) (.ref (He.ga K "NoAsk")) = some false
 ki_NotClosed_NoFacts : PySem.W.kitOne K (.ref (He.ga K "NotClosed")) (.ref (He.ga K "NoFacts")) = some false
 ki_NotClosed_NoFilling : PySem.W.kitOne K (.ref (He.ga K "NotClosed")) (.ref (He.ga K "NoFilling")) = some false
 ki_NotClosed_NoLine : PySem.W.kitOne K (.ref (He.ga K "NotClosed")) (.ref (He.ga K "NoLine")) = some false
 ki_NotClosed_NoName : PySem.W.kitOne K (.ref (He.ga K "NotClosed")) (.ref (He.ga K "NoName")) = some false
 ki_NotClosed_NoPaper : PySem.W.kitOne K (.ref (He.ga K "NotClosed")) (.ref (He.ga K "NoPaper")) = some false
 ki_NotClosed_NoPlace : PySem.W.kitOne K (.ref (He.ga K "NotClosed")) (.ref (He.ga K "NoPlace")) = some false
 ki_NotClosed_NoRule : PySem.W.kitOne K (.ref (He.ga K "NotClosed")) (.ref (He.ga K "NoRule")) = some false
 ki_NotClosed_NoTerm : PySem.W.kitOne K (.ref (He.ga K "NotClosed")) (.ref (He.ga K "NoTerm")) = some false
 ki_NotClosed_NoText : PySem.W.kitOne K (.ref (He.ga K "NotClosed")) (.ref (He.ga K "NoText")) = some false
 ki_NotClosed_NoTurn : PySem.W.kitOne K (.ref (He.ga K "NotClosed")) (.ref (He.ga K "NoTurn")) = some false
 ki_NotClosed_NoUndo : PySem.W.kitOne K (.ref (He.ga K "NotClosed")) (.ref (He.ga K "NoUndo")) = some false
 ki_NotClosed_NoWeighing : PySem.W.kitOne K (.ref (He.ga K "NotClosed")) (.ref (He.ga K "NoWeighing")) = some false
 ki_NotClosed_NotApart : PySem.W.kitOne K (.ref (He.ga K "NotClosed")) (.ref (He.ga K "NotApart")) = some false
 ki_NotClosed_NotClosed : PySem.W.kitOne K (.ref (He.ga K "NotClosed")) (.ref (He.ga K "NotClosed")) = some true
 ki_NotClosed_NotGood : PySem.W.kitOne K (.ref (He.ga K "NotClosed")) (.ref (He.ga K "NotGood")) = some false
 ki_NotClosed_ShutError : PySem.W.kitOne K (.ref (He.ga K "NotClosed")) (.ref (He.ga K "ShutError")) = some true
 ki_NotClosed_TooLong : PySem.W.kitOne K (.ref (He.ga K "NotClosed")) (.ref (He.ga K "TooLong")) = some false
 ki_NotGood_BadStep : PySem.W.kitOne K (.ref (He.ga K "NotGood")) (.ref (He.ga K "BadStep")) = some false
 ki_NotGood_Clash : PySem.W.kitOne K (.ref (He.ga K "NotGood")) (.ref (He.ga K "Clash")) = some false
 ki_NotGood_HasHoles : PySem.W.kitOne K (.ref (He.ga K "NotGood")) (.ref (He.ga K "HasHoles")) = some false
 ki_NotGood_Missing : PySem.W.kitOne K (.ref (He.ga K "NotGood")) (.ref (He.ga K "Missing")) = some false
 ki_NotGood_NoAsk : PySem.W.kitOne K (.ref (He.ga K "NotGood")) (.ref (He.ga K "NoAsk")) = some false
 ki_NotGood_NoFacts : PySem.W.kitOne K (.ref (He.ga K "NotGood")) (.ref (He.ga K "NoFacts")) = some false
 ki_NotGood_NoFilling : PySem.W.kitOne K (.ref (He.ga K "NotGood")) (.ref (He.ga K "NoFilling")) = some false
 ki_NotGood_NoLine : PySem.W.kitOne K (.ref (He.ga K "NotGood")) (.ref (He.ga K "NoLine")) = some false
 ki_NotGood_NoName : PySem.W.kitOne K (.ref (He.ga K "NotGood")) (.ref (He.ga K "NoName")) = some false
 ki_NotGood_NoPaper : PySem.W.kitOne K (.ref (He.ga K "NotGood")) (.ref (He.ga K "NoPaper")) = some false
 ki_NotGood_NoPlace : PySem.W.kitOne K (.ref (He.ga K "NotGood")) (.ref (He.ga K "NoPlace")) = some false
 ki_NotGood_NoRule : PySem.W.kitOne K (.ref (He.ga K "NotGood")) (.ref (He.ga K "NoRule")) = some false
 ki_NotGood_NoTerm : PySem.W.kitOne K (.ref (He.ga K "NotGood")) (.ref (He.ga K "NoTerm")) = some false
 ki_NotGood_NoText : PySem.W.kitOne K (.ref (He.ga K "NotGood")) (.ref (He.ga K "NoText")) = some false
 ki_NotGood_NoTurn : PySem.W.kitOne K (.ref (He.ga K "NotGood")) (.ref (He.ga K "NoTurn")) = some false
 ki_NotGood_NoUndo : PySem.W.kitOne K (.ref (He.ga K "NotGood")) (.ref (He.ga K "NoUndo")) = some false
 ki_NotGood_NoWeighing : PySem.W.kitOne K (.ref (He.ga K "NotGood")) (.ref (He.ga K "NoWeighing")) = some false
 ki_NotGood_NotApart : PySem.W.kitOne K (.ref (He.ga K "NotGood")) (.ref (He.ga K "NotApart")) = some false
 ki_NotGood_NotClosed : PySem.W.kitOne K (.ref (He.ga K "NotGood")) (.ref (He.ga K "NotClosed")) = some false
 ki_NotGood_NotGood : PySem.W.kitOne K (.ref (He.ga K "NotGood")) (.ref (He.ga K "NotGood")) = some true
 ki_NotGood_ShutError : PySem.W.kitOne K (.ref (He.ga K "NotGood")) (.ref (He.ga K "ShutError")) = some true
 ki_NotGood_TooLong : PySem.W.kitOne K (.ref (He.ga K "NotGood")) (.ref (He.ga K "TooLong")) = some false
 ki_ShutError_BadStep : PySem.W.kitOne K (.ref (He.ga K "ShutError")) (.ref (He.ga K "BadStep")) = some false
 ki_ShutError_Clash : PySem.W.kitOne K (.ref (He.ga K "ShutError")) (.ref (He.ga K "Clash")) = some false
 ki_ShutError_HasHoles : PySem.W.kitOne K (.ref (He.ga K "ShutError")) (.ref (He.ga K "HasHoles")) = some false
 ki_ShutError_Missing : PySem.W.kitOne K (.ref (He.ga K "ShutError")) (.ref (He.ga K "Missing")) = some false
 ki_ShutError_NoAsk : PySem.W.kitOne K (.ref (He.ga K "ShutError")) (.ref (He.ga K "NoAsk")) = some false
 ki_ShutError_NoFacts : PySem.W.kitOne K (.ref (He.ga K "ShutError")) (.ref (He.ga K "NoFacts")) = some false
 ki_ShutError_NoFilling : PySem.W.kitOne K (.ref (He.ga K "ShutError")) (.ref (He.ga K "NoFilling")) = some false
 ki_ShutError_NoLine : PySem.W.kitOne K (.ref (He.ga K "ShutError")) (.ref (He.ga K "NoLine")) = some false
 ki_ShutError_NoName : PySem.W.kitOne K (.ref (He.ga K "ShutError")) (.ref (He.ga K "NoName")) = some false
 ki_ShutError_NoPaper : PySem.W.kitOne K (.ref (He.ga K "ShutError")) (.ref (He.ga K "NoPaper")) = some false
 ki_ShutError_NoPlace : PySem.W.kitOne K (.ref (He.ga K "ShutError")) (.ref (He.ga K "NoPlace")) = some false
 ki_ShutError_NoRule : PySem.W.kitOne K (.ref (He.ga K "ShutError")) (.ref (He.ga K "NoRule")) = some false
 ki_ShutError_NoTerm : PySem.W.kitOne K (.ref (He.ga K "ShutError")) (.ref (He.ga K "NoTerm")) = some false
 ki_ShutError_NoText : PySem.W.kitOne K (.ref (He.ga K "ShutError")) (.ref (He.ga K "NoText")) = some false
 ki_ShutError_NoTurn : PySem.W.kitOne K (.ref (He.ga K "ShutError")) (.ref (He.ga K "NoTurn")) = some false
 ki_ShutError_NoUndo : PySem.W.kitOne K (.ref (He.ga K "ShutError")) (.ref (He.ga K "NoUndo")) = some false
 ki_ShutError_NoWeighing : PySem.W.kitOne K (.ref (He.ga K "ShutError")) (.ref (He.ga K "NoWeighing")) = some false
 ki_ShutError_NotApart : PySem.W.kitOne K (.ref (He.ga K "ShutError")) (.ref (He.ga K "NotApart")) = some false
 ki_ShutError_NotClosed : PySem.W.kitOne K (.ref (He.ga K "ShutError")) (.ref (He.ga K "NotClosed")) = some false
 ki_ShutError_NotGood : PySem.W.kitOne K (.ref (He.ga K "ShutError")) (.ref (He.ga K "NotGood")) = some false
 ki_ShutError_ShutError : PySem.W.kitOne K (.ref (He.ga K "ShutError")) (.ref (He.ga K "ShutError")) = some true
 ki_ShutError_TooLong : PySem.W.kitOne K (.ref (He.ga K "ShutError")) (.ref (He.ga K "TooLong")) = some false
 ki_TooLong_BadStep : PySem.W.kitOne K (.ref (He.ga K "TooLong")) (.ref (He.ga K "BadStep")) = some false
 ki_TooLong_Clash : PySem.W.kitOne K (.ref (He.ga K "TooLong")) (.ref (He.ga K "Clash")) = some false
 ki_TooLong_HasHoles : PySem.W.kitOne K (.ref (He.ga K "TooLong")) (.ref (He.ga K "HasHoles")) = some false
 ki_TooLong_Missing : PySem.W.kitOne K (.ref (He.ga K "TooLong")) (.ref (He.ga K "Missing")) = some false
 ki_TooLong_NoAsk : PySem.W.kitOne K (.ref (He.ga K "TooLong")) (.ref (He.ga K "NoAsk")) = some false
 ki_TooLong_NoFacts : PySem.W.kitOne K (.ref (He.ga K "TooLong")) (.ref (He.ga K "NoFacts")) = some false
 ki_TooLong_NoFilling : PySem.W.kitOne K (.ref (He.ga K "TooLong")) (.ref (He.ga K "NoFilling")) = some false
 ki_TooLong_NoLine : PySem.W.kitOne K (.ref (He.ga K "TooLong")) (.ref (He.ga K "NoLine")) = some false
 ki_TooLong_NoName : PySem.W.kitOne K (.ref (He.ga K "TooLong")) (.ref (He.ga K "NoName")) = some false
 ki_TooLong_NoPaper : PySem.W.kitOne K (.ref (He.ga K "TooLong")) (.ref (He.ga K "NoPaper")) = some false
 ki_TooLong_NoPlace : PySem.W.kitOne K (.ref (He.ga K "TooLong")) (.ref (He.ga K "NoPlace")) = some false
 ki_TooLong_NoRule : PySem.W.kitOne K (.ref (He.ga K "TooLong")) (.ref (He.ga K "NoRule")) = some false
 ki_TooLong_NoTerm : PySem.W.kitOne K (.ref (He.ga K "TooLong")) (.ref (He.ga K "NoTerm")) = some false
 ki_TooLong_NoText : PySem.W.kitOne K (.ref (He.ga K "TooLong")) (.ref (He.ga K "NoText")) = some false
 ki_TooLong_NoTurn : PySem.W.kitOne K (.ref (He.ga K "TooLong")) (.ref (He.ga K "NoTurn")) = some false
 ki_TooLong_NoUndo : PySem.W.kitOne K (.ref (He.ga K "TooLong")) (.ref (He.ga K "NoUndo")) = some false
 ki_TooLong_NoWeighing : PySem.W.kitOne K (.ref (He.ga K "TooLong")) (.ref (He.ga K "NoWeighing")) = some false
 ki_TooLong_NotApart : PySem.W.kitOne K (.ref (He.ga K "TooLong")) (.ref (He.ga K "NotApart")) = some false
 ki_TooLong_NotClosed : PySem.W.kitOne K (.ref (He.ga K "TooLong")) (.ref (He.ga K "NotClosed")) = some false
 ki_TooLong_NotGood : PySem.W.kitOne K (.ref (He.ga K "TooLong")) (.ref (He.ga K "NotGood")) = some false
 ki_TooLong_ShutError : PySem.W.kitOne K (.ref (He.ga K "TooLong")) (.ref (He.ga K "ShutError")) = some true
 ki_TooLong_TooLong : PySem.W.kitOne K (.ref (He.ga K "TooLong")) (.ref (He.ga K "TooLong")) = some true
 kb_BadStep_ValueError : PySem.W.kitOne K (.ref (He.ga K "BadStep")) (.type "ValueError") = some true
 kb_Clash_ValueError : PySem.W.kitOne K (.ref (He.ga K "Clash")) (.type "ValueError") = some true
 kb_HasHoles_ValueError : PySem.W.kitOne K (.ref (He.ga K "HasHoles")) (.type "ValueError") = some true
 kb_Missing_KeyError : PySem.W.kitOne K (.ref (He.ga K "Missing")) (.type "KeyError") = some true
 kb_Missing_ValueError : PySem.W.kitOne K (.ref (He.ga K "Missing")) (.type "ValueError") = some false
 kb_NoAsk_ValueError : PySem.W.kitOne K (.ref (He.ga K "NoAsk")) (.type "ValueError") = some true
 kb_NoFacts_ValueError : PySem.W.kitOne K (.ref (He.ga K "NoFacts")) (.type "ValueError") = some true
 kb_NoFilling_ValueError : PySem.W.kitOne K (.ref (He.ga K "NoFilling")) (.type "ValueError") = some true
 kb_NoLine_ValueError : PySem.W.kitOne K (.ref (He.ga K "NoLine")) (.type "ValueError") = some true
 kb_NoName_ValueError : PySem.W.kitOne K (.ref (He.ga K "NoName")) (.type "ValueError") = some true
 kb_NoPaper_ValueError : PySem.W.kitOne K (.ref (He.ga K "NoPaper")) (.type "ValueError") = some true
 kb_NoPlace_ValueError : PySem.W.kitOne K (.ref (He.ga K "NoPlace")) (.type "ValueError") = some true
 kb_NoRule_ValueError : PySem.W.kitOne K (.ref (He.ga K "NoRule")) (.type "ValueError") = some true
 kb_NoTerm_ValueError : PySem.W.kitOne K (.ref (He.ga K "NoTerm")) (.type "ValueError") = some true
 kb_NoText_ValueError : PySem.W.kitOne K (.ref (He.ga K "NoText")) (.type "ValueError") = some true
 kb_NoTurn_ValueError : PySem.W.kitOne K (.ref (He.ga K "NoTurn")) (.type "ValueError") = some true
 kb_NoUndo_ValueError : PySem.W.kitOne K (.ref (He.ga K "NoUndo")) (.type "ValueError") = some true
 kb_NoWeighing_ValueError : PySem.W.kitOne K (.ref (He.ga K "NoWeighing")) (.type "ValueError") = some true
 kb_NotApart_ValueError : PySem.W.kitOne K (.ref (He.ga K "NotApart")) (.type "ValueError") = some true
 kb_NotClosed_ValueError : PySem.W.kitOne K (.ref (He.ga K "NotClosed")) (.type "ValueError") = some true
 kb_NotGood_ValueError : PySem.W.kitOne K (.ref (He.ga K "NotGood")) (.type "ValueError") = some true
 kb_ShutError_ValueError : PySem.W.kitOne K (.ref (He.ga K "ShutError")) (.type "ValueError") = some true
 kb_TooLong_ValueError : PySem.W.kitOne K (.ref (He.ga K "TooLong")) (.type "ValueError") = some true
 kn_BadStep : PySem.W.kitOne K (.type "NoneType") (.ref (He.ga K "BadStep")) = some false
 kn_Clash : PySem.W.kitOne K (.type "NoneType") (.ref (He.ga K "Clash")) = some false
 kn_HasHoles : PySem.W.kitOne K (.type "NoneType") (.ref (He.ga K "HasHoles")) = some false
 kn_Missing : PySem.W.kitOne K (.type "NoneType") (.ref (He.ga K "Missing")) = some false
 kn_NoAsk : PySem.W.kitOne K (.type "NoneType") (.ref (He.ga K "NoAsk")) = some false
 kn_NoFacts : PySem.W.kitOne K (.type "NoneType") (.ref (He.ga K "NoFacts")) = some false
 kn_NoFilling : PySem.W.kitOne K (.type "NoneType") (.ref (He.ga K "NoFilling")) = some false
 kn_NoLine : PySem.W.kitOne K (.type "NoneType") (.ref (He.ga K "NoLine")) = some false
 kn_NoName : PySem.W.kitOne K (.type "NoneType") (.ref (He.ga K "NoName")) = some false
 kn_NoPaper : PySem.W.kitOne K (.type "NoneType") (.ref (He.ga K "NoPaper")) = some false
 kn_NoPlace : PySem.W.kitOne K (.type "NoneType") (.ref (He.ga K "NoPlace")) = some false
 kn_NoRule : PySem.W.kitOne K (.type "NoneType") (.ref (He.ga K "NoRule")) = some false
 kn_NoTerm : PySem.W.kitOne K (.type "NoneType") (.ref (He.ga K "NoTerm")) = some false
 kn_NoText : PySem.W.kitOne K (.type "NoneType") (.ref (He.ga K "NoText")) = some false
 kn_NoTurn : PySem.W.kitOne K (.type "NoneType") (.ref (He.ga K "NoTurn")) = some false
 kn_NoUndo : PySem.W.kitOne K (.type "NoneType") (.ref (He.ga K "NoUndo")) = some false
 kn_NoWeighing : PySem.W.kitOne K (.type "NoneType") (.ref (He.ga K "NoWeighing")) = some false
 kn_NotApart : PySem.W.kitOne K (.type "NoneType") (.ref (He.ga K "NotApart")) = some false
 kn_NotClosed : PySem.W.kitOne K (.type "NoneType") (.ref (He.ga K "NotClosed")) = some false
 kn_NotGood : PySem.W.kitOne K (.type "NoneType") (.ref (He.ga K "NotGood")) = some false
 kn_ShutError : PySem.W.kitOne K (.type "NoneType") (.ref (He.ga K "ShutError")) = some false
 kn_TooLong : PySem.W.kitOne K (.type "NoneType") (.ref (He.ga K "TooLong")) = some false
 ai_BadStep : Addr
 di_BadStep : FuncData
 Fi_BadStep : FunD K "__init__" "BadStep.__init__" (defArgs si_BadStep) (defBody si_BadStep) (defScope si_BadStep) [] [] ai_BadStep di_BadStep
 X_BadStep : XnC K (He.ga K "BadStep") ai_BadStep
 ai_Clash : Addr
 di_Clash : FuncData
 Fi_Clash : FunD K "__init__" "Clash.__init__" (defArgs si_Clash) (defBody si_Clash) (defScope si_Clash) [] [] ai_Clash di_Clash
 X_Clash : XnC K (He.ga K "Clash") ai_Clash
 ai_Missing : Addr
 di_Missing : FuncData
 Fi_Missing : FunD K "__init__" "Missing.__init__" (defArgs si_Missing) (defBody si_Missing) (defScope si_Missing) [] [] ai_Missing di_Missing
 X_Missing : XkC K (He.ga K "Missing") ai_Missing
 ai_NoPlace : Addr
 di_NoPlace : FuncData
 Fi_NoPlace : FunD K "__init__" "NoPlace.__init__" (defArgs si_NoPlace) (defBody si_NoPlace) (defScope si_NoPlace) [] [] ai_NoPlace di_NoPlace
 X_NoPlace : XnC K (He.ga K "NoPlace") ai_NoPlace
 ai_NoText : Addr
 di_NoText : FuncData
 Fi_NoText : FunD K "__init__" "NoText.__init__" (defArgs si_NoText) (defBody si_NoText) (defScope si_NoText) [] [] ai_NoText di_NoText
 X_NoText : XnC K (He.ga K "NoText") ai_NoText
 ai_NotClosed : Addr
 di_NotClosed : FuncData
 Fi_NotClosed : FunD K "__init__" "NotClosed.__init__" (defArgs si_NotClosed) (defBody si_NotClosed) (defScope si_NotClosed) [] [] ai_NotClosed di_NotClosed
 X_NotClosed : XnC K (He.ga K "NotClosed") ai_NotClosed
 ai_NotGood : Addr
 di_NotGood : FuncData
 Fi_NotGood : FunD K "__init__" "NotGood.__init__" (defArgs si_NotGood) (defBody si_NotGood) (defScope si_NotGood) [] [] ai_NotGood di_NotGood
 X_NotGood : XnC K (He.ga K "NotGood") ai_NotGood
 ai_TooLong : Addr
 di_TooLong : FuncData
 Fi_TooLong : FunD K "__init__" "TooLong.__init__" (defArgs si_TooLong) (defBody si_TooLong) (defScope si_TooLong) [] [] ai_TooLong di_TooLong
 X_TooLong : XnC K (He.ga K "TooLong") ai_TooLong
 a__law_mixed : Addr
 d__law_mixed : FuncData
 F__law_mixed : FunD K "_law_mixed" "_law_mixed" (defArgs s__law_mixed) (defBody s__law_mixed) (defScope s__law_mixed) [] [] a__law_mixed d__law_mixed
 m__law_mixed : mg "_law_mixed" = some (.ref a__law_mixed)
 a__law_pile : Addr
 d__law_pile : FuncData
 F__law_pile : FunD K "_law_pile" "_law_pile" (defArgs s__law_pile) (defBody s__law_pile) (defScope s__law_pile) [] [] a__law_pile d__law_pile
 m__law_pile : mg "_law_pile" = some (.ref a__law_pile)
 a__law_take : Addr
 d__law_take : FuncData
 F__law_take : FunD K "_law_take" "_law_take" (defArgs s__law_take) (defBody s__law_take) (defScope s__law_take) [] [] a__law_take d__law_take
 m__law_take : mg "_law_take" = some (.ref a__law_take)
 a__law_name : Addr
 d__law_name : FuncData
 F__law_name : FunD K "_law_name" "_law_name" (defArgs s__law_name) (defBody s__law_name) (defScope s__law_name) [] [] a__law_name d__law_name
 m__law_name : mg "_law_name" = some (.ref a__law_name)
 a__law_words : Addr
 d__law_words : FuncData
 F__law_words : FunD K "_law_words" "_law_words" (defArgs s__law_words) (defBody s__law_words) (defScope s__law_words) [] [] a__law_words d__law_words
 m__law_words : mg "_law_words" = some (.ref a__law_words)
 a__law_plain : Addr
 d__law_plain : FuncData
 F__law_plain : FunD K "_law_plain" "_law_plain" (defArgs s__law_plain) (defBody s__law_plain) (defScope s__law_plain) [] [] a__law_plain d__law_plain
 m__law_plain : mg "_law_plain" = some (.ref a__law_plain)
 a__law_fields : Addr
 d__law_fields : FuncData
 F__law_fields : FunD K "_law_fields" "_law_fields" (defArgs s__law_fields) (defBody s__law_fields) (defScope s__law_fields) [] [] a__law_fields d__law_fields
 m__law_fields : mg "_law_fields" = some (.ref a__law_fields)
 a__law_right : Addr
 d__law_right : FuncData
 F__law_right : FunD K "_law_right" "_law_right" (defArgs s__law_right) (defBody s__law_right) (defScope s__law_right) [] [] a__law_right d__law_right
 m__law_right : mg "_law_right" = some (.ref a__law_right)
 a__law_taken : Addr
 d__law_taken : FuncData
 F__law_taken : FunD K "_law_taken" "_law_taken" (defArgs s__law_taken) (defBody s__law_taken) (defScope s__law_taken) [] [] a__law_taken d__law_taken
 m__law_taken : mg "_law_taken" = some (.ref a__law_taken)
 a_law : Addr
 d_law : FuncData
 F_law : FunD K "law" "law" (defArgs s_law) (defBody s_law) (defScope s_law) [] [] a_law d_law
 m_law : mg "law" = some (.ref a_law)
section
variable {K : Frag} {mg : Str → Option Value} {base : Heap}
theorem bni_BadStep (W : Wd K mg) : Binds K W.di_BadStep ["self", "at"] [] := W.Fi_BadStep.bindsN fun _ _ _ _ _ _ us hl => match us, hl with | [_, _], _ => rfl
theorem bnik_BadStep (W : Wd K mg) : KBn K W.di_BadStep ["self", "at"] 1 ["at"] (fun us ws => us ++ pmI ws) (fun vs zs => vs ++ pmI zs) := kb_of W.Fi_BadStep (g := fun us ws => us ++ pmI ws) (fun r1 r2 => r1.append r2) fun _ _ _ _ _ _ us ws h1 h2 => match us, h1, ws, h2 with | [_], _, [_], _ => rfl
theorem oki_BadStep (W : Wd K mg) : FnOk P DL.TheW.w K mg base (CXR rg P DL.TheW.w) 1 W.ai_BadStep W.di_BadStep ["self", "at"] (spI (He.ga K "BadStep") ["at"]) :=
 fn_init1 (k := 0) (m := .str "no such step") W.Fi_BadStep sci_BadStep W.X_BadStep.T W.na_BadStep_at fun cdv A outer s H E => (pss_cons (ps_expr (pe_oinit W.B_ShutError glA W.n_ShutError (by kernel_rfl) (pa_cons (pe_var (i := 0) rfl (vis_of (by kernel_rfl)) (by kernel_rfl) (by kernel_rfl)) (pa_cons pe_str pa_nil)))) (pss_one (ps_ost (pe_var (i := 0) rfl (vis_of (by kernel_rfl)) (by kernel_rfl) (by kernel_rfl)) (pe_var (i := 1) rfl (vis_of (by kernel_rfl)) (by kernel_rfl) (by kernel_rfl)))))
theorem bni_Clash (W : Wd K mg) : Binds K W.di_Clash ["self", "lot"] [] := W.Fi_Clash.bindsN fun _ _ _ _ _ _ us hl => match us, hl with | [_, _], _ => rfl
theorem bnik_Clash (W : Wd K mg) : KBn K W.di_Clash ["self", "lot"] 1 ["lot"] (fun us ws => us ++ pmI ws) (fun vs zs => vs ++ pmI zs) := kb_of W.Fi_Clash (g := fun us ws => us ++ pmI ws) (fun r1 r2 => r1.append r2) fun _ _ _ _ _ _ us ws h1 h2 => match us, h1, ws, h2 with | [_], _, [_], _ => rfl
theorem oki_Clash (W : Wd K mg) : FnOk P DL.TheW.w K mg base (CXR rg P DL.TheW.w) 1 W.ai_Clash W.di_Clash ["self", "lot"] (spI (He.ga K "Clash") ["lot"]) :=
 fn_init1 (k := 0) (m := .str "not together") W.Fi_Clash sci_Clash W.X_Clash.T W.na_Clash_lot fun cdv A outer s H E => (pss_cons (ps_expr (pe_oinit W.B_ShutError glA W.n_ShutError (by kernel_rfl) (pa_cons (pe_var (i := 0) rfl (vis_of (by kernel_rfl)) (by kernel_rfl) (by kernel_rfl)) (pa_cons pe_str pa_nil)))) (pss_one (ps_ost (pe_var (i := 0) rfl (vis_of (by kernel_rfl)) (by kernel_rfl) (by kernel_rfl)) (pe_var (i := 1) rfl (vis_of (by kernel_rfl)) (by kernel_rfl) (by kernel_rfl)))))
theorem bni_Missing (W : Wd K mg) : Binds K W.di_Missing ["self", "number"] [] := W.Fi_Missing.bindsN fun _ _ _ _ _ _ us hl => match us, hl with | [_, _], _ => rfl
theorem bnik_Missing (W : Wd K mg) : KBn K W.di_Missing ["self", "number"] 1 ["number"] (fun us ws => us ++ pmI ws) (fun vs zs => vs ++ pmI zs) := kb_of W.Fi_Missing (g := fun us ws => us ++ pmI ws) (fun r1 r2 => r1.append r2) fun _ _ _ _ _ _ us ws h1 h2 => match us, h1, ws, h2 with | [_], _, [_], _ => rfl
theorem oki_Missing (W : Wd K mg) : FnOk P DL.TheW.w K mg base (CXR rg P DL.TheW.w) 1 W.ai_Missing W.di_Missing ["self", "number"] (spI (He.ga K "Missing") ["number"]) :=
 fn_init1K (k := 0) (m := .str "missing") W.Fi_Missing sci_Missing W.X_Missing.T W.na_Missing_number fun cdv A outer s H E => (pss_cons (ps_expr (pe_keinit glA W.b_KeyError (by kernel_rfl) (pa_cons (pe_var (i := 0) rfl (vis_of (by kernel_rfl)) (by kernel_rfl) (by kernel_rfl)) (pa_cons pe_str pa_nil)))) (pss_one (ps_ostK (pe_var (i := 0) rfl (vis_of (by kernel_rfl)) (by kernel_rfl) (by kernel_rfl)) (pe_var (i := 1) rfl (vis_of (by kernel_rfl)) (by kernel_rfl) (by kernel_rfl)))))
theorem bni_NoPlace (W : Wd K mg) : Binds K W.di_NoPlace ["self", "place"] [] := W.Fi_NoPlace.bindsN fun _ _ _ _ _ _ us hl => match us, hl with | [_, _], _ => rfl
theorem bnik_NoPlace (W : Wd K mg) : KBn K W.di_NoPlace ["self", "place"] 1 ["place"] (fun us ws => us ++ pmI ws) (fun vs zs => vs ++ pmI zs) := kb_of W.Fi_NoPlace (g := fun us ws => us ++ pmI ws) (fun r1 r2 => r1.append r2) fun _ _ _ _ _ _ us ws h1 h2 => match us, h1, ws, h2 with | [_], _, [_], _ => rfl
theorem oki_NoPlace (W : Wd K mg) : FnOk P DL.TheW.w K mg base (CXR rg P DL.TheW.w) 1 W.ai_NoPlace W.di_NoPlace ["self", "place"] (spI (He.ga K "NoPlace") ["place"]) :=
 fn_init1 (k := 0) (m := .str "no place") W.Fi_NoPlace sci_NoPlace W.X_NoPlace.T W.na_NoPlace_place fun cdv A outer s H E => (pss_cons (ps_expr (pe_oinit W.B_ShutError glA W.n_ShutError (by kernel_rfl) (pa_cons (pe_var (i := 0) rfl (vis_of (by kernel_rfl)) (by kernel_rfl) (by kernel_rfl)) (pa_cons pe_str pa_nil)))) (pss_one (ps_ost (pe_var (i := 0) rfl (vis_of (by kernel_rfl)) (by kernel_rfl) (by kernel_rfl)) (pe_var (i := 1) rfl (vis_of (by kernel_rfl)) (by kernel_rfl) (by kernel_rfl)))))
theorem bni_NoText (W : Wd K mg) : Binds K W.di_NoText ["self", "at"] [] := W.Fi_NoText.bindsN fun _ _ _ _ _ _ us hl => match us, hl with | [_, _], _ => rfl
theorem bnik_NoText (W : Wd K mg) : KBn K W.di_NoText ["self", "at"] 1 ["at"] (fun us ws => us ++ pmI ws) (fun vs zs => vs ++ pmI zs) := kb_of W.Fi_NoText (g := fun us ws => us ++ pmI ws) (fun r1 r2 => r1.append r2) fun _ _ _ _ _ _ us ws h1 h2 => match us, h1, ws, h2 with | [_], _, [_], _ => rfl
theorem oki_NoText (W : Wd K mg) : FnOk P DL.TheW.w K mg base (CXR rg P DL.TheW.w) 1 W.ai_NoText W.di_NoText ["self", "at"] (spI (He.ga K "NoText") ["at"]) :=
 fn_init1 (k := 0) (m := .str "no text") W.Fi_NoText sci_NoText W.X_NoText.T W.na_NoText_at fun cdv A outer s H E => (pss_cons (ps_expr (pe_oinit W.B_ShutError glA W.n_ShutError (by kernel_rfl) (pa_cons (pe_var (i := 0) rfl (vis_of (by kernel_rfl)) (by kernel_rfl) (by kernel_rfl)) (pa_cons pe_str pa_nil)))) (pss_one (ps_ost (pe_var (i := 0) rfl (vis_of (by kernel_rfl)) (by kernel_rfl) (by kernel_rfl)) (pe_var (i := 1) rfl (vis_of (by kernel_rfl)) (by kernel_rfl) (by kernel_rfl)))))
theorem bni_NotClosed (W : Wd K mg) : Binds K W.di_NotClosed ["self", "name", "hole"] [] := W.Fi_NotClosed.bindsN fun _ _ _ _ _ _ us hl => match us, hl with | [_, _, _], _ => rfl
theorem bnikr_NotClosed (W : Wd K mg) : KBn K W.di_NotClosed ["self", "name", "hole"] 1 ["hole", "name"] (fun us ws => us ++ List.reverse ws) (fun vs zs => vs ++ List.reverse zs) := kb_of W.Fi_NotClosed (g := fun us ws => us ++ List.reverse ws) (fun r1 r2 => r1.append r2.reverse) fun _ _ _ _ _ _ us ws h1 h2 => match us, h1, ws, h2 with | [_], _, [_, _], _ => rfl
theorem oki_NotClosed (W : Wd K mg) : FnOk P DL.TheW.w K mg base (CXR rg P DL.TheW.w) 1 W.ai_NotClosed W.di_NotClosed ["self", "name", "hole"] (spI (He.ga K "NotClosed") ["name", "hole"]) :=
 fn_init2 (k := 0) (m := .str "not closed") W.Fi_NotClosed sci_NotClosed W.X_NotClosed.T W.na_NotClosed_name W.na_NotClosed_hole fun cdv A outer s H E => (pss_cons (ps_expr (pe_oinit W.B_ShutError glA W.n_ShutError (by kernel_rfl) (pa_cons (pe_var (i := 0) rfl (vis_of (by kernel_rfl)) (by kernel_rfl) (by kernel_rfl)) (pa_cons pe_str pa_nil)))) (pss_cons (ps_ost (pe_var (i := 0) rfl (vis_of (by kernel_rfl)) (by kernel_rfl) (by kernel_rfl)) (pe_var (i := 1) rfl (vis_of (by kernel_rfl)) (by kernel_rfl) (by kernel_rfl))) (pss_one (ps_ost (pe_var (i := 0) rfl (vis_of (by kernel_rfl)) (by kernel_rfl) (by kernel_rfl)) (pe_var (i := 2) rfl (vis_of (by kernel_rfl)) (by kernel_rfl) (by kernel_rfl))))))
theorem bni_NotGood (W : Wd K mg) : Binds K W.di_NotGood ["self", "verdict"] [] := W.Fi_NotGood.bindsN fun _ _ _ _ _ _ us hl => match us, hl with | [_, _], _ => rfl
theorem bnik_NotGood (W : Wd K mg) : KBn K W.di_NotGood ["self", "verdict"] 1 ["verdict"] (fun us ws => us ++ pmI ws) (fun vs zs => vs ++ pmI zs) := kb_of W.Fi_NotGood (g := fun us ws => us ++ pmI ws) (fun r1 r2 => r1.append r2) fun _ _ _ _ _ _ us ws h1 h2 => match us, h1, ws, h2 with | [_], _, [_], _ => rfl
theorem oki_NotGood (W : Wd K mg) : FnOk P DL.TheW.w K mg base (CXR rg P DL.TheW.w) 1 W.ai_NotGood W.di_NotGood ["self", "verdict"] (spI (He.ga K "NotGood") ["verdict"]) :=
 fn_init1 (k := 0) (m := .str "not good") W.Fi_NotGood sci_NotGood W.X_NotGood.T W.na_NotGood_verdict fun cdv A outer s H E => (pss_cons (ps_expr (pe_oinit W.B_ShutError glA W.n_ShutError (by kernel_rfl) (pa_cons (pe_var (i := 0) rfl (vis_of (by kernel_rfl)) (by kernel_rfl) (by kernel_rfl)) (pa_cons pe_str pa_nil)))) (pss_one (ps_ost (pe_var (i := 0) rfl (vis_of (by kernel_rfl)) (by kernel_rfl) (by kernel_rfl)) (pe_var (i := 1) rfl (vis_of (by kernel_rfl)) (by kernel_rfl) (by kernel_rfl)))))
theorem bni_TooLong (W : Wd K mg) : Binds K W.di_TooLong ["self", "most"] [] := W.Fi_TooLong.bindsN fun _ _ _ _ _ _ us hl => match us, hl with | [_, _], _ => rfl
theorem bnik_TooLong (W : Wd K mg) : KBn K W.di_TooLong ["self", "most"] 1 ["most"] (fun us ws => us ++ pmI ws) (fun vs zs => vs ++ pmI zs) := kb_of W.Fi_TooLong (g := fun us ws => us ++ pmI ws) (fun r1 r2 => r1.append r2) fun _ _ _ _ _ _ us ws h1 h2 => match us, h1, ws, h2 with | [_], _, [_], _ => rfl
theorem oki_TooLong (W : Wd K mg) : FnOk P DL.TheW.w K mg base (CXR rg P DL.TheW.w) 1 W.ai_TooLong W.di_TooLong ["self", "most"] (spI (He.ga K "TooLong") ["most"]) :=
 fn_init1 (k := 0) (m := .str "too long") W.Fi_TooLong sci_TooLong W.X_TooLong.T W.na_TooLong_most fun cdv A outer s H E => (pss_cons (ps_expr (pe_oinit W.B_ShutError glA W.n_ShutError (by kernel_rfl) (pa_cons (pe_var (i := 0) rfl (vis_of (by kernel_rfl)) (by kernel_rfl) (by kernel_rfl)) (pa_cons pe_str pa_nil)))) (pss_one (ps_ost (pe_var (i := 0) rfl (vis_of (by kernel_rfl)) (by kernel_rfl) (by kernel_rfl)) (pe_var (i := 1) rfl (vis_of (by kernel_rfl)) (by kernel_rfl) (by kernel_rfl)))))
theorem bn__law_mixed (W : Wd K mg) : Binds K W.d__law_mixed ["_law_cell", "_law_k"] [] := W.F__law_mixed.bindsN fun _ _ _ _ _ _ us hl => match us, hl with | [_, _], _ => rfl
theorem bn__law_pile (W : Wd K mg) : Binds K W.d__law_pile ["_law_script", "_law_k"] [] := W.F__law_pile.bindsN fun _ _ _ _ _ _ us hl => match us, hl with | [_, _], _ => rfl
theorem bn__law_take (W : Wd K mg) : Binds K W.d__law_take ["_law_pile_here", "_law_many"] [] := W.F__law_take.bindsN fun _ _ _ _ _ _ us hl => match us, hl with | [_, _], _ => rfl
theorem bn__law_name (W : Wd K mg) : Binds K W.d__law_name ["_law_pile_here"] [] := W.F__law_name.bindsN fun _ _ _ _ _ _ us hl => match us, hl with | [_], _ => rfl
theorem bn__law_words (W : Wd K mg) : Binds K W.d__law_words ["_law_thing"] [] := W.F__law_words.bindsN fun _ _ _ _ _ _ us hl => match us, hl with | [_], _ => rfl
theorem bn__law_plain (W : Wd K mg) : Binds K W.d__law_plain [] [] := W.F__law_plain.bindsN fun _ _ _ _ _ _ us hl => match us, hl with | [], _ => rfl
theorem bn__law_fields (W : Wd K mg) : Binds K W.d__law_fields ["_law_amount", "_law_called", "_law_row"] [] := W.F__law_fields.bindsN fun _ _ _ _ _ _ us hl => match us, hl with | [_, _, _], _ => rfl
theorem bn__law_right (W : Wd K mg) : Binds K W.d__law_right ["_law_some", "_law_amount", "_law_called", "_law_row"] [] := W.F__law_right.bindsN fun _ _ _ _ _ _ us hl => match us, hl with | [_, _, _, _], _ => rfl
theorem bn__law_taken (W : Wd K mg) : Binds K W.d__law_taken ["_law_amount"] [] := W.F__law_taken.bindsN fun _ _ _ _ _ _ us hl => match us, hl with | [_], _ => rfl
theorem ok__law_mixed (W : Wd K mg) : FnOk P DL.TheW.w K mg base (CXR rg P DL.TheW.w) 1 W.a__law_mixed W.d__law_mixed ["_law_cell", "_law_k"] (spF K (He.ga K) f__law_mixed) := by
  refine fn_rule (N := ["_law_cell", "_law_k", "_law_mixed_here"]) (k := 0) [] W.F__law_mixed sc__law_mixed fun cdv A outer s H E F O σ hr tk => ?_
  have hu := u64 hr
  have hw := u65 hr
  have hv := u66 hr
  have NN := sc__law_mixed.nd
  exact (ss_cons (sv_set (i := 2) NN (se_bin od_mod (se_bin od_add (se_bin od_add (se_bin od_mulK (vvA 0) se_int) (se_bin od_mulK (vvA 1) se_int)) se_int) se_int) rfl loA)
    (ss_cons (sv_set (i := 2) NN (se_bin od_mod (se_bin od_mul (vvA 2) (vvA 2)) se_int) rfl loA)
    (ss_one (sv_ret (so_d (se_bin od_div (se_bin od_mod (se_bin od_mul (vvA 2) (vvA 2)) se_int) se_int))))))
theorem ok__law_pile (W : Wd K mg) : FnOk P DL.TheW.w K mg base (CXR rg P DL.TheW.w) 1 W.a__law_pile W.d__law_pile ["_law_script", "_law_k"] (spF K (He.ga K) f__law_pile) := by
  refine fn_rule (N := ["_law_script", "_law_k", "_law_cell", "_law_digits"]) (k := 0) [] W.F__law_pile sc__law_pile fun cdv A outer s H E F O σ hr tk => ?_
  have hu := u64 hr
  have hw := u65 hr
  have hv := u66 hr
  have NN := sc__law_pile.nd
  exact (ss_cons (sv_set (i := 2) NN se_int rfl loA)
    (ss_cons (sv_kill [] (sv_if (st_cmp od_lt (vvA 1) (se_b1 cd_len W.b_len (vvA 0))) (ss_one (sv_set (i := 2) NN (se_ix hu (vvA 0) (vvA 1)) rfl loA)) ss_nil))
    (ss_cons (sv_set (i := 3) NN (se_bin od_mod (vvA 2) (se_bin od_mul (se_bin od_mul (se_bin od_pow se_int se_int) (se_bin od_pow se_int se_int)) (se_bin od_pow se_int se_int))) rfl loA)
    (ss_one (sv_ret (so_n (n_lst (sa_cons (se_bin od_mul (vvA 3) (se_t1 cd_int W.b_int (se_cmp od_ge (se_b1 cd_abs W.b_abs (vvA 2)) (se_bin od_pow se_int se_int)))) (sa_cons (se_bin od_mod (vvA 2) se_int) (sa_cons (se_bin od_mul se_int (vvA 1)) sa_nil))))))))))
theorem ok__law_take (W : Wd K mg) : FnOk P DL.TheW.w K mg base (CXR rg P DL.TheW.w) 2 W.a__law_take W.d__law_take ["_law_pile_here", "_law_many"] (spF K (He.ga K) f__law_take) := by
  refine fn_rule (N := ["_law_pile_here", "_law_many", "_law_digit"]) (k := 1) [0] W.F__law_take sc__law_take fun cdv A outer s H E F O σ hr tk => ?_
  have hu := u64 hr
  have hw := u65 hr
  have hv := u66 hr
  have NN := sc__law_take.nd
  exact (ss_cons (sv_if (st_cmp (od_eq hu) (se_ix hu (vkA 0) se_int) se_int) (ss_cons (sv_put 0 rfl se_int (se_bin od_add (se_ix hu (vkA 0) se_int) se_int) (vis_of (by kernel_rfl)) (by kernel_rfl) (by kernel_rfl))
    (ss_one (sv_ret (so_d (se_bin od_mod (se_frz (so_call (ok__law_mixed W) (hr.mono (by omega)) W.m__law_mixed W.F__law_mixed.kp (bn__law_mixed W) tk (sg_d (se_ix hu (vkA 0) se_int) (sg_d (se_ix hu (vkA 0) se_int) sg_nil)) glA (by kernel_rfl))) (vvA 1)))))) ss_nil)
    (ss_cons (sv_set (i := 2) NN (se_bin od_mod (se_ix hu (vkA 0) se_int) (vvA 1)) rfl loA)
    (ss_cons (sv_put 0 rfl se_int (se_bin od_div (se_ix hu (vkA 0) se_int) (vvA 1)) (vis_of (by kernel_rfl)) (by kernel_rfl) (by kernel_rfl))
    (ss_one (sv_ret (so_d (vvA 2)))))))
theorem ok__law_name (W : Wd K mg) : FnOk P DL.TheW.w K mg base (CXR rg P DL.TheW.w) 3 W.a__law_name W.d__law_name ["_law_pile_here"] (spF K (He.ga K) f__law_name) := by
  refine fn_rule (N := ["_law_pile_here", "_law_kind", "_law_letters", "_law_word", "_law_k"]) (k := 2) [0] W.F__law_name sc__law_name fun cdv A outer s H E F O σ hr tk => ?_
  have hu := u64 hr
  have hw := u65 hr
  have hv := u66 hr
  have NN := sc__law_name.nd
  exact (ss_cons (sv_set (i := 1) NN (se_frz (so_call (ok__law_take W) (hr.mono (by omega)) W.m__law_take W.F__law_take.kp (bn__law_take W) tk (sg_o 0 (sg_d se_int sg_nil) rfl (vis_of (by kernel_rfl)) (by kernel_rfl) (by kernel_rfl)) glA (by kernel_rfl))) rfl loA)
    (ss_cons (sv_set (i := 2) NN se_str rfl loA)
    (ss_cons (sv_set (i := 3) NN (se_ix hu (vvA 2) (se_frz (so_call (ok__law_take W) (hr.mono (by omega)) W.m__law_take W.F__law_take.kp (bn__law_take W) tk (sg_o 0 (sg_d (se_ix hu (se_n (n_lst (sa_cons se_int (sa_cons se_int sa_nil)))) (se_t1 cd_int W.b_int (se_cmp od_gt (vvA 1) se_int))) sg_nil) rfl (vis_of (by kernel_rfl)) (by kernel_rfl) (by kernel_rfl)) glA (by kernel_rfl)))) rfl loA)
    (ss_cons (sv_kill [] (sv_if (st_cmp (od_eq hu) (vvA 1) se_int) (ss_one (sv_set (i := 3) NN (se_bin od_add (vvA 3) (se_t1 cd_str W.b_str (se_frz (so_call (ok__law_take W) (hr.mono (by omega)) W.m__law_take W.F__law_take.kp (bn__law_take W) tk (sg_o 0 (sg_d se_int sg_nil) rfl (vis_of (by kernel_rfl)) (by kernel_rfl) (by kernel_rfl)) glA (by kernel_rfl))))) rfl loA)) ss_nil))
    (ss_cons (sv_kill [4] (sv_if (st_cmp (od_eq hu) (vvA 1) se_int) (ss_one (sv_killB [4] (sv_for (passes_of rfl) rfl (si_range1 W.b_range (se_bin od_add se_int (se_frz (so_call (ok__law_take W) (hr.mono (by omega)) W.m__law_take W.F__law_take.kp (bn__law_take W) tk (sg_o 0 (sg_d se_int sg_nil) rfl (vis_of (by kernel_rfl)) (by kernel_rfl) (by kernel_rfl)) glA (by kernel_rfl))))) (fun F1 H1 O1 σ1 => (tg_name (i := 4) NN rfl loA)) (fun F1 H1 O1 σ1 => (ss_kill [4] (ss_one (sv_set (i := 3) NN (se_bin od_add (vvA 3) (se_ix hu (se_bin od_add (vvA 2) se_str) (se_frz (so_call (ok__law_take W) (hr.mono (by omega)) W.m__law_take W.F__law_take.kp (bn__law_take W) tk (sg_o 0 (sg_d se_int sg_nil) rfl (vis_of (by kernel_rfl)) (by kernel_rfl) (by kernel_rfl)) glA (by kernel_rfl))))) rfl loA))))))) ss_nil))
    (ss_one (sv_ret (so_d (vvA 3)))))))))
theorem ok__law_words (W : Wd K mg) : FnOk P DL.TheW.w K mg base (CXR rg P DL.TheW.w) 1 W.a__law_words W.d__law_words ["_law_thing"] (spF K (He.ga K) f__law_words) := by
  refine fn_rule (N := ["_law_thing", "_law_found", "_law_k", "_law_one"]) (k := 0) [] W.F__law_words sc__law_words fun cdv A outer s H E F O σ hr tk => ?_
  have hu := u64 hr
  have hw := u65 hr
  have hv := u66 hr
  have NN := sc__law_words.nd
  exact (ss_cons (sv_set (i := 1) NN (se_n (n_lst (sa_cons (se_isx [("BadStep", false), ("Clash", false), ("HasHoles", false), ("Missing", false), ("NoAsk", false), ("NoFacts", false), ("NoFilling", false), ("NoLine", false), ("NoName", true), ("NoPaper", false), ("NoPlace", false), ("NoRule", false), ("NoTerm", false), ("NoText", false), ("NoTurn", false), ("NoUndo", false), ("NoWeighing", false), ("NotApart", false), ("NotClosed", false), ("NotGood", false), ("ShutError", false), ("TooLong", false)] W.b_isinstance W.n_NoName (isx_cons W.xk_BadStep W.ki_BadStep_NoName (isx_cons W.xk_Clash W.ki_Clash_NoName (isx_cons W.xk_HasHoles W.ki_HasHoles_NoName (isx_cons W.xk_Missing W.ki_Missing_NoName (isx_cons W.xk_NoAsk W.ki_NoAsk_NoName (isx_cons W.xk_NoFacts W.ki_NoFacts_NoName (isx_cons W.xk_NoFilling W.ki_NoFilling_NoName (isx_cons W.xk_NoLine W.ki_NoLine_NoName (isx_cons W.xk_NoName W.ki_NoName_NoName (isx_cons W.xk_NoPaper W.ki_NoPaper_NoName (isx_cons W.xk_NoPlace W.ki_NoPlace_NoName (isx_cons W.xk_NoRule W.ki_NoRule_NoName (isx_cons W.xk_NoTerm W.ki_NoTerm_NoName (isx_cons W.xk_NoText W.ki_NoText_NoName (isx_cons W.xk_NoTurn W.ki_NoTurn_NoName (isx_cons W.xk_NoUndo W.ki_NoUndo_NoName (isx_cons W.xk_NoWeighing W.ki_NoWeighing_NoName (isx_cons W.xk_NotApart W.ki_NotApart_NoName (isx_cons W.xk_NotClosed W.ki_NotClosed_NoName (isx_cons W.xk_NotGood W.ki_NotGood_NoName (isx_cons W.xk_ShutError W.ki_ShutError_NoName (isx_cons W.xk_TooLong W.ki_TooLong_NoName isx_nil)))))))))))))))))))))) W.kn_NoName (vvA 0)) (sa_cons (se_isx [("BadStep", false), ("Clash", false), ("HasHoles", false), ("Missing", false), ("NoAsk", false), ("NoFacts", false), ("NoFilling", false), ("NoLine", false), ("NoName", false), ("NoPaper", false), ("NoPlace", false), ("NoRule", false), ("NoTerm", false), ("NoText", false), ("NoTurn", true), ("NoUndo", false), ("NoWeighing", false), ("NotApart", false), ("NotClosed", false), ("NotGood", false), ("ShutError", false), ("TooLong", false)] W.b_isinstance W.n_NoTurn (isx_cons W.xk_BadStep W.ki_BadStep_NoTurn (isx_cons W.xk_Clash W.ki_Clash_NoTurn (isx_cons W.xk_HasHoles W.ki_HasHoles_NoTurn (isx_cons W.xk_Missing W.ki_Missing_NoTurn (isx_cons W.xk_NoAsk W.ki_NoAsk_NoTurn (isx_cons W.xk_NoFacts W.ki_NoFacts_NoTurn (isx_cons W.xk_NoFilling W.ki_NoFilling_NoTurn (isx_cons W.xk_NoLine W.ki_NoLine_NoTurn (isx_cons W.xk_NoName W.ki_NoName_NoTurn (isx_cons W.xk_NoPaper W.ki_NoPaper_NoTurn (isx_cons W.xk_NoPlace W.ki_NoPlace_NoTurn (isx_cons W.xk_NoRule W.ki_NoRule_NoTurn (isx_cons W.xk_NoTerm W.ki_NoTerm_NoTurn (isx_cons W.xk_NoText W.ki_NoText_NoTurn (isx_cons W.xk_NoTurn W.ki_NoTurn_NoTurn (isx_cons W.xk_NoUndo W.ki_NoUndo_NoTurn (isx_cons W.xk_NoWeighing W.ki_NoWeighing_NoTurn (isx_cons W.xk_NotApart W.ki_NotApart_NoTurn (isx_cons W.xk_NotClosed W.ki_NotClosed_NoTurn (isx_cons W.xk_NotGood W.ki_NotGood_NoTurn (isx_cons W.xk_ShutError W.ki_ShutError_NoTurn (isx_cons W.xk_TooLong W.ki_TooLong_NoTurn isx_nil)))))))))))))))))))))) W.kn_NoTurn (vvA 0)) (sa_cons (se_isx [("BadStep", false), ("Clash", false), ("HasHoles", false), ("Missing", false), ("NoAsk", false), ("NoFacts", false), ("NoFilling", false), ("NoLine", false), ("NoName", false), ("NoPaper", false), ("NoPlace", false), ("NoRule", false), ("NoTerm", true), ("NoText", false), ("NoTurn", false), ("NoUndo", false), ("NoWeighing", false), ("NotApart", false), ("NotClosed", false), ("NotGood", false), ("ShutError", false), ("TooLong", false)] W.b_isinstance W.n_NoTerm (isx_cons W.xk_BadStep W.ki_BadStep_NoTerm (isx_cons W.xk_Clash W.ki_Clash_NoTerm (isx_cons W.xk_HasHoles W.ki_HasHoles_NoTerm (isx_cons W.xk_Missing W.ki_Missing_NoTerm (isx_cons W.xk_NoAsk W.ki_NoAsk_NoTerm (isx_cons W.xk_NoFacts W.ki_NoFacts_NoTerm (isx_cons W.xk_NoFilling W.ki_NoFilling_NoTerm (isx_cons W.xk_NoLine W.ki_NoLine_NoTerm (isx_cons W.xk_NoName W.ki_NoName_NoTerm (isx_cons W.xk_NoPaper W.ki_NoPaper_NoTerm (isx_cons W.xk_NoPlace W.ki_NoPlace_NoTerm (isx_cons W.xk_NoRule W.ki_NoRule_NoTerm (isx_cons W.xk_NoTerm W.ki_NoTerm_NoTerm (isx_cons W.xk_NoText W.ki_NoText_NoTerm (isx_cons W.xk_NoTurn W.ki_NoTurn_NoTerm (isx_cons W.xk_NoUndo W.ki_NoUndo_NoTerm (isx_cons W.xk_NoWeighing W.ki_NoWeighing_NoTerm (isx_cons W.xk_NotApart W.ki_NotApart_NoTerm (isx_cons W.xk_NotClosed W.ki_NotClosed_NoTerm (isx_cons W.xk_NotGood W.ki_NotGood_NoTerm (isx_cons W.xk_ShutError W.ki_ShutError_NoTerm (isx_cons W.xk_TooLong W.ki_TooLong_NoTerm isx_nil)))))))))))))))))))))) W.kn_NoTerm (vvA 0)) sa_nil))))) rfl loA)
    (ss_cons (sv_set (i := 1) NN (se_bin od_add (vvA 1) (se_n (n_lst (sa_cons (se_isx [("BadStep", false), ("Clash", false), ("HasHoles", true), ("Missing", false), ("NoAsk", false), ("NoFacts", false), ("NoFilling", false), ("NoLine", false), ("NoName", false), ("NoPaper", false), ("NoPlace", false), ("NoRule", false), ("NoTerm", false), ("NoText", false), ("NoTurn", false), ("NoUndo", false), ("NoWeighing", false), ("NotApart", false), ("NotClosed", false), ("NotGood", false), ("ShutError", false), ("TooLong", false)] W.b_isinstance W.n_HasHoles (isx_cons W.xk_BadStep W.ki_BadStep_HasHoles (isx_cons W.xk_Clash W.ki_Clash_HasHoles (isx_cons W.xk_HasHoles W.ki_HasHoles_HasHoles (isx_cons W.xk_Missing W.ki_Missing_HasHoles (isx_cons W.xk_NoAsk W.ki_NoAsk_HasHoles (isx_cons W.xk_NoFacts W.ki_NoFacts_HasHoles (isx_cons W.xk_NoFilling W.ki_NoFilling_HasHoles (isx_cons W.xk_NoLine W.ki_NoLine_HasHoles (isx_cons W.xk_NoName W.ki_NoName_HasHoles (isx_cons W.xk_NoPaper W.ki_NoPaper_HasHoles (isx_cons W.xk_NoPlace W.ki_NoPlace_HasHoles (isx_cons W.xk_NoRule W.ki_NoRule_HasHoles (isx_cons W.xk_NoTerm W.ki_NoTerm_HasHoles (isx_cons W.xk_NoText W.ki_NoText_HasHoles (isx_cons W.xk_NoTurn W.ki_NoTurn_HasHoles (isx_cons W.xk_NoUndo W.ki_NoUndo_HasHoles (isx_cons W.xk_NoWeighing W.ki_NoWeighing_HasHoles (isx_cons W.xk_NotApart W.ki_NotApart_HasHoles (isx_cons W.xk_NotClosed W.ki_NotClosed_HasHoles (isx_cons W.xk_NotGood W.ki_NotGood_HasHoles (isx_cons W.xk_ShutError W.ki_ShutError_HasHoles (isx_cons W.xk_TooLong W.ki_TooLong_HasHoles isx_nil)))))))))))))))))))))) W.kn_HasHoles (vvA 0)) (sa_cons (se_isx [("BadStep", false), ("Clash", false), ("HasHoles", false), ("Missing", false), ("NoAsk", false), ("NoFacts", false), ("NoFilling", true), ("NoLine", false), ("NoName", false), ("NoPaper", false), ("NoPlace", false), ("NoRule", false), ("NoTerm", false), ("NoText", false), ("NoTurn", false), ("NoUndo", false), ("NoWeighing", false), ("NotApart", false), ("NotClosed", false), ("NotGood", false), ("ShutError", false), ("TooLong", false)] W.b_isinstance W.n_NoFilling (isx_cons W.xk_BadStep W.ki_BadStep_NoFilling (isx_cons W.xk_Clash W.ki_Clash_NoFilling (isx_cons W.xk_HasHoles W.ki_HasHoles_NoFilling (isx_cons W.xk_Missing W.ki_Missing_NoFilling (isx_cons W.xk_NoAsk W.ki_NoAsk_NoFilling (isx_cons W.xk_NoFacts W.ki_NoFacts_NoFilling (isx_cons W.xk_NoFilling W.ki_NoFilling_NoFilling (isx_cons W.xk_NoLine W.ki_NoLine_NoFilling (isx_cons W.xk_NoName W.ki_NoName_NoFilling (isx_cons W.xk_NoPaper W.ki_NoPaper_NoFilling (isx_cons W.xk_NoPlace W.ki_NoPlace_NoFilling (isx_cons W.xk_NoRule W.ki_NoRule_NoFilling (isx_cons W.xk_NoTerm W.ki_NoTerm_NoFilling (isx_cons W.xk_NoText W.ki_NoText_NoFilling (isx_cons W.xk_NoTurn W.ki_NoTurn_NoFilling (isx_cons W.xk_NoUndo W.ki_NoUndo_NoFilling (isx_cons W.xk_NoWeighing W.ki_NoWeighing_NoFilling (isx_cons W.xk_NotApart W.ki_NotApart_NoFilling (isx_cons W.xk_NotClosed W.ki_NotClosed_NoFilling (isx_cons W.xk_NotGood W.ki_NotGood_NoFilling (isx_cons W.xk_ShutError W.ki_ShutError_NoFilling (isx_cons W.xk_TooLong W.ki_TooLong_NoFilling isx_nil)))))))))))))))))))))) W.kn_NoFilling (vvA 0)) (sa_cons (se_isx [("BadStep", false), ("Clash", false), ("HasHoles", false), ("Missing", false), ("NoAsk", false), ("NoFacts", true), ("NoFilling", false), ("NoLine", false), ("NoName", false), ("NoPaper", false), ("NoPlace", false), ("NoRule", false), ("NoTerm", false), ("NoText", false), ("NoTurn", false), ("NoUndo", false), ("NoWeighing", false), ("NotApart", false), ("NotClosed", false), ("NotGood", false), ("ShutError", false), ("TooLong", false)] W.b_isinstance W.n_NoFacts (isx_cons W.xk_BadStep W.ki_BadStep_NoFacts (isx_cons W.xk_Clash W.ki_Clash_NoFacts (isx_cons W.xk_HasHoles W.ki_HasHoles_NoFacts (isx_cons W.xk_Missing W.ki_Missing_NoFacts (isx_cons W.xk_NoAsk W.ki_NoAsk_NoFacts (isx_cons W.xk_NoFacts W.ki_NoFacts_NoFacts (isx_cons W.xk_NoFilling W.ki_NoFilling_NoFacts (isx_cons W.xk_NoLine W.ki_NoLine_NoFacts (isx_cons W.xk_NoName W.ki_NoName_NoFacts (isx_cons W.xk_NoPaper W.ki_NoPaper_NoFacts (isx_cons W.xk_NoPlace W.ki_NoPlace_NoFacts (isx_cons W.xk_NoRule W.ki_NoRule_NoFacts (isx_cons W.xk_NoTerm W.ki_NoTerm_NoFacts (isx_cons W.xk_NoText W.ki_NoText_NoFacts (isx_cons W.xk_NoTurn W.ki_NoTurn_NoFacts (isx_cons W.xk_NoUndo W.ki_NoUndo_NoFacts (isx_cons W.xk_NoWeighing W.ki_NoWeighing_NoFacts (isx_cons W.xk_NotApart W.ki_NotApart_NoFacts (isx_cons W.xk_NotClosed W.ki_NotClosed_NoFacts (isx_cons W.xk_NotGood W.ki_NotGood_NoFacts (isx_cons W.xk_ShutError W.ki_ShutError_NoFacts (isx_cons W.xk_TooLong W.ki_TooLong_NoFacts isx_nil)))))))))))))))))))))) W.kn_NoFacts (vvA 0)) sa_nil)))))) rfl loA)
    (ss_cons (sv_set (i := 1) NN (se_bin od_add (vvA 1) (se_n (n_lst (sa_cons (se_isx [("BadStep", false), ("Clash", false), ("HasHoles", false), ("Missing", false), ("NoAsk", true), ("NoFacts", false), ("NoFilling", false), ("NoLine", false), ("NoName", false), ("NoPaper", false), ("NoPlace", false), ("NoRule", false), ("NoTerm", false), ("NoText", false), ("NoTurn", false), ("NoUndo", false), ("NoWeighing", false), ("NotApart", false), ("NotClosed", false), ("NotGood", false), ("ShutError", false), ("TooLong", false)] W.b_isinstance W.n_NoAsk (isx_cons W.xk_BadStep W.ki_BadStep_NoAsk (isx_cons W.xk_Clash W.ki_Clash_NoAsk (isx_cons W.xk_HasHoles W.ki_HasHoles_NoAsk (isx_cons W.xk_Missing W.ki_Missing_NoAsk (isx_cons W.xk_NoAsk W.ki_NoAsk_NoAsk (isx_cons W.xk_NoFacts W.ki_NoFacts_NoAsk (isx_cons W.xk_NoFilling W.ki_NoFilling_NoAsk (isx_cons W.xk_NoLine W.ki_NoLine_NoAsk (isx_cons W.xk_NoName W.ki_NoName_NoAsk (isx_cons W.xk_NoPaper W.ki_NoPaper_NoAsk (isx_cons W.xk_NoPlace W.ki_NoPlace_NoAsk (isx_cons W.xk_NoRule W.ki_NoRule_NoAsk (isx_cons W.xk_NoTerm W.ki_NoTerm_NoAsk (isx_cons W.xk_NoText W.ki_NoText_NoAsk (isx_cons W.xk_NoTurn W.ki_NoTurn_NoAsk (isx_cons W.xk_NoUndo W.ki_NoUndo_NoAsk (isx_cons W.xk_NoWeighing W.ki_NoWeighing_NoAsk (isx_cons W.xk_NotApart W.ki_NotApart_NoAsk (isx_cons W.xk_NotClosed W.ki_NotClosed_NoAsk (isx_cons W.xk_NotGood W.ki_NotGood_NoAsk (isx_cons W.xk_ShutError W.ki_ShutError_NoAsk (isx_cons W.xk_TooLong W.ki_TooLong_NoAsk isx_nil)))))))))))))))))))))) W.kn_NoAsk (vvA 0)) (sa_cons (se_isx [("BadStep", false), ("Clash", false), ("HasHoles", false), ("Missing", false), ("NoAsk", false), ("NoFacts", false), ("NoFilling", false), ("NoLine", false), ("NoName", false), ("NoPaper", false), ("NoPlace", false), ("NoRule", false), ("NoTerm", false), ("NoText", false), ("NoTurn", false), ("NoUndo", false), ("NoWeighing", false), ("NotApart", true), ("NotClosed", false), ("NotGood", false), ("ShutError", false), ("TooLong", false)] W.b_isinstance W.n_NotApart (isx_cons W.xk_BadStep W.ki_BadStep_NotApart (isx_cons W.xk_Clash W.ki_Clash_NotApart (isx_cons W.xk_HasHoles W.ki_HasHoles_NotApart (isx_cons W.xk_Missing W.ki_Missing_NotApart (isx_cons W.xk_NoAsk W.ki_NoAsk_NotApart (isx_cons W.xk_NoFacts W.ki_NoFacts_NotApart (isx_cons W.xk_NoFilling W.ki_NoFilling_NotApart (isx_cons W.xk_NoLine W.ki_NoLine_NotApart (isx_cons W.xk_NoName W.ki_NoName_NotApart (isx_cons W.xk_NoPaper W.ki_NoPaper_NotApart (isx_cons W.xk_NoPlace W.ki_NoPlace_NotApart (isx_cons W.xk_NoRule W.ki_NoRule_NotApart (isx_cons W.xk_NoTerm W.ki_NoTerm_NotApart (isx_cons W.xk_NoText W.ki_NoText_NotApart (isx_cons W.xk_NoTurn W.ki_NoTurn_NotApart (isx_cons W.xk_NoUndo W.ki_NoUndo_NotApart (isx_cons W.xk_NoWeighing W.ki_NoWeighing_NotApart (isx_cons W.xk_NotApart W.ki_NotApart_NotApart (isx_cons W.xk_NotClosed W.ki_NotClosed_NotApart (isx_cons W.xk_NotGood W.ki_NotGood_NotApart (isx_cons W.xk_ShutError W.ki_ShutError_NotApart (isx_cons W.xk_TooLong W.ki_TooLong_NotApart isx_nil)))))))))))))))))))))) W.kn_NotApart (vvA 0)) (sa_cons (se_isx [("BadStep", false), ("Clash", false), ("HasHoles", false), ("Missing", false), ("NoAsk", false), ("NoFacts", false), ("NoFilling", false), ("NoLine", false), ("NoName", false), ("NoPaper", false), ("NoPlace", false), ("NoRule", true), ("NoTerm", false), ("NoText", false), ("NoTurn", false), ("NoUndo", false), ("NoWeighing", false), ("NotApart", false), ("NotClosed", false), ("NotGood", false), ("ShutError", false), ("TooLong", false)] W.b_isinstance W.n_NoRule (isx_cons W.xk_BadStep W.ki_BadStep_NoRule (isx_cons W.xk_Clash W.ki_Clash_NoRule (isx_cons W.xk_HasHoles W.ki_HasHoles_NoRule (isx_cons W.xk_Missing W.ki_Missing_NoRule (isx_cons W.xk_NoAsk W.ki_NoAsk_NoRule (isx_cons W.xk_NoFacts W.ki_NoFacts_NoRule (isx_cons W.xk_NoFilling W.ki_NoFilling_NoRule (isx_cons W.xk_NoLine W.ki_NoLine_NoRule (isx_cons W.xk_NoName W.ki_NoName_NoRule (isx_cons W.xk_NoPaper W.ki_NoPaper_NoRule (isx_cons W.xk_NoPlace W.ki_NoPlace_NoRule (isx_cons W.xk_NoRule W.ki_NoRule_NoRule (isx_cons W.xk_NoTerm W.ki_NoTerm_NoRule (isx_cons W.xk_NoText W.ki_NoText_NoRule (isx_cons W.xk_NoTurn W.ki_NoTurn_NoRule (isx_cons W.xk_NoUndo W.ki_NoUndo_NoRule (isx_cons W.xk_NoWeighing W.ki_NoWeighing_NoRule (isx_cons W.xk_NotApart W.ki_NotApart_NoRule (isx_cons W.xk_NotClosed W.ki_NotClosed_NoRule (isx_cons W.xk_NotGood W.ki_NotGood_NoRule (isx_cons W.xk_ShutError W.ki_ShutError_NoRule (isx_cons W.xk_TooLong W.ki_TooLong_NoRule isx_nil)))))))))))))))))))))) W.kn_NoRule (vvA 0)) sa_nil)))))) rfl loA)
    (ss_cons (sv_set (i := 1) NN (se_bin od_add (vvA 1) (se_n (n_lst (sa_cons (se_isx [("BadStep", false), ("Clash", false), ("HasHoles", false), ("Missing", false), ("NoAsk", false), ("NoFacts", false), ("NoFilling", false), ("NoLine", false), ("NoName", false), ("NoPaper", false), ("NoPlace", false), ("NoRule", false), ("NoTerm", false), ("NoText", false), ("NoTurn", false), ("NoUndo", false), ("NoWeighing", true), ("NotApart", false), ("NotClosed", false), ("NotGood", false), ("ShutError", false), ("TooLong", false)] W.b_isinstance W.n_NoWeighing (isx_cons W.xk_BadStep W.ki_BadStep_NoWeighing (isx_cons W.xk_Clash W.ki_Clash_NoWeighing (isx_cons W.xk_HasHoles W.ki_HasHoles_NoWeighing (isx_cons W.xk_Missing W.ki_Missing_NoWeighing (isx_cons W.xk_NoAsk W.ki_NoAsk_NoWeighing (isx_cons W.xk_NoFacts W.ki_NoFacts_NoWeighing (isx_cons W.xk_NoFilling W.ki_NoFilling_NoWeighing (isx_cons W.xk_NoLine W.ki_NoLine_NoWeighing (isx_cons W.xk_NoName W.ki_NoName_NoWeighing (isx_cons W.xk_NoPaper W.ki_NoPaper_NoWeighing (isx_cons W.xk_NoPlace W.ki_NoPlace_NoWeighing (isx_cons W.xk_NoRule W.ki_NoRule_NoWeighing (isx_cons W.xk_NoTerm W.ki_NoTerm_NoWeighing (isx_cons W.xk_NoText W.ki_NoText_NoWeighing (isx_cons W.xk_NoTurn W.ki_NoTurn_NoWeighing (isx_cons W.xk_NoUndo W.ki_NoUndo_NoWeighing (isx_cons W.xk_NoWeighing W.ki_NoWeighing_NoWeighing (isx_cons W.xk_NotApart W.ki_NotApart_NoWeighing (isx_cons W.xk_NotClosed W.ki_NotClosed_NoWeighing (isx_cons W.xk_NotGood W.ki_NotGood_NoWeighing (isx_cons W.xk_ShutError W.ki_ShutError_NoWeighing (isx_cons W.xk_TooLong W.ki_TooLong_NoWeighing isx_nil)))))))))))))))))))))) W.kn_NoWeighing (vvA 0)) (sa_cons (se_isx [("BadStep", false), ("Clash", false), ("HasHoles", false), ("Missing", false), ("NoAsk", false), ("NoFacts", false), ("NoFilling", false), ("NoLine", false), ("NoName", false), ("NoPaper", true), ("NoPlace", false), ("NoRule", false), ("NoTerm", false), ("NoText", false), ("NoTurn", false), ("NoUndo", false), ("NoWeighing", false), ("NotApart", false), ("NotClosed", false), ("NotGood", false), ("ShutError", false), ("TooLong", false)] W.b_isinstance W.n_NoPaper (isx_cons W.xk_BadStep W.ki_BadStep_NoPaper (isx_cons W.xk_Clash W.ki_Clash_NoPaper (isx_cons W.xk_HasHoles W.ki_HasHoles_NoPaper (isx_cons W.xk_Missing W.ki_Missing_NoPaper (isx_cons W.xk_NoAsk W.ki_NoAsk_NoPaper (isx_cons W.xk_NoFacts W.ki_NoFacts_NoPaper (isx_cons W.xk_NoFilling W.ki_NoFilling_NoPaper (isx_cons W.xk_NoLine W.ki_NoLine_NoPaper (isx_cons W.xk_NoName W.ki_NoName_NoPaper (isx_cons W.xk_NoPaper W.ki_NoPaper_NoPaper (isx_cons W.xk_NoPlace W.ki_NoPlace_NoPaper (isx_cons W.xk_NoRule W.ki_NoRule_NoPaper (isx_cons W.xk_NoTerm W.ki_NoTerm_NoPaper (isx_cons W.xk_NoText W.ki_NoText_NoPaper (isx_cons W.xk_NoTurn W.ki_NoTurn_NoPaper (isx_cons W.xk_NoUndo W.ki_NoUndo_NoPaper (isx_cons W.xk_NoWeighing W.ki_NoWeighing_NoPaper (isx_cons W.xk_NotApart W.ki_NotApart_NoPaper (isx_cons W.xk_NotClosed W.ki_NotClosed_NoPaper (isx_cons W.xk_NotGood W.ki_NotGood_NoPaper (isx_cons W.xk_ShutError W.ki_ShutError_NoPaper (isx_cons W.xk_TooLong W.ki_TooLong_NoPaper isx_nil)))))))))))))))))))))) W.kn_NoPaper (vvA 0)) (sa_cons (se_isx [("BadStep", false), ("Clash", false), ("HasHoles", false), ("Missing", false), ("NoAsk", false), ("NoFacts", false), ("NoFilling", false), ("NoLine", true), ("NoName", false), ("NoPaper", false), ("NoPlace", false), ("NoRule", false), ("NoTerm", false), ("NoText", false), ("NoTurn", false), ("NoUndo", false), ("NoWeighing", false), ("NotApart", false), ("NotClosed", false), ("NotGood", false), ("ShutError", false), ("TooLong", false)] W.b_isinstance W.n_NoLine (isx_cons W.xk_BadStep W.ki_BadStep_NoLine (isx_cons W.xk_Clash W.ki_Clash_NoLine (isx_cons W.xk_HasHoles W.ki_HasHoles_NoLine (isx_cons W.xk_Missing W.ki_Missing_NoLine (isx_cons W.xk_NoAsk W.ki_NoAsk_NoLine (isx_cons W.xk_NoFacts W.ki_NoFacts_NoLine (isx_cons W.xk_NoFilling W.ki_NoFilling_NoLine (isx_cons W.xk_NoLine W.ki_NoLine_NoLine (isx_cons W.xk_NoName W.ki_NoName_NoLine (isx_cons W.xk_NoPaper W.ki_NoPaper_NoLine (isx_cons W.xk_NoPlace W.ki_NoPlace_NoLine (isx_cons W.xk_NoRule W.ki_NoRule_NoLine (isx_cons W.xk_NoTerm W.ki_NoTerm_NoLine (isx_cons W.xk_NoText W.ki_NoText_NoLine (isx_cons W.xk_NoTurn W.ki_NoTurn_NoLine (isx_cons W.xk_NoUndo W.ki_NoUndo_NoLine (isx_cons W.xk_NoWeighing W.ki_NoWeighing_NoLine (isx_cons W.xk_NotApart W.ki_NotApart_NoLine (isx_cons W.xk_NotClosed W.ki_NotClosed_NoLine (isx_cons W.xk_NotGood W.ki_NotGood_NoLine (isx_cons W.xk_ShutError W.ki_ShutError_NoLine (isx_cons W.xk_TooLong W.ki_TooLong_NoLine isx_nil)))))))))))))))))))))) W.kn_NoLine (vvA 0)) sa_nil)))))) rfl loA)
    (ss_cons (sv_set (i := 1) NN (se_bin od_add (vvA 1) (se_n (n_lst (sa_cons (se_isx [("BadStep", false), ("Clash", false), ("HasHoles", false), ("Missing", false), ("NoAsk", false), ("NoFacts", false), ("NoFilling", false), ("NoLine", false), ("NoName", false), ("NoPaper", false), ("NoPlace", false), ("NoRule", false), ("NoTerm", false), ("NoText", false), ("NoTurn", false), ("NoUndo", true), ("NoWeighing", false), ("NotApart", false), ("NotClosed", false), ("NotGood", false), ("ShutError", false), ("TooLong", false)] W.b_isinstance W.n_NoUndo (isx_cons W.xk_BadStep W.ki_BadStep_NoUndo (isx_cons W.xk_Clash W.ki_Clash_NoUndo (isx_cons W.xk_HasHoles W.ki_HasHoles_NoUndo (isx_cons W.xk_Missing W.ki_Missing_NoUndo (isx_cons W.xk_NoAsk W.ki_NoAsk_NoUndo (isx_cons W.xk_NoFacts W.ki_NoFacts_NoUndo (isx_cons W.xk_NoFilling W.ki_NoFilling_NoUndo (isx_cons W.xk_NoLine W.ki_NoLine_NoUndo (isx_cons W.xk_NoName W.ki_NoName_NoUndo (isx_cons W.xk_NoPaper W.ki_NoPaper_NoUndo (isx_cons W.xk_NoPlace W.ki_NoPlace_NoUndo (isx_cons W.xk_NoRule W.ki_NoRule_NoUndo (isx_cons W.xk_NoTerm W.ki_NoTerm_NoUndo (isx_cons W.xk_NoText W.ki_NoText_NoUndo (isx_cons W.xk_NoTurn W.ki_NoTurn_NoUndo (isx_cons W.xk_NoUndo W.ki_NoUndo_NoUndo (isx_cons W.xk_NoWeighing W.ki_NoWeighing_NoUndo (isx_cons W.xk_NotApart W.ki_NotApart_NoUndo (isx_cons W.xk_NotClosed W.ki_NotClosed_NoUndo (isx_cons W.xk_NotGood W.ki_NotGood_NoUndo (isx_cons W.xk_ShutError W.ki_ShutError_NoUndo (isx_cons W.xk_TooLong W.ki_TooLong_NoUndo isx_nil)))))))))))))))))))))) W.kn_NoUndo (vvA 0)) (sa_cons (se_isx [("BadStep", false), ("Clash", false), ("HasHoles", false), ("Missing", false), ("NoAsk", false), ("NoFacts", false), ("NoFilling", false), ("NoLine", false), ("NoName", false), ("NoPaper", false), ("NoPlace", true), ("NoRule", false), ("NoTerm", false), ("NoText", false), ("NoTurn", false), ("NoUndo", false), ("NoWeighing", false), ("NotApart", false), ("NotClosed", false), ("NotGood", false), ("ShutError", false), ("TooLong", false)] W.b_isinstance W.n_NoPlace (isx_cons W.xk_BadStep W.ki_BadStep_NoPlace (isx_cons W.xk_Clash W.ki_Clash_NoPlace (isx_cons W.xk_HasHoles W.ki_HasHoles_NoPlace (isx_cons W.xk_Missing W.ki_Missing_NoPlace (isx_cons W.xk_NoAsk W.ki_NoAsk_NoPlace (isx_cons W.xk_NoFacts W.ki_NoFacts_NoPlace (isx_cons W.xk_NoFilling W.ki_NoFilling_NoPlace (isx_cons W.xk_NoLine W.ki_NoLine_NoPlace (isx_cons W.xk_NoName W.ki_NoName_NoPlace (isx_cons W.xk_NoPaper W.ki_NoPaper_NoPlace (isx_cons W.xk_NoPlace W.ki_NoPlace_NoPlace (isx_cons W.xk_NoRule W.ki_NoRule_NoPlace (isx_cons W.xk_NoTerm W.ki_NoTerm_NoPlace (isx_cons W.xk_NoText W.ki_NoText_NoPlace (isx_cons W.xk_NoTurn W.ki_NoTurn_NoPlace (isx_cons W.xk_NoUndo W.ki_NoUndo_NoPlace (isx_cons W.xk_NoWeighing W.ki_NoWeighing_NoPlace (isx_cons W.xk_NotApart W.ki_NotApart_NoPlace (isx_cons W.xk_NotClosed W.ki_NotClosed_NoPlace (isx_cons W.xk_NotGood W.ki_NotGood_NoPlace (isx_cons W.xk_ShutError W.ki_ShutError_NoPlace (isx_cons W.xk_TooLong W.ki_TooLong_NoPlace isx_nil)))))))))))))))))))))) W.kn_NoPlace (vvA 0)) (sa_cons (se_isx [("BadStep", true), ("Clash", false), ("HasHoles", false), ("Missing", false), ("NoAsk", false), ("NoFacts", false), ("NoFilling", false), ("NoLine", false), ("NoName", false), ("NoPaper", false), ("NoPlace", false), ("NoRule", false), ("NoTerm", false), ("NoText", false), ("NoTurn", false), ("NoUndo", false), ("NoWeighing", false), ("NotApart", false), ("NotClosed", false), ("NotGood", false), ("ShutError", false), ("TooLong", false)] W.b_isinstance W.n_BadStep (isx_cons W.xk_BadStep W.ki_BadStep_BadStep (isx_cons W.xk_Clash W.ki_Clash_BadStep (isx_cons W.xk_HasHoles W.ki_HasHoles_BadStep (isx_cons W.xk_Missing W.ki_Missing_BadStep (isx_cons W.xk_NoAsk W.ki_NoAsk_BadStep (isx_cons W.xk_NoFacts W.ki_NoFacts_BadStep (isx_cons W.xk_NoFilling W.ki_NoFilling_BadStep (isx_cons W.xk_NoLine W.ki_NoLine_BadStep (isx_cons W.xk_NoName W.ki_NoName_BadStep (isx_cons W.xk_NoPaper W.ki_NoPaper_BadStep (isx_cons W.xk_NoPlace W.ki_NoPlace_BadStep (isx_cons W.xk_NoRule W.ki_NoRule_BadStep (isx_cons W.xk_NoTerm W.ki_NoTerm_BadStep (isx_cons W.xk_NoText W.ki_NoText_BadStep (isx_cons W.xk_NoTurn W.ki_NoTurn_BadStep (isx_cons W.xk_NoUndo W.ki_NoUndo_BadStep (isx_cons W.xk_NoWeighing W.ki_NoWeighing_BadStep (isx_cons W.xk_NotApart W.ki_NotApart_BadStep (isx_cons W.xk_NotClosed W.ki_NotClosed_BadStep (isx_cons W.xk_NotGood W.ki_NotGood_BadStep (isx_cons W.xk_ShutError W.ki_ShutError_BadStep (isx_cons W.xk_TooLong W.ki_TooLong_BadStep isx_nil)))))))))))))))))))))) W.kn_BadStep (vvA 0)) sa_nil)))))) rfl loA)
    (ss_cons (sv_set (i := 1) NN (se_bin od_add (vvA 1) (se_n (n_lst (sa_cons (se_isx [("BadStep", false), ("Clash", true), ("HasHoles", false), ("Missing", false), ("NoAsk", false), ("NoFacts", false), ("NoFilling", false), ("NoLine", false), ("NoName", false), ("NoPaper", false), ("NoPlace", false), ("NoRule", false), ("NoTerm", false), ("NoText", false), ("NoTurn", false), ("NoUndo", false), ("NoWeighing", false), ("NotApart", false), ("NotClosed", false), ("NotGood", false), ("ShutError", false), ("TooLong", false)] W.b_isinstance W.n_Clash (isx_cons W.xk_BadStep W.ki_BadStep_Clash (isx_cons W.xk_Clash W.ki_Clash_Clash (isx_cons W.xk_HasHoles W.ki_HasHoles_Clash (isx_cons W.xk_Missing W.ki_Missing_Clash (isx_cons W.xk_NoAsk W.ki_NoAsk_Clash (isx_cons W.xk_NoFacts W.ki_NoFacts_Clash (isx_cons W.xk_NoFilling W.ki_NoFilling_Clash (isx_cons W.xk_NoLine W.ki_NoLine_Clash (isx_cons W.xk_NoName W.ki_NoName_Clash (isx_cons W.xk_NoPaper W.ki_NoPaper_Clash (isx_cons W.xk_NoPlace W.ki_NoPlace_Clash (isx_cons W.xk_NoRule W.ki_NoRule_Clash (isx_cons W.xk_NoTerm W.ki_NoTerm_Clash (isx_cons W.xk_NoText W.ki_NoText_Clash (isx_cons W.xk_NoTurn W.ki_NoTurn_Clash (isx_cons W.xk_NoUndo W.ki_NoUndo_Clash (isx_cons W.xk_NoWeighing W.ki_NoWeighing_Clash (isx_cons W.xk_NotApart W.ki_NotApart_Clash (isx_cons W.xk_NotClosed W.ki_NotClosed_Clash (isx_cons W.xk_NotGood W.ki_NotGood_Clash (isx_cons W.xk_ShutError W.ki_ShutError_Clash (isx_cons W.xk_TooLong W.ki_TooLong_Clash isx_nil)))))))))))))))))))))) W.kn_Clash (vvA 0)) (sa_cons (se_isx [("BadStep", false), ("Clash", false), ("HasHoles", false), ("Missing", false), ("NoAsk", false), ("NoFacts", false), ("NoFilling", false), ("NoLine", false), ("NoName", false), ("NoPaper", false), ("NoPlace", false), ("NoRule", false), ("NoTerm", false), ("NoText", false), ("NoTurn", false), ("NoUndo", false), ("NoWeighing", false), ("NotApart", false), ("NotClosed", true), ("NotGood", false), ("ShutError", false), ("TooLong", false)] W.b_isinstance W.n_NotClosed (isx_cons W.xk_BadStep W.ki_BadStep_NotClosed (isx_cons W.xk_Clash W.ki_Clash_NotClosed (isx_cons W.xk_HasHoles W.ki_HasHoles_NotClosed (isx_cons W.xk_Missing W.ki_Missing_NotClosed (isx_cons W.xk_NoAsk W.ki_NoAsk_NotClosed (isx_cons W.xk_NoFacts W.ki_NoFacts_NotClosed (isx_cons W.xk_NoFilling W.ki_NoFilling_NotClosed (isx_cons W.xk_NoLine W.ki_NoLine_NotClosed (isx_cons W.xk_NoName W.ki_NoName_NotClosed (isx_cons W.xk_NoPaper W.ki_NoPaper_NotClosed (isx_cons W.xk_NoPlace W.ki_NoPlace_NotClosed (isx_cons W.xk_NoRule W.ki_NoRule_NotClosed (isx_cons W.xk_NoTerm W.ki_NoTerm_NotClosed (isx_cons W.xk_NoText W.ki_NoText_NotClosed (isx_cons W.xk_NoTurn W.ki_NoTurn_NotClosed (isx_cons W.xk_NoUndo W.ki_NoUndo_NotClosed (isx_cons W.xk_NoWeighing W.ki_NoWeighing_NotClosed (isx_cons W.xk_NotApart W.ki_NotApart_NotClosed (isx_cons W.xk_NotClosed W.ki_NotClosed_NotClosed (isx_cons W.xk_NotGood W.ki_NotGood_NotClosed (isx_cons W.xk_ShutError W.ki_ShutError_NotClosed (isx_cons W.xk_TooLong W.ki_TooLong_NotClosed isx_nil)))))))))))))))))))))) W.kn_NotClosed (vvA 0)) (sa_cons (se_isx [("BadStep", false), ("Clash", false), ("HasHoles", false), ("Missing", false), ("NoAsk", false), ("NoFacts", false), ("NoFilling", false), ("NoLine", false), ("NoName", false), ("NoPaper", false), ("NoPlace", false), ("NoRule", false), ("NoTerm", false), ("NoText", false), ("NoTurn", false), ("NoUndo", false), ("NoWeighing", false), ("NotApart", false), ("NotClosed", false), ("NotGood", false), ("ShutError", false), ("TooLong", true)] W.b_isinstance W.n_TooLong (isx_cons W.xk_BadStep W.ki_BadStep_TooLong (isx_cons W.xk_Clash W.ki_Clash_TooLong (isx_cons W.xk_HasHoles W.ki_HasHoles_TooLong (isx_cons W.xk_Missing W.ki_Missing_TooLong (isx_cons W.xk_NoAsk W.ki_NoAsk_TooLong (isx_cons W.xk_NoFacts W.ki_NoFacts_TooLong (isx_cons W.xk_NoFilling W.ki_NoFilling_TooLong (isx_cons W.xk_NoLine W.ki_NoLine_TooLong (isx_cons W.xk_NoName W.ki_NoName_TooLong (isx_cons W.xk_NoPaper W.ki_NoPaper_TooLong (isx_cons W.xk_NoPlace W.ki_NoPlace_TooLong (isx_cons W.xk_NoRule W.ki_NoRule_TooLong (isx_cons W.xk_NoTerm W.ki_NoTerm_TooLong (isx_cons W.xk_NoText W.ki_NoText_TooLong (isx_cons W.xk_NoTurn W.ki_NoTurn_TooLong (isx_cons W.xk_NoUndo W.ki_NoUndo_TooLong (isx_cons W.xk_NoWeighing W.ki_NoWeighing_TooLong (isx_cons W.xk_NotApart W.ki_NotApart_TooLong (isx_cons W.xk_NotClosed W.ki_NotClosed_TooLong (isx_cons W.xk_NotGood W.ki_NotGood_TooLong (isx_cons W.xk_ShutError W.ki_ShutError_TooLong (isx_cons W.xk_TooLong W.ki_TooLong_TooLong isx_nil)))))))))))))))))))))) W.kn_TooLong (vvA 0)) sa_nil)))))) rfl loA)
    (ss_cons (sv_set (i := 1) NN (se_bin od_add (vvA 1) (se_n (n_lst (sa_cons (se_isx [("BadStep", false), ("Clash", false), ("HasHoles", false), ("Missing", false), ("NoAsk", false), ("NoFacts", false), ("NoFilling", false), ("NoLine", false), ("NoName", false), ("NoPaper", false), ("NoPlace", false), ("NoRule", false), ("NoTerm", false), ("NoText", false), ("NoTurn", false), ("NoUndo", false), ("NoWeighing", false), ("NotApart", false), ("NotClosed", false), ("NotGood", true), ("ShutError", false), ("TooLong", false)] W.b_isinstance W.n_NotGood (isx_cons W.xk_BadStep W.ki_BadStep_NotGood (isx_cons W.xk_Clash W.ki_Clash_NotGood (isx_cons W.xk_HasHoles W.ki_HasHoles_NotGood (isx_cons W.xk_Missing W.ki_Missing_NotGood (isx_cons W.xk_NoAsk W.ki_NoAsk_NotGood (isx_cons W.xk_NoFacts W.ki_NoFacts_NotGood (isx_cons W.xk_NoFilling W.ki_NoFilling_NotGood (isx_cons W.xk_NoLine W.ki_NoLine_NotGood (isx_cons W.xk_NoName W.ki_NoName_NotGood (isx_cons W.xk_NoPaper W.ki_NoPaper_NotGood (isx_cons W.xk_NoPlace W.ki_NoPlace_NotGood (isx_cons W.xk_NoRule W.ki_NoRule_NotGood (isx_cons W.xk_NoTerm W.ki_NoTerm_NotGood (isx_cons W.xk_NoText W.ki_NoText_NotGood (isx_cons W.xk_NoTurn W.ki_NoTurn_NotGood (isx_cons W.xk_NoUndo W.ki_NoUndo_NotGood (isx_cons W.xk_NoWeighing W.ki_NoWeighing_NotGood (isx_cons W.xk_NotApart W.ki_NotApart_NotGood (isx_cons W.xk_NotClosed W.ki_NotClosed_NotGood (isx_cons W.xk_NotGood W.ki_NotGood_NotGood (isx_cons W.xk_ShutError W.ki_ShutError_NotGood (isx_cons W.xk_TooLong W.ki_TooLong_NotGood isx_nil)))))))))))))))))))))) W.kn_NotGood (vvA 0)) (sa_cons (se_isx [("BadStep", false), ("Clash", false), ("HasHoles", false), ("Missing", false), ("NoAsk", false), ("NoFacts", false), ("NoFilling", false), ("NoLine", false), ("NoName", false), ("NoPaper", false), ("NoPlace", false), ("NoRule", false), ("NoTerm", false), ("NoText", true), ("NoTurn", false), ("NoUndo", false), ("NoWeighing", false), ("NotApart", false), ("NotClosed", false), ("NotGood", false), ("ShutError", false), ("TooLong", false)] W.b_isinstance W.n_NoText (isx_cons W.xk_BadStep W.ki_BadStep_NoText (isx_cons W.xk_Clash W.ki_Clash_NoText (isx_cons W.xk_HasHoles W.ki_HasHoles_NoText (isx_cons W.xk_Missing W.ki_Missing_NoText (isx_cons W.xk_NoAsk W.ki_NoAsk_NoText (isx_cons W.xk_NoFacts W.ki_NoFacts_NoText (isx_cons W.xk_NoFilling W.ki_NoFilling_NoText (isx_cons W.xk_NoLine W.ki_NoLine_NoText (isx_cons W.xk_NoName W.ki_NoName_NoText (isx_cons W.xk_NoPaper W.ki_NoPaper_NoText (isx_cons W.xk_NoPlace W.ki_NoPlace_NoText (isx_cons W.xk_NoRule W.ki_NoRule_NoText (isx_cons W.xk_NoTerm W.ki_NoTerm_NoText (isx_cons W.xk_NoText W.ki_NoText_NoText (isx_cons W.xk_NoTurn W.ki_NoTurn_NoText (isx_cons W.xk_NoUndo W.ki_NoUndo_NoText (isx_cons W.xk_NoWeighing W.ki_NoWeighing_NoText (isx_cons W.xk_NotApart W.ki_NotApart_NoText (isx_cons W.xk_NotClosed W.ki_NotClosed_NoText (isx_cons W.xk_NotGood W.ki_NotGood_NoText (isx_cons W.xk_ShutError W.ki_ShutError_NoText (isx_cons W.xk_TooLong W.ki_TooLong_NoText isx_nil)))))))))))))))))))))) W.kn_NoText (vvA 0)) (sa_cons (se_isx [("BadStep", false), ("Clash", false), ("HasHoles", false), ("Missing", true), ("NoAsk", false), ("NoFacts", false), ("NoFilling", false), ("NoLine", false), ("NoName", false), ("NoPaper", false), ("NoPlace", false), ("NoRule", false), ("NoTerm", false), ("NoText", false), ("NoTurn", false), ("NoUndo", false), ("NoWeighing", false), ("NotApart", false), ("NotClosed", false), ("NotGood", false), ("ShutError", false), ("TooLong", false)] W.b_isinstance W.n_Missing (isx_cons W.xk_BadStep W.ki_BadStep_Missing (isx_cons W.xk_Clash W.ki_Clash_Missing (isx_cons W.xk_HasHoles W.ki_HasHoles_Missing (isx_cons W.xk_Missing W.ki_Missing_Missing (isx_cons W.xk_NoAsk W.ki_NoAsk_Missing (isx_cons W.xk_NoFacts W.ki_NoFacts_Missing (isx_cons W.xk_NoFilling W.ki_NoFilling_Missing (isx_cons W.xk_NoLine W.ki_NoLine_Missing (isx_cons W.xk_NoName W.ki_NoName_Missing (isx_cons W.xk_NoPaper W.ki_NoPaper_Missing (isx_cons W.xk_NoPlace W.ki_NoPlace_Missing (isx_cons W.xk_NoRule W.ki_NoRule_Missing (isx_cons W.xk_NoTerm W.ki_NoTerm_Missing (isx_cons W.xk_NoText W.ki_NoText_Missing (isx_cons W.xk_NoTurn W.ki_NoTurn_Missing (isx_cons W.xk_NoUndo W.ki_NoUndo_Missing (isx_cons W.xk_NoWeighing W.ki_NoWeighing_Missing (isx_cons W.xk_NotApart W.ki_NotApart_Missing (isx_cons W.xk_NotClosed W.ki_NotClosed_Missing (isx_cons W.xk_NotGood W.ki_NotGood_Missing (isx_cons W.xk_ShutError W.ki_ShutError_Missing (isx_cons W.xk_TooLong W.ki_TooLong_Missing isx_nil)))))))))))))))))))))) W.kn_Missing (vvA 0)) sa_nil)))))) rfl loA)
    (ss_one (sv_ret (so_n (n_lc (own := [("_law_k", 2), ("_law_one", 3)]) (fb := [0, 1]) rfl NN (si_enumA W.b_enumerate (vvA 1)) (blkOk_by (by kernel_rfl)) (fun F1 H1 O1 σ1 s1 Hb C cl fp => (tg_tup (n := 2) rfl (tg_cons (tg_name (i := 2) NN rfl loA) (tg_cons (tg_name (i := 3) NN rfl loA) tg_nil)))) (fun F1 H1 O1 σ1 s1 Hb C cl fp => (pts_one (st_val (vvA 3)))) (fun F1 H1 O1 σ1 s1 Hb C cl fp => (vvA 2)))))))))))))
theorem ok__law_plain (W : Wd K mg) : FnOk P DL.TheW.w K mg base (CXR rg P DL.TheW.w) 1 W.a__law_plain W.d__law_plain [] (spF K (He.ga K) f__law_plain) := by
  refine fn_rule (N := ["_law_bare", "_law_text"]) (k := 0) [] W.F__law_plain sc__law_plain fun cdv A outer s H E F O σ hr tk => ?_
  have hu := u64 hr
  have hw := u65 hr
  have hv := u66 hr
  have NN := sc__law_plain.nd
  exact (ss_cons (sv_set (i := 0) NN (se_n (n_lst (sa_cons (se_mk0 (y := "NoName") PySem.F.excBase_ValueError W.x_NoName.1 W.n_NoName W.x_NoName.2.1 (raises_own W.x_NoName.2.2.1 W.x_NoName.2.2.2) rfl rfl glA (by kernel_rfl)) (sa_cons (se_mk0 (y := "NoTurn") PySem.F.excBase_ValueError W.x_NoTurn.1 W.n_NoTurn W.x_NoTurn.2.1 (raises_own W.x_NoTurn.2.2.1 W.x_NoTurn.2.2.2) rfl rfl glA (by kernel_rfl)) (sa_cons (se_mk0 (y := "NoTerm") PySem.F.excBase_ValueError W.x_NoTerm.1 W.n_NoTerm W.x_NoTerm.2.1 (raises_own W.x_NoTerm.2.2.1 W.x_NoTerm.2.2.2) rfl rfl glA (by kernel_rfl)) (sa_cons (se_mk0 (y := "HasHoles") PySem.F.excBase_ValueError W.x_HasHoles.1 W.n_HasHoles W.x_HasHoles.2.1 (raises_own W.x_HasHoles.2.2.1 W.x_HasHoles.2.2.2) rfl rfl glA (by kernel_rfl)) (sa_cons (se_mk0 (y := "NoFilling") PySem.F.excBase_ValueError W.x_NoFilling.1 W.n_NoFilling W.x_NoFilling.2.1 (raises_own W.x_NoFilling.2.2.1 W.x_NoFilling.2.2.2) rfl rfl glA (by kernel_rfl)) (sa_cons (se_mk0 (y := "NoFacts") PySem.F.excBase_ValueError W.x_NoFacts.1 W.n_NoFacts W.x_NoFacts.2.1 (raises_own W.x_NoFacts.2.2.1 W.x_NoFacts.2.2.2) rfl rfl glA (by kernel_rfl)) (sa_cons (se_mk0 (y := "NoAsk") PySem.F.excBase_ValueError W.x_NoAsk.1 W.n_NoAsk W.x_NoAsk.2.1 (raises_own W.x_NoAsk.2.2.1 W.x_NoAsk.2.2.2) rfl rfl glA (by kernel_rfl)) (sa_cons (se_mk0 (y := "NotApart") PySem.F.excBase_ValueError W.x_NotApart.1 W.n_NotApart W.x_NotApart.2.1 (raises_own W.x_NotApart.2.2.1 W.x_NotApart.2.2.2) rfl rfl glA (by kernel_rfl)) (sa_cons (se_mk0 (y := "NoRule") PySem.F.excBase_ValueError W.x_NoRule.1 W.n_NoRule W.x_NoRule.2.1 (raises_own W.x_NoRule.2.2.1 W.x_NoRule.2.2.2) rfl rfl glA (by kernel_rfl)) sa_nil))))))))))) rfl loA)
    (ss_cons (sv_set (i := 0) NN (se_bin od_add (vvA 0) (se_n (n_lst (sa_cons (se_mk0 (y := "NoWeighing") PySem.F.excBase_ValueError W.x_NoWeighing.1 W.n_NoWeighing W.x_NoWeighing.2.1 (raises_own W.x_NoWeighing.2.2.1 W.x_NoWeighing.2.2.2) rfl rfl glA (by kernel_rfl)) (sa_cons (se_mk0 (y := "NoPaper") PySem.F.excBase_ValueError W.x_NoPaper.1 W.n_NoPaper W.x_NoPaper.2.1 (raises_own W.x_NoPaper.2.2.1 W.x_NoPaper.2.2.2) rfl rfl glA (by kernel_rfl)) (sa_cons (se_mk0 (y := "NoLine") PySem.F.excBase_ValueError W.x_NoLine.1 W.n_NoLine W.x_NoLine.2.1 (raises_own W.x_NoLine.2.2.1 W.x_NoLine.2.2.2) rfl rfl glA (by kernel_rfl)) (sa_cons (se_mk0 (y := "NoUndo") PySem.F.excBase_ValueError W.x_NoUndo.1 W.n_NoUndo W.x_NoUndo.2.1 (raises_own W.x_NoUndo.2.2.1 W.x_NoUndo.2.2.2) rfl rfl glA (by kernel_rfl)) sa_nil))))))) rfl loA)
    (ss_cons (sv_set (i := 1) NN (se_n (n_lst (sa_cons (se_mkT (y := "NoName") PySem.F.excBase_ValueError W.x_NoName.1 W.n_NoName W.x_NoName.2.1 (raises_own W.x_NoName.2.2.1 W.x_NoName.2.2.2) rfl rfl glA (by kernel_rfl)) (sa_cons (se_mkT (y := "NoTurn") PySem.F.excBase_ValueError W.x_NoTurn.1 W.n_NoTurn W.x_NoTurn.2.1 (raises_own W.x_NoTurn.2.2.1 W.x_NoTurn.2.2.2) rfl rfl glA (by kernel_rfl)) (sa_cons (se_mkT (y := "NoTerm") PySem.F.excBase_ValueError W.x_NoTerm.1 W.n_NoTerm W.x_NoTerm.2.1 (raises_own W.x_NoTerm.2.2.1 W.x_NoTerm.2.2.2) rfl rfl glA (by kernel_rfl)) (sa_cons (se_mkT (y := "HasHoles") PySem.F.excBase_ValueError W.x_HasHoles.1 W.n_HasHoles W.x_HasHoles.2.1 (raises_own W.x_HasHoles.2.2.1 W.x_HasHoles.2.2.2) rfl rfl glA (by kernel_rfl)) (sa_cons (se_mkT (y := "NoFilling") PySem.F.excBase_ValueError W.x_NoFilling.1 W.n_NoFilling W.x_NoFilling.2.1 (raises_own W.x_NoFilling.2.2.1 W.x_NoFilling.2.2.2) rfl rfl glA (by kernel_rfl)) (sa_cons (se_mkT (y := "NoFacts") PySem.F.excBase_ValueError W.x_NoFacts.1 W.n_NoFacts W.x_NoFacts.2.1 (raises_own W.x_NoFacts.2.2.1 W.x_NoFacts.2.2.2) rfl rfl glA (by kernel_rfl)) (sa_cons (se_mkT (y := "NoAsk") PySem.F.excBase_ValueError W.x_NoAsk.1 W.n_NoAsk W.x_NoAsk.2.1 (raises_own W.x_NoAsk.2.2.1 W.x_NoAsk.2.2.2) rfl rfl glA (by kernel_rfl)) sa_nil))))))))) rfl loA)
    (ss_one (sv_ret (so_d (se_tup (sa_cons (vvA 0) (sa_cons (se_bin od_add (vvA 1) (se_n (n_lst (sa_cons (se_mkT (y := "NotApart") PySem.F.excBase_ValueError W.x_NotApart.1 W.n_NotApart W.x_NotApart.2.1 (raises_own W.x_NotApart.2.2.1 W.x_NotApart.2.2.2) rfl rfl glA (by kernel_rfl)) (sa_cons (se_mkT (y := "NoRule") PySem.F.excBase_ValueError W.x_NoRule.1 W.n_NoRule W.x_NoRule.2.1 (raises_own W.x_NoRule.2.2.1 W.x_NoRule.2.2.2) rfl rfl glA (by kernel_rfl)) (sa_cons (se_mkT (y := "NoWeighing") PySem.F.excBase_ValueError W.x_NoWeighing.1 W.n_NoWeighing W.x_NoWeighing.2.1 (raises_own W.x_NoWeighing.2.2.1 W.x_NoWeighing.2.2.2) rfl rfl glA (by kernel_rfl)) (sa_cons (se_mkT (y := "NoPaper") PySem.F.excBase_ValueError W.x_NoPaper.1 W.n_NoPaper W.x_NoPaper.2.1 (raises_own W.x_NoPaper.2.2.1 W.x_NoPaper.2.2.2) rfl rfl glA (by kernel_rfl)) (sa_cons (se_mkT (y := "NoLine") PySem.F.excBase_ValueError W.x_NoLine.1 W.n_NoLine W.x_NoLine.2.1 (raises_own W.x_NoLine.2.2.1 W.x_NoLine.2.2.2) rfl rfl glA (by kernel_rfl)) (sa_cons (se_mkT (y := "NoUndo") PySem.F.excBase_ValueError W.x_NoUndo.1 W.n_NoUndo W.x_NoUndo.2.1 (raises_own W.x_NoUndo.2.2.1 W.x_NoUndo.2.2.2) rfl rfl glA (by kernel_rfl)) sa_nil))))))))) sa_nil)))))))))
theorem ok__law_fields (W : Wd K mg) : FnOk P DL.TheW.w K mg base (CXR rg P DL.TheW.w) 3 W.a__law_fields W.d__law_fields ["_law_amount", "_law_called", "_law_row"] (spF K (He.ga K) f__law_fields) := by
  refine fn_rule (N := ["_law_amount", "_law_called", "_law_row", "_law_by_place", "_law_by_name"]) (k := 2) [] W.F__law_fields sc__law_fields fun cdv A outer s H E F O σ hr tk => ?_
  have hu := u64 hr
  have hw := u65 hr
  have hv := u66 hr
  have NN := sc__law_fields.nd
  exact (ss_cons (sv_set (i := 3) NN (se_n (n_lst (sa_cons (se_mkX (y := "NoPlace") rfl tk W.X_NoPlace (oki_NoPlace W) (hr.mono (by omega)) (bni_NoPlace W) (passes_callR tk fun _ _ _ _ z => z.elim) W.n_NoPlace rfl rfl (by decide) (sg_d (vvA 2) sg_nil) glA (by kernel_rfl)) (sa_cons (se_mkX (y := "BadStep") rfl tk W.X_BadStep (oki_BadStep W) (hr.mono (by omega)) (bni_BadStep W) (passes_callR tk fun _ _ _ _ z => z.elim) W.n_BadStep rfl rfl (by decide) (sg_d (vvA 0) sg_nil) glA (by kernel_rfl)) (sa_cons (se_mkX (y := "Clash") rfl tk W.X_Clash (oki_Clash W) (hr.mono (by omega)) (bni_Clash W) (passes_callR tk fun _ _ _ _ z => z.elim) W.n_Clash rfl rfl (by decide) (sg_d (vvA 2) sg_nil) glA (by kernel_rfl)) (sa_cons (se_mkX (y := "NotClosed") rfl tk W.X_NotClosed (oki_NotClosed W) (hr.mono (by omega)) (bni_NotClosed W) (passes_callR tk fun _ _ _ _ z => z.elim) W.n_NotClosed rfl rfl (by decide) (sg_d (vvA 1) (sg_d se_non sg_nil)) glA (by kernel_rfl)) (sa_cons (se_mkX (y := "TooLong") rfl tk W.X_TooLong (oki_TooLong W) (hr.mono (by omega)) (bni_TooLong W) (passes_callR tk fun _ _ _ _ z => z.elim) W.n_TooLong rfl rfl (by decide) (sg_d (vvA 0) sg_nil) glA (by kernel_rfl)) (sa_cons (se_mkX (y := "NotGood") rfl tk W.X_NotGood (oki_NotGood W) (hr.mono (by omega)) (bni_NotGood W) (passes_callR tk fun _ _ _ _ z => z.elim) W.n_NotGood rfl rfl (by decide) (sg_d (vvA 2) sg_nil) glA (by kernel_rfl)) sa_nil)))))))) rfl loA)
    (ss_cons (sv_set (i := 4) NN (se_n (n_lst (sa_cons (se_mkXk (y := "NoPlace") (pm := pmI) (fun _ => rfl) (fun r => r) W.X_NoPlace (oki_NoPlace W) (hr.mono (by omega)) (bnik_NoPlace W) (passes_callR tk fun _ _ _ _ z => z.elim) W.n_NoPlace rfl rfl rfl (sk_d (vvA 2) sk_nil) glA (by kernel_rfl)) (sa_cons (se_mkXk (y := "BadStep") (pm := pmI) (fun _ => rfl) (fun r => r) W.X_BadStep (oki_BadStep W) (hr.mono (by omega)) (bnik_BadStep W) (passes_callR tk fun _ _ _ _ z => z.elim) W.n_BadStep rfl rfl rfl (sk_d (vvA 0) sk_nil) glA (by kernel_rfl)) (sa_cons (se_mkXk (y := "Clash") (pm := pmI) (fun _ => rfl) (fun r => r) W.X_Clash (oki_Clash W) (hr.mono (by omega)) (bnik_Clash W) (passes_callR tk fun _ _ _ _ z => z.elim) W.n_Clash rfl rfl rfl (sk_d (vvA 2) sk_nil) glA (by kernel_rfl)) (sa_cons (se_mkXk (y := "NotClosed") (pm := List.reverse) (fun _ => List.length_reverse) (fun r => rpAll_rev r) W.X_NotClosed (oki_NotClosed W) (hr.mono (by omega)) (bnikr_NotClosed W) (passes_callR tk fun _ _ _ _ z => z.elim) W.n_NotClosed rfl rfl rfl (sk_d se_non (sk_d (vvA 1) sk_nil)) glA (by kernel_rfl)) sa_nil)))))) rfl loA)
    (ss_cons (sv_set (i := 4) NN (se_bin od_add (vvA 4) (se_n (n_lst (sa_cons (se_mkXk (y := "TooLong") (pm := pmI) (fun _ => rfl) (fun r => r) W.X_TooLong (oki_TooLong W) (hr.mono (by omega)) (bnik_TooLong W) (passes_callR tk fun _ _ _ _ z => z.elim) W.n_TooLong rfl rfl rfl (sk_d (vvA 0) sk_nil) glA (by kernel_rfl)) (sa_cons (se_mkXk (y := "NotGood") (pm := pmI) (fun _ => rfl) (fun r => r) W.X_NotGood (oki_NotGood W) (hr.mono (by omega)) (bnik_NotGood W) (passes_callR tk fun _ _ _ _ z => z.elim) W.n_NotGood rfl rfl rfl (sk_d (vvA 2) sk_nil) glA (by kernel_rfl)) (sa_cons (se_mkXk (y := "NoText") (pm := pmI) (fun _ => rfl) (fun r => r) W.X_NoText (oki_NoText W) (hr.mono (by omega)) (bnik_NoText W) (passes_callR tk fun _ _ _ _ z => z.elim) W.n_NoText rfl rfl rfl (sk_d (vvA 0) sk_nil) glA (by kernel_rfl)) sa_nil)))))) rfl loA)
    (ss_one (sv_ret (so_d (se_tup (sa_cons (se_bin od_add (vvA 3) (se_n (n_lst (sa_cons (se_mkX (y := "NoText") rfl tk W.X_NoText (oki_NoText W) (hr.mono (by omega)) (bni_NoText W) (passes_callR tk fun _ _ _ _ z => z.elim) W.n_NoText rfl rfl (by decide) (sg_d (vvA 0) sg_nil) glA (by kernel_rfl)) sa_nil)))) (sa_cons (vvA 4) sa_nil)))))))))
theorem ok__law_right (W : Wd K mg) : FnOk P DL.TheW.w K mg base (CXR rg P DL.TheW.w) 1 W.a__law_right W.d__law_right ["_law_some", "_law_amount", "_law_called", "_law_row"] (spF K (He.ga K) f__law_right) := by
  refine fn_rule (N := ["_law_some", "_law_amount", "_law_called", "_law_row"]) (k := 0) [] W.F__law_right sc__law_right fun cdv A outer s H E F O σ hr tk => ?_
  have hu := u64 hr
  have hw := u65 hr
  have hv := u66 hr
  have NN := sc__law_right.nd
  exact (ss_cons (sv_if (st_cmp (od_ne hu) (se_n (n_lst (sa_cons (se_fldx (f := "place") ["NoPlace"] (fun y hy => (List.mem_cons.mp hy).elim (fun e => by rw [e]; exact ⟨W.xf_NoPlace, W.na_NoPlace_place⟩) (fun hy => absurd hy (List.not_mem_nil))) (se_ix hu (vvA 0) se_int)) (sa_cons (se_fldx (f := "lot") ["Clash"] (fun y hy => (List.mem_cons.mp hy).elim (fun e => by rw [e]; exact ⟨W.xf_Clash, W.na_Clash_lot⟩) (fun hy => absurd hy (List.not_mem_nil))) (se_ix hu (vvA 0) se_int)) (sa_cons (se_fldx (f := "verdict") ["NotGood"] (fun y hy => (List.mem_cons.mp hy).elim (fun e => by rw [e]; exact ⟨W.xf_NotGood, W.na_NotGood_verdict⟩) (fun hy => absurd hy (List.not_mem_nil))) (se_ix hu (vvA 0) se_int)) sa_nil))))) (se_n (n_lst (sa_cons (vvA 3) (sa_cons (vvA 3) (sa_cons (vvA 3) sa_nil)))))) (ss_one (sv_ret (so_d se_bl))) ss_nil)
    (ss_one (sv_ret (so_d (se_cmp (od_eq hu) (se_n (n_lst (sa_cons (se_fldx (f := "at") ["BadStep", "NoText"] (fun y hy => (List.mem_cons.mp hy).elim (fun e => by rw [e]; exact ⟨W.xf_BadStep, W.na_BadStep_at⟩) (fun hy => (List.mem_cons.mp hy).elim (fun e => by rw [e]; exact ⟨W.xf_NoText, W.na_NoText_at⟩) (fun hy => absurd hy (List.not_mem_nil)))) (se_ix hu (vvA 0) se_int)) (sa_cons (se_fldx (f := "name") ["NotClosed"] (fun y hy => (List.mem_cons.mp hy).elim (fun e => by rw [e]; exact ⟨W.xf_NotClosed, W.na_NotClosed_name⟩) (fun hy => absurd hy (List.not_mem_nil))) (se_ix hu (vvA 0) se_int)) (sa_cons (se_fldx (f := "hole") ["NotClosed"] (fun y hy => (List.mem_cons.mp hy).elim (fun e => by rw [e]; exact ⟨W.xf_NotClosed, W.na_NotClosed_hole⟩) (fun hy => absurd hy (List.not_mem_nil))) (se_ix hu (vvA 0) se_int)) (sa_cons (se_fldx (f := "most") ["TooLong"] (fun y hy => (List.mem_cons.mp hy).elim (fun e => by rw [e]; exact ⟨W.xf_TooLong, W.na_TooLong_most⟩) (fun hy => absurd hy (List.not_mem_nil))) (se_ix hu (vvA 0) se_int)) (sa_cons (se_fldx (f := "at") ["BadStep", "NoText"] (fun y hy => (List.mem_cons.mp hy).elim (fun e => by rw [e]; exact ⟨W.xf_BadStep, W.na_BadStep_at⟩) (fun hy => (List.mem_cons.mp hy).elim (fun e => by rw [e]; exact ⟨W.xf_NoText, W.na_NoText_at⟩) (fun hy => absurd hy (List.not_mem_nil)))) (se_ix hu (vvA 0) se_int)) sa_nil))))))) (se_n (n_lst (sa_cons (vvA 1) (sa_cons (vvA 2) (sa_cons se_non (sa_cons (vvA 1) (sa_cons (vvA 1) sa_nil))))))))))))
theorem ok__law_taken (W : Wd K mg) : FnOk P DL.TheW.w K mg base (CXR rg P DL.TheW.w) 3 W.a__law_taken W.d__law_taken ["_law_amount"] (spF K (He.ga K) f__law_taken) := by
  refine fn_rule (N := ["_law_amount", "_law_said", "e"]) (k := 2) [] W.F__law_taken sc__law_taken fun cdv A outer s H E F O σ hr tk => ?_
  have hu := u64 hr
  have hw := u65 hr
  have hv := u66 hr
  have NN := sc__law_taken.nd
  exact (ss_cons (sv_setO (i := 1) NN (so_n (n_lst sa_nil)) rfl loA)
    (ss_cons (sv_tryX rfl rfl tk (fun W2 pn2 xe2 tk2 hp2 => (ss_one (sv_raiseX (y := "TooLong") rfl tk2 W.X_TooLong (oki_TooLong W) (hr.mono (by omega)) (bni_TooLong W) (passes_callR tk2 fun _ _ _ _ z => z.elim) W.n_TooLong rfl (by decide) (sg_d (vvA 0) sg_nil) glA (by kernel_rfl)))) (.cons (h := ⟨.ref (He.ga K "ShutError"), tabIsa [("TooLong", true)], (some 2), fun ξ => (sDrop (mD (mLM 1 appendD (mCons (mIsH ξ [("TooLong", true)]) mNil))))⟩) ⟨gl_of (by kernel_rfl), by kernel_rfl, .inl W.n_ShutError⟩ (.as NN rfl (by kernel_rfl)) rfl (tab_cons W.e_TooLong_ShutError tab_nil) (fun ax oex clx dx pnx F1 H1 O1 σ1 ξ z1 z2 sf => (ss_one (sv_expr (so_d (se_lm 1 PySem.F.slot_list_append PySem.F.type_list_append md_append (sa_cons (se_isH [("TooLong", true)] W.b_isinstance W.n_TooLong rfl (isx_cons W.xk_TooLong W.ki_TooLong_TooLong isx_nil) z1 z2 (i := 2) sf rfl (vis_of (by kernel_rfl)) (by kernel_rfl) (by kernel_rfl)) sa_nil) rfl (vis_of (by kernel_rfl)) (by kernel_rfl) (by kernel_rfl)))))) .nil))
    (ss_cons (sv_tryX rfl rfl tk (fun W2 pn2 xe2 tk2 hp2 => (ss_one (sv_raiseX (y := "NotClosed") rfl tk2 W.X_NotClosed (oki_NotClosed W) (hr.mono (by omega)) (bni_NotClosed W) (passes_callR tk2 fun _ _ _ _ z => z.elim) W.n_NotClosed rfl (by decide) (sg_d se_str (sg_d se_str sg_nil)) glA (by kernel_rfl)))) (.cons (h := ⟨.ref (He.ga K "ShutError"), tabIsa [("NotClosed", true)], (some 2), fun ξ => (sDrop (mD (mLM 1 appendD (mCons (mAndV (mIsH ξ [("NotClosed", true)]) (mIsH ξ [("NotClosed", true)])) mNil))))⟩) ⟨gl_of (by kernel_rfl), by kernel_rfl, .inl W.n_ShutError⟩ (.as NN rfl (by kernel_rfl)) rfl (tab_cons W.e_NotClosed_ShutError tab_nil) (fun ax oex clx dx pnx F1 H1 O1 σ1 ξ z1 z2 sf => (ss_one (sv_expr (so_d (se_lm 1 PySem.F.slot_list_append PySem.F.type_list_append md_append (sa_cons (se_and (se_isH [("NotClosed", true)] W.b_isinstance W.n_NotClosed rfl (isx_cons W.xk_NotClosed W.ki_NotClosed_NotClosed isx_nil) z1 z2 (i := 2) sf rfl (vis_of (by kernel_rfl)) (by kernel_rfl) (by kernel_rfl)) (se_one (se_isHB [("NotClosed", true)] (bn := "ValueError") W.b_isinstance W.b_ValueError rfl (isx_cons W.xk_NotClosed W.kb_NotClosed_ValueError isx_nil) z1 z2 (i := 2) sf rfl (vis_of (by kernel_rfl)) (by kernel_rfl) (by kernel_rfl)))) sa_nil) rfl (vis_of (by kernel_rfl)) (by kernel_rfl) (by kernel_rfl)))))) .nil))
    (ss_cons (sv_tryX rfl rfl tk (fun W2 pn2 xe2 tk2 hp2 => (ss_one (sv_raiseK (y := "Missing") rfl tk2 W.X_Missing (oki_Missing W) (hr.mono (by omega)) (bni_Missing W) (passes_callR tk2 fun _ _ _ _ z => z.elim) W.n_Missing rfl (by decide) (sg_d (vvA 0) sg_nil) glA (by kernel_rfl)))) (.cons (h := ⟨.type "KeyError", tabIsa [("Missing", true)], none, fun ξ => (sDrop (mD (mLM 1 appendD (mCons (mC (.bool true)) mNil))))⟩) ⟨gl_of (by kernel_rfl), by kernel_rfl, .inr ⟨W.b_KeyError, by decide +kernel, by decide⟩⟩ .no rfl (tab_cons (exm_kb W.kb_Missing_KeyError) tab_nil) (fun ax oex clx dx pnx F1 H1 O1 σ1 ξ z1 z2 sf => (ss_one (sv_expr (so_d (se_lm 1 PySem.F.slot_list_append PySem.F.type_list_append md_append (sa_cons se_bl sa_nil) rfl (vis_of (by kernel_rfl)) (by kernel_rfl) (by kernel_rfl)))))) .nil))
    (ss_one (sv_ret (so_move 1 rfl (vis_of (by kernel_rfl)) (by kernel_rfl) (by kernel_rfl))))))))
theorem ok_law (W : Wd K mg) : FnOk P DL.TheW.w K mg base (CXR rg P DL.TheW.w) 4 W.a_law W.d_law ["_law_script"] (spF K (He.ga K) f_law) := by
  refine fn_rule (N := ["_law_script", "_law_k", "_law_pile_here", "_law_amount", "_law_called", "_law_row", "_law_j", "_law_some", "_law_one", "_law_gone"]) (k := 3) [] W.F_law sc_law fun cdv A outer s H E F O σ hr tk => ?_
  have hu := u64 hr
  have hw := u65 hr
  have hv := u66 hr
  have NN := sc_law.nd
  exact (ss_cons (sv_killB [1, 2, 3, 4, 5, 6, 7, 8, 9] (sv_for (passes_of rfl) rfl (si_range1 W.b_range se_int) (fun F1 H1 O1 σ1 => (tg_name (i := 1) NN rfl loA)) (fun F1 H1 O1 σ1 => (ss_kill [1, 2, 3, 4, 5, 6, 7, 8, 9] (ss_cons (sv_setO (i := 2) NN (so_call (ok__law_pile W) (hr.mono (by omega)) W.m__law_pile W.F__law_pile.kp (bn__law_pile W) tk (sg_d (vvA 0) (sg_d (vvA 1) sg_nil)) glA (by kernel_rfl)) rfl loA)
    (ss_cons (sv_set (i := 3) NN (se_bin od_sub (se_frz (so_call (ok__law_take W) (hr.mono (by omega)) W.m__law_take W.F__law_take.kp (bn__law_take W) tk (sg_o 2 (sg_d (se_bin od_mul se_int (se_bin od_pow se_int se_int)) sg_nil) rfl (vis_of (by kernel_rfl)) (by kernel_rfl) (by kernel_rfl)) glA (by kernel_rfl))) (se_bin od_pow se_int se_int)) rfl loA)
    (ss_cons (sv_set (i := 4) NN (se_frz (so_call (ok__law_name W) (hr.mono (by omega)) W.m__law_name W.F__law_name.kp (bn__law_name W) tk (sg_o 2 sg_nil rfl (vis_of (by kernel_rfl)) (by kernel_rfl) (by kernel_rfl)) glA (by kernel_rfl))) rfl loA)
    (ss_cons (sv_set (i := 5) NN (se_t1 cd_tup W.b_tuple (se_n (n_lc (own := [("_law_j", 6)]) (fb := [0, 1, 2, 3, 4, 5, 7, 8, 9]) rfl NN (si_range1 W.b_range (se_frz (so_call (ok__law_take W) (hr.mono (by omega)) W.m__law_take W.F__law_take.kp (bn__law_take W) tk (sg_o 2 (sg_d se_int sg_nil) rfl (vis_of (by kernel_rfl)) (by kernel_rfl) (by kernel_rfl)) glA (by kernel_rfl)))) (blkOk_by (by kernel_rfl)) (fun F1 H1 O1 σ1 s1 Hb C cl fp => (tg_name (i := 6) NN rfl loA)) (fun F1 H1 O1 σ1 s1 Hb C cl fp => st_yes) (fun F1 H1 O1 σ1 s1 Hb C cl fp => (se_frz (so_call (ok__law_take W) (hr.mono (by omega)) W.m__law_take W.F__law_take.kp (bn__law_take W) (takes0R (rg := rg)) (sg_o 2 (sg_d se_int sg_nil) rfl (vis_of (by kernel_rfl)) (by kernel_rfl) (by kernel_rfl)) glA (by kernel_rfl))))))) rfl loA)
    (ss_cons (sv_killB [6, 7, 8] (sv_for (passes_of rfl) rfl (si_val (se_frz (so_call0 (ok__law_plain W) (hr.mono (by omega)) W.m__law_plain W.F__law_plain.kp (bn__law_plain W) tk glA (by kernel_rfl)))) (fun F1 H1 O1 σ1 => (tg_name (i := 7) NN rfl loA)) (fun F1 H1 O1 σ1 => (ss_kill [6, 7, 8] (ss_cons (sv_if (st_cmp (od_ne hu) (se_n (n_lc (own := [("_law_j", 6), ("_law_one", 8)]) (fb := [0, 1, 2, 3, 4, 5, 7, 9]) rfl NN (si_enumA W.b_enumerate (vvA 7)) (blkOk_by (by kernel_rfl)) (fun F1 H1 O1 σ1 s1 Hb C cl fp => (tg_tup (n := 2) rfl (tg_cons (tg_name (i := 6) NN rfl loA) (tg_cons (tg_name (i := 8) NN rfl loA) tg_nil)))) (fun F1 H1 O1 σ1 s1 Hb C cl fp => (pts_one (PW.pt (st_or (st_cmp (od_ne hu) (se_frz (so_call (ok__law_words W) (hr.mono (by omega)) W.m__law_words W.F__law_words.kp (bn__law_words W) (takes0R (rg := rg)) (sg_d (vvA 8) sg_nil) glA (by kernel_rfl))) (se_n (n_lst (sa_cons (vvA 6) sa_nil)))) (st_or1 (st_not (st_val (se_isx [("BadStep", true), ("Clash", true), ("HasHoles", true), ("Missing", false), ("NoAsk", true), ("NoFacts", true), ("NoFilling", true), ("NoLine", true), ("NoName", true), ("NoPaper", true), ("NoPlace", true), ("NoRule", true), ("NoTerm", true), ("NoText", true), ("NoTurn", true), ("NoUndo", true), ("NoWeighing", true), ("NotApart", true), ("NotClosed", true), ("NotGood", true), ("ShutError", true), ("TooLong", true)] W.b_isinstance W.n_ShutError (isx_cons W.xk_BadStep W.ki_BadStep_ShutError (isx_cons W.xk_Clash W.ki_Clash_ShutError (isx_cons W.xk_HasHoles W.ki_HasHoles_ShutError (isx_cons W.xk_Missing W.ki_Missing_ShutError (isx_cons W.xk_NoAsk W.ki_NoAsk_ShutError (isx_cons W.xk_NoFacts W.ki_NoFacts_ShutError (isx_cons W.xk_NoFilling W.ki_NoFilling_ShutError (isx_cons W.xk_NoLine W.ki_NoLine_ShutError (isx_cons W.xk_NoName W.ki_NoName_ShutError (isx_cons W.xk_NoPaper W.ki_NoPaper_ShutError (isx_cons W.xk_NoPlace W.ki_NoPlace_ShutError (isx_cons W.xk_NoRule W.ki_NoRule_ShutError (isx_cons W.xk_NoTerm W.ki_NoTerm_ShutError (isx_cons W.xk_NoText W.ki_NoText_ShutError (isx_cons W.xk_NoTurn W.ki_NoTurn_ShutError (isx_cons W.xk_NoUndo W.ki_NoUndo_ShutError (isx_cons W.xk_NoWeighing W.ki_NoWeighing_ShutError (isx_cons W.xk_NotApart W.ki_NotApart_ShutError (isx_cons W.xk_NotClosed W.ki_NotClosed_ShutError (isx_cons W.xk_NotGood W.ki_NotGood_ShutError (isx_cons W.xk_ShutError W.ki_ShutError_ShutError (isx_cons W.xk_TooLong W.ki_TooLong_ShutError isx_nil)))))))))))))))))))))) W.kn_ShutError (vvA 8))))))))) (fun F1 H1 O1 σ1 s1 Hb C cl fp => (vvA 6)))) (se_n (n_lst sa_nil))) (ss_one (sv_ret (so_d se_bl))) ss_nil)
    (ss_one (sv_if (st_cmp (od_ne hu) (se_n (n_lc (own := [("_law_one", 8)]) (fb := [0, 1, 2, 3, 4, 5, 6, 7, 9]) rfl NN (si_val (vvA 7)) (blkOk_by (by kernel_rfl)) (fun F1 H1 O1 σ1 s1 Hb C cl fp => (tg_name (i := 8) NN rfl loA)) (fun F1 H1 O1 σ1 s1 Hb C cl fp => (pts_one (st_not (st_val (se_isxB [("BadStep", true), ("Clash", true), ("HasHoles", true), ("Missing", false), ("NoAsk", true), ("NoFacts", true), ("NoFilling", true), ("NoLine", true), ("NoName", true), ("NoPaper", true), ("NoPlace", true), ("NoRule", true), ("NoTerm", true), ("NoText", true), ("NoTurn", true), ("NoUndo", true), ("NoWeighing", true), ("NotApart", true), ("NotClosed", true), ("NotGood", true), ("ShutError", true), ("TooLong", true)] W.b_isinstance W.b_ValueError (isx_cons W.xk_BadStep W.kb_BadStep_ValueError (isx_cons W.xk_Clash W.kb_Clash_ValueError (isx_cons W.xk_HasHoles W.kb_HasHoles_ValueError (isx_cons W.xk_Missing W.kb_Missing_ValueError (isx_cons W.xk_NoAsk W.kb_NoAsk_ValueError (isx_cons W.xk_NoFacts W.kb_NoFacts_ValueError (isx_cons W.xk_NoFilling W.kb_NoFilling_ValueError (isx_cons W.xk_NoLine W.kb_NoLine_ValueError (isx_cons W.xk_NoName W.kb_NoName_ValueError (isx_cons W.xk_NoPaper W.kb_NoPaper_ValueError (isx_cons W.xk_NoPlace W.kb_NoPlace_ValueError (isx_cons W.xk_NoRule W.kb_NoRule_ValueError (isx_cons W.xk_NoTerm W.kb_NoTerm_ValueError (isx_cons W.xk_NoText W.kb_NoText_ValueError (isx_cons W.xk_NoTurn W.kb_NoTurn_ValueError (isx_cons W.xk_NoUndo W.kb_NoUndo_ValueError (isx_cons W.xk_NoWeighing W.kb_NoWeighing_ValueError (isx_cons W.xk_NotApart W.kb_NotApart_ValueError (isx_cons W.xk_NotClosed W.kb_NotClosed_ValueError (isx_cons W.xk_NotGood W.kb_NotGood_ValueError (isx_cons W.xk_ShutError W.kb_ShutError_ValueError (isx_cons W.xk_TooLong W.kb_TooLong_ValueError isx_nil)))))))))))))))))))))) (vvA 8)))))) (fun F1 H1 O1 σ1 s1 Hb C cl fp => (vvA 8)))) (se_n (n_lst sa_nil))) (ss_one (sv_ret (so_d se_bl))) ss_nil)))))))
    (ss_cons (sv_killB [6, 7, 8] (sv_for (passes_of rfl) rfl (si_val (se_frz (so_call (ok__law_fields W) (hr.mono (by omega)) W.m__law_fields W.F__law_fields.kp (bn__law_fields W) tk (sg_d (vvA 3) (sg_d (vvA 4) (sg_d (vvA 5) sg_nil))) glA (by kernel_rfl)))) (fun F1 H1 O1 σ1 => (tg_name (i := 7) NN rfl loA)) (fun F1 H1 O1 σ1 => (ss_kill [6, 7, 8] (ss_cons (sv_if (st_not (st_val (se_frz (so_call (ok__law_right W) (hr.mono (by omega)) W.m__law_right W.F__law_right.kp (bn__law_right W) tk (sg_d (vvA 7) (sg_d (vvA 3) (sg_d (vvA 4) (sg_d (vvA 5) sg_nil)))) glA (by kernel_rfl))))) (ss_one (sv_ret (so_d se_bl))) ss_nil)
    (ss_one (sv_killB [6, 8] (sv_for (passes_of rfl) rfl (si_enumA W.b_enumerate (vvA 7)) (fun F1 H1 O1 σ1 => (tg_tup (n := 2) rfl (tg_cons (tg_name (i := 6) NN rfl loA) (tg_cons (tg_name (i := 8) NN rfl loA) tg_nil)))) (fun F1 H1 O1 σ1 => (ss_kill [6, 8] (ss_one (sv_if (PW.pt (st_or (st_cmp (od_ne hu) (se_frz (so_call (ok__law_words W) (hr.mono (by omega)) W.m__law_words W.F__law_words.kp (bn__law_words W) tk (sg_d (vvA 8) sg_nil) glA (by kernel_rfl))) (se_n (n_lst (sa_cons (se_bin od_add se_int (vvA 6)) sa_nil)))) (st_or (st_not (st_val (se_isx [("BadStep", true), ("Clash", true), ("HasHoles", true), ("Missing", false), ("NoAsk", true), ("NoFacts", true), ("NoFilling", true), ("NoLine", true), ("NoName", true), ("NoPaper", true), ("NoPlace", true), ("NoRule", true), ("NoTerm", true), ("NoText", true), ("NoTurn", true), ("NoUndo", true), ("NoWeighing", true), ("NotApart", true), ("NotClosed", true), ("NotGood", true), ("ShutError", true), ("TooLong", true)] W.b_isinstance W.n_ShutError (isx_cons W.xk_BadStep W.ki_BadStep_ShutError (isx_cons W.xk_Clash W.ki_Clash_ShutError (isx_cons W.xk_HasHoles W.ki_HasHoles_ShutError (isx_cons W.xk_Missing W.ki_Missing_ShutError (isx_cons W.xk_NoAsk W.ki_NoAsk_ShutError (isx_cons W.xk_NoFacts W.ki_NoFacts_ShutError (isx_cons W.xk_NoFilling W.ki_NoFilling_ShutError (isx_cons W.xk_NoLine W.ki_NoLine_ShutError (isx_cons W.xk_NoName W.ki_NoName_ShutError (isx_cons W.xk_NoPaper W.ki_NoPaper_ShutError (isx_cons W.xk_NoPlace W.ki_NoPlace_ShutError (isx_cons W.xk_NoRule W.ki_NoRule_ShutError (isx_cons W.xk_NoTerm W.ki_NoTerm_ShutError (isx_cons W.xk_NoText W.ki_NoText_ShutError (isx_cons W.xk_NoTurn W.ki_NoTurn_ShutError (isx_cons W.xk_NoUndo W.ki_NoUndo_ShutError (isx_cons W.xk_NoWeighing W.ki_NoWeighing_ShutError (isx_cons W.xk_NotApart W.ki_NotApart_ShutError (isx_cons W.xk_NotClosed W.ki_NotClosed_ShutError (isx_cons W.xk_NotGood W.ki_NotGood_ShutError (isx_cons W.xk_ShutError W.ki_ShutError_ShutError (isx_cons W.xk_TooLong W.ki_TooLong_ShutError isx_nil)))))))))))))))))))))) W.kn_ShutError (vvA 8)))) (st_or1 (st_not (st_val (se_isxB [("BadStep", true), ("Clash", true), ("HasHoles", true), ("Missing", false), ("NoAsk", true), ("NoFacts", true), ("NoFilling", true), ("NoLine", true), ("NoName", true), ("NoPaper", true), ("NoPlace", true), ("NoRule", true), ("NoTerm", true), ("NoText", true), ("NoTurn", true), ("NoUndo", true), ("NoWeighing", true), ("NotApart", true), ("NotClosed", true), ("NotGood", true), ("ShutError", true), ("TooLong", true)] W.b_isinstance W.b_ValueError (isx_cons W.xk_BadStep W.kb_BadStep_ValueError (isx_cons W.xk_Clash W.kb_Clash_ValueError (isx_cons W.xk_HasHoles W.kb_HasHoles_ValueError (isx_cons W.xk_Missing W.kb_Missing_ValueError (isx_cons W.xk_NoAsk W.kb_NoAsk_ValueError (isx_cons W.xk_NoFacts W.kb_NoFacts_ValueError (isx_cons W.xk_NoFilling W.kb_NoFilling_ValueError (isx_cons W.xk_NoLine W.kb_NoLine_ValueError (isx_cons W.xk_NoName W.kb_NoName_ValueError (isx_cons W.xk_NoPaper W.kb_NoPaper_ValueError (isx_cons W.xk_NoPlace W.kb_NoPlace_ValueError (isx_cons W.xk_NoRule W.kb_NoRule_ValueError (isx_cons W.xk_NoTerm W.kb_NoTerm_ValueError (isx_cons W.xk_NoText W.kb_NoText_ValueError (isx_cons W.xk_NoTurn W.kb_NoTurn_ValueError (isx_cons W.xk_NoUndo W.kb_NoUndo_ValueError (isx_cons W.xk_NoWeighing W.kb_NoWeighing_ValueError (isx_cons W.xk_NotApart W.kb_NotApart_ValueError (isx_cons W.xk_NotClosed W.kb_NotClosed_ValueError (isx_cons W.xk_NotGood W.kb_NotGood_ValueError (isx_cons W.xk_ShutError W.kb_ShutError_ValueError (isx_cons W.xk_TooLong W.kb_TooLong_ValueError isx_nil)))))))))))))))))))))) (vvA 8)))))))) (ss_one (sv_ret (so_d se_bl))) ss_nil))))))))))))
    (ss_cons (sv_killB [9] (sv_for (passes_of rfl) rfl (si_val (se_n (n_lst (sa_cons (se_mkK (y := "Missing") W.X_Missing (oki_Missing W) (hr.mono (by omega)) (bni_Missing W) (passes_callR tk fun _ _ _ _ z => z.elim) W.n_Missing rfl rfl (by decide) (sg_d (vvA 3) sg_nil) glA (by kernel_rfl)) (sa_cons (se_mkKk (y := "Missing") (pm := pmI) (fun _ => rfl) (fun r => r) W.X_Missing (oki_Missing W) (hr.mono (by omega)) (bnik_Missing W) (passes_callR tk fun _ _ _ _ z => z.elim) W.n_Missing rfl rfl rfl (sk_d (vvA 3) sk_nil) glA (by kernel_rfl)) sa_nil))))) (fun F1 H1 O1 σ1 => (tg_name (i := 9) NN rfl loA)) (fun F1 H1 O1 σ1 => (ss_kill [9] (ss_one (sv_if (PW.pt (st_or (st_cmp (od_ne hu) (se_frz (so_call (ok__law_words W) (hr.mono (by omega)) W.m__law_words W.F__law_words.kp (bn__law_words W) tk (sg_d (vvA 9) sg_nil) glA (by kernel_rfl))) (se_n (n_lst (sa_cons se_int sa_nil)))) (st_or (st_cmp (od_ne hu) (se_fldx (f := "number") ["Missing"] (fun y hy => (List.mem_cons.mp hy).elim (fun e => by rw [e]; exact ⟨W.xf_Missing, W.na_Missing_number⟩) (fun hy => absurd hy (List.not_mem_nil))) (vvA 9)) (vvA 3)) (st_or1 (st_val (se_isx [("BadStep", true), ("Clash", true), ("HasHoles", true), ("Missing", false), ("NoAsk", true), ("NoFacts", true), ("NoFilling", true), ("NoLine", true), ("NoName", true), ("NoPaper", true), ("NoPlace", true), ("NoRule", true), ("NoTerm", true), ("NoText", true), ("NoTurn", true), ("NoUndo", true), ("NoWeighing", true), ("NotApart", true), ("NotClosed", true), ("NotGood", true), ("ShutError", true), ("TooLong", true)] W.b_isinstance W.n_ShutError (isx_cons W.xk_BadStep W.ki_BadStep_ShutError (isx_cons W.xk_Clash W.ki_Clash_ShutError (isx_cons W.xk_HasHoles W.ki_HasHoles_ShutError (isx_cons W.xk_Missing W.ki_Missing_ShutError (isx_cons W.xk_NoAsk W.ki_NoAsk_ShutError (isx_cons W.xk_NoFacts W.ki_NoFacts_ShutError (isx_cons W.xk_NoFilling W.ki_NoFilling_ShutError (isx_cons W.xk_NoLine W.ki_NoLine_ShutError (isx_cons W.xk_NoName W.ki_NoName_ShutError (isx_cons W.xk_NoPaper W.ki_NoPaper_ShutError (isx_cons W.xk_NoPlace W.ki_NoPlace_ShutError (isx_cons W.xk_NoRule W.ki_NoRule_ShutError (isx_cons W.xk_NoTerm W.ki_NoTerm_ShutError (isx_cons W.xk_NoText W.ki_NoText_ShutError (isx_cons W.xk_NoTurn W.ki_NoTurn_ShutError (isx_cons W.xk_NoUndo W.ki_NoUndo_ShutError (isx_cons W.xk_NoWeighing W.ki_NoWeighing_ShutError (isx_cons W.xk_NotApart W.ki_NotApart_ShutError (isx_cons W.xk_NotClosed W.ki_NotClosed_ShutError (isx_cons W.xk_NotGood W.ki_NotGood_ShutError (isx_cons W.xk_ShutError W.ki_ShutError_ShutError (isx_cons W.xk_TooLong W.ki_TooLong_ShutError isx_nil)))))))))))))))))))))) W.kn_ShutError (vvA 9))))))) (ss_one (sv_ret (so_d se_bl))) ss_nil))))))
    (ss_one (sv_if (PW.pt (st_or (st_cmp (od_ne hu) (se_frz (so_call (ok__law_taken W) (hr.mono (by omega)) W.m__law_taken W.F__law_taken.kp (bn__law_taken W) tk (sg_d (vvA 3) sg_nil) glA (by kernel_rfl))) (se_n (n_lst (sa_cons se_bl (sa_cons se_bl (sa_cons se_bl sa_nil)))))) (st_or1 (st_not (st_val (se_isxB [("BadStep", true), ("Clash", true), ("HasHoles", true), ("Missing", false), ("NoAsk", true), ("NoFacts", true), ("NoFilling", true), ("NoLine", true), ("NoName", true), ("NoPaper", true), ("NoPlace", true), ("NoRule", true), ("NoTerm", true), ("NoText", true), ("NoTurn", true), ("NoUndo", true), ("NoWeighing", true), ("NotApart", true), ("NotClosed", true), ("NotGood", true), ("ShutError", true), ("TooLong", true)] W.b_isinstance W.b_ValueError (isx_cons W.xk_BadStep W.kb_BadStep_ValueError (isx_cons W.xk_Clash W.kb_Clash_ValueError (isx_cons W.xk_HasHoles W.kb_HasHoles_ValueError (isx_cons W.xk_Missing W.kb_Missing_ValueError (isx_cons W.xk_NoAsk W.kb_NoAsk_ValueError (isx_cons W.xk_NoFacts W.kb_NoFacts_ValueError (isx_cons W.xk_NoFilling W.kb_NoFilling_ValueError (isx_cons W.xk_NoLine W.kb_NoLine_ValueError (isx_cons W.xk_NoName W.kb_NoName_ValueError (isx_cons W.xk_NoPaper W.kb_NoPaper_ValueError (isx_cons W.xk_NoPlace W.kb_NoPlace_ValueError (isx_cons W.xk_NoRule W.kb_NoRule_ValueError (isx_cons W.xk_NoTerm W.kb_NoTerm_ValueError (isx_cons W.xk_NoText W.kb_NoText_ValueError (isx_cons W.xk_NoTurn W.kb_NoTurn_ValueError (isx_cons W.xk_NoUndo W.kb_NoUndo_ValueError (isx_cons W.xk_NoWeighing W.kb_NoWeighing_ValueError (isx_cons W.xk_NotApart W.kb_NotApart_ValueError (isx_cons W.xk_NotClosed W.kb_NotClosed_ValueError (isx_cons W.xk_NotGood W.kb_NotGood_ValueError (isx_cons W.xk_ShutError W.kb_ShutError_ValueError (isx_cons W.xk_TooLong W.kb_TooLong_ValueError isx_nil)))))))))))))))))))))) (se_mkT (y := "ShutError") PySem.F.excBase_ValueError W.x_ShutError.1 W.n_ShutError W.x_ShutError.2.1 (raises_own W.x_ShutError.2.2.1 W.x_ShutError.2.2.2) rfl rfl glA (by kernel_rfl)))))))) (ss_one (sv_ret (so_d se_bl))) ss_nil)))))))))))))
    (ss_one (sv_ret (so_d se_bl))))
end
end K07
end
section
namespace K07
variable [DL.TheW]
open PySem PySem.Spec PyProof.Rows L2 DL SH SU SV SW SX ST
structure Pil (p : List D) : Prop where
 ex : ∃ d m j : Int, p = [.int d, .int m, .int j] ∧ 0 ≤ d ∧ 0 ≤ m ∧ m < 2147483629
theorem mixed_k {m j : Int} (h0 : 0 ≤ m) (h1 : m < 2147483629) : ∃ r : Int, 0 ≤ r ∧ f__law_mixed [.d (.int m), .d (.int j)] = .ok (.d (.int r)) [some (.d (.int m)), some (.d (.int j))] := by
 have m2 : mulKD (.int m) (.int 48271) = some (.int (m * 48271)) := rfl
 have m3 : mulKD (.int j) (.int 69621) = some (.int (j * 69621)) := rfl
 obtain ⟨w, hw⟩ : ∃ w, w = m * 48271 + j * 69621 + 11 := ⟨_, rfl⟩
 have m4 : modD (.int w) (.int 2147483629) = some (.int (w % 2147483629)) := mod_i (by decide)
 have b1 := Int.emod_nonneg w (b := 2147483629) (by decide)
 have b2 := Int.emod_lt_of_pos w (b := 2147483629) (by decide)
 have ad1 : addD (.int (m * 48271)) (.int (j * 69621)) = some (.int (m * 48271 + j * 69621)) := rfl
 have ad2 : addD (.int (m * 48271 + j * 69621)) (.int 11) = some (.int w) := by rw [hw]; rfl
 generalize w % 2147483629 = x at *
 have m5 : mulD (.int x) (.int x) = some (.int (x * x)) := mul_b (by omega) (by omega)
 have m6 : modD (.int (x * x)) (.int 2147483587) = some (.int (x * x % 2147483587)) := mod_i (by decide)
 have c1 := Int.emod_nonneg (x * x) (b := 2147483587) (by decide)
 have c2 := Int.emod_lt_of_pos (x * x) (b := 2147483587) (by decide)
 generalize x * x % 2147483587 = y at *
 have m7 : mulD (.int y) (.int y) = some (.int (y * y)) := mul_b (by omega) (by omega)
 have m8 : modD (.int (y * y)) (.int 2147483549) = some (.int (y * y % 2147483549)) := mod_i (by decide)
 have d1 := Int.emod_nonneg (y * y) (b := 2147483549) (by decide)
 generalize y * y % 2147483549 = t at *
 have m9 : divD (.int t) (.int 64) = some (.int (t / 64)) := div_i (CDivW.of (by decide) (by decide))
 refine ⟨t / 64, Int.ediv_nonneg d1 (by decide), ?_⟩
 rw [eq__law_mixed]
 simp only [m2, m3, ad1, ad2, m4, m5, m6, m7, m8, m9, oB]
theorem take_k {p : List D} (h : Pil p) (n : Int) (hn : 0 < n) (hn2 : n < 2 ^ 900) : ∃ (r : Int) (p' : List D), 0 ≤ r ∧ r < n ∧ Pil p' ∧ f__law_take [.lst p, .d (.int n)] = .ok (.d (.int r)) [some (.lst p'), some (.d (.int n))] := by
 obtain ⟨d, m, j, rfl, h1, h2, h3⟩ := h.ex
 have lk1 : ∀ l : List D, lk (some (.lst l)) = some (.list l) := fun _ => rfl
 have lo : ∀ l : List D, lO (some (.lst l)) = some l := fun _ => rfl
 have i0 : ∀ a b c : D, ixD (.list [a, b, c]) (.int 0) = some a := fun _ _ _ => rfl
 have i1 : ∀ a b c : D, ixD (.list [a, b, c]) (.int 1) = some b := fun _ _ _ => rfl
 have i2 : ∀ a b c : D, ixD (.list [a, b, c]) (.int 2) = some c := fun _ _ _ => rfl
 have eq := eq_i d 0
 rw [eq__law_take]
 by_cases hd : d = 0
 ·rw [decide_eq_true hd] at eq
  obtain ⟨r, hr, mx⟩ := mixed_k (m := m) (j := j + 1) h2 h3
  have ad : addD (.int j) (.int 1) = some (.int (j + 1)) := rfl
  have ixn : (iO (.int 2)).bind (ixN [PyData.int d, .int m, .int j].length) = some 2 := rfl
  have md : modD (.int r) (.int n) = some (.int (r % n)) := mod_i hn
  refine ⟨r % n, [.int d, .int m, .int (j + 1)], Int.emod_nonneg _ (by omega), Int.emod_lt_of_pos _ hn, ⟨d, m, j + 1, rfl, h1, h2, h3⟩, ?_⟩
  simp only [lk1, i0, eq, bo_b, if_true, i2, ad, lo, ixn, oB, List.set_cons_succ, List.set_cons_zero, i1, mx, cB_ok, fr_d, md]
 ·rw [decide_eq_false hd] at eq
  have ixn : (iO (.int 0)).bind (ixN [PyData.int d, .int m, .int j].length) = some 0 := rfl
  have md : modD (.int d) (.int n) = some (.int (d % n)) := mod_i hn
  have dv : divD (.int d) (.int n) = some (.int (d / n)) := div_i (CDivW.of hn hn2)
  refine ⟨d % n, [.int (d / n), .int m, .int j], Int.emod_nonneg _ (by omega), Int.emod_lt_of_pos _ hn, ⟨d / n, m, j, rfl, Int.ediv_nonneg h1 (by omega), h2, h3⟩, ?_⟩
  simp only [lk1, i0, eq, bo_b, Bool.false_eq_true, if_false, lo, ixn, oB, List.set_cons_zero, md, dv]
theorem pile_k (ns : List Int) (k : Nat) (hk : k < 1000) : ∃ p, Pil p ∧ f__law_pile [.d (scrD ns), .d (.int (k : Int))] = .ok (.lst p) [some (.d (scrD ns)), some (.d (.int (k : Int)))] := by
 have p1 : powD (.int 10) (.int 60) = some (.int (10 ^ 60)) := by rfl
 have p2 : powD (.int 10) (.int 18) = some (.int (10 ^ 18)) := by rfl
 have q1 : mulD (.int (10 ^ 60)) (.int (10 ^ 60)) = some (.int (10 ^ 60 * 10 ^ 60)) := mul_b (by decide) (by decide)
 have q2 : mulD (.int (10 ^ 60 * 10 ^ 60)) (.int (10 ^ 60)) = some (.int (10 ^ 60 * 10 ^ 60 * 10 ^ 60)) := mul_b (by decide) (by decide)
 have q3 : mulD (.int 131) (.int (k : Int)) = some (.int (131 * (k : Int))) := mul_b (by decide) (by omega)
 have main : ∀ c : Int, h1__law_pile (scrD ns) (.int (k : Int)) (.int 0) = .ok (.int c) → ∃ p, Pil p ∧ f__law_pile [.d (scrD ns), .d (.int (k : Int))] = .ok (.lst p) [some (.d (scrD ns)), some (.d (.int (k : Int)))] := fun c hc => by
  have m1 : modD (.int c) (.int (10 ^ 60 * 10 ^ 60 * 10 ^ 60)) = some (.int (c % (10 ^ 60 * 10 ^ 60 * 10 ^ 60))) := mod_i (by decide)
  have a1 := Int.emod_nonneg c (b := 10 ^ 60 * 10 ^ 60 * 10 ^ 60) (by decide)
  have a1' := Int.emod_lt_of_pos c (b := 10 ^ 60 * 10 ^ 60 * 10 ^ 60) (by decide)
  have m2 : modD (.int c) (.int 2147483629) = some (.int (c % 2147483629)) := mod_i (by decide)
  have a2 := Int.emod_nonneg c (b := 2147483629) (by decide)
  have a3 := Int.emod_lt_of_pos c (b := 2147483629) (by decide)
  generalize c % (10 ^ 60 * 10 ^ 60 * 10 ^ 60) = x at *
  generalize c % 2147483629 = y at *
  obtain ⟨g, hg, g2⟩ : ∃ g : Int, (((absD (.int c)).bind fun z => (geD z (.int (10 ^ 18))).bind DL.intD) = some (.int g)) ∧ (g = 0 ∨ g = 1) := by
   refine ⟨if decide (10 ^ 18 ≤ (if c < 0 then -c else c)) = true then 1 else 0, rfl, ?_⟩
   have key : ∀ b : Bool, (if b = true then (1 : Int) else 0) = 0 ∨ (if b = true then (1 : Int) else 0) = 1 := fun b => by cases b <;> simp
   exact key _
  obtain ⟨z1, e1, h2⟩ := Option.bind_eq_some_iff.mp hg
  obtain ⟨z2, e2, e3⟩ := Option.bind_eq_some_iff.mp h2
  have m3 : mulD (.int x) (.int g) = some (.int (x * g)) := by
   rcases g2 with rfl | rfl
   ·exact mul_b (by omega) (by decide)
   ·exact mul_b (by omega) (by decide)
  have hd0 : 0 ≤ x * g := Int.mul_nonneg a1 (by omega)
  refine ⟨[.int (x * g), .int y, .int (131 * (k : Int))], ⟨x * g, y, _, rfl, hd0, a2, a3⟩, ?_⟩
  rw [eq__law_pile, hc]
  simp only [pB_ok, p1, q1, q2, m1, e1, p2, e2, e3, m2, m3, q3, oB]
 have len : lenD (scrD ns) = some (.int ns.length) := by simp [lenD, scrD, cells, notE_ints]
 by_cases hl : (k : Int) < ns.length
 ·obtain ⟨c, hc⟩ : ∃ c : Int, ixD (scrD ns) (.int k) = some (.int c) := by
   obtain ⟨x, h1, h2⟩ := atI_nat (xs := ns.map PyData.int) (i := (k : Int)) (by omega) (by rw [List.length_map]; exact hl)
   rw [List.getElem?_map] at h2
   obtain ⟨y, _, rfl⟩ := Option.map_eq_some_iff.mp h2
   exact ⟨y, by simp [ixD, scrD, cells, notE_ints, h1]⟩
  exact main c (by simp [h1__law_pile, len, ltD, hl, hc])
 ·exact main 0 (by simp [h1__law_pile, len, ltD, hl])
def WdK (y : Str) (i : Nat) : Prop := ∀ fs : List (Str × D), f__law_words [.d (excD y fs)] = .ok (.lst [.int (i : Int)]) [some (.d (excD y fs))]
theorem wd_NoName : WdK "NoName" 0 := fun fs => by rw [eq__law_words]; rfl
theorem wd_NoTurn : WdK "NoTurn" 1 := fun fs => by rw [eq__law_words]; rfl
theorem wd_NoTerm : WdK "NoTerm" 2 := fun fs => by rw [eq__law_words]; rfl
theorem wd_HasHoles : WdK "HasHoles" 3 := fun fs => by rw [eq__law_words]; rfl
theorem wd_NoFilling : WdK "NoFilling" 4 := fun fs => by rw [eq__law_words]; rfl
theorem wd_NoFacts : WdK "NoFacts" 5 := fun fs => by rw [eq__law_words]; rfl
theorem wd_NoAsk : WdK "NoAsk" 6 := fun fs => by rw [eq__law_words]; rfl
theorem wd_NotApart : WdK "NotApart" 7 := fun fs => by rw [eq__law_words]; rfl
theorem wd_NoRule : WdK "NoRule" 8 := fun fs => by rw [eq__law_words]; rfl
theorem wd_NoWeighing : WdK "NoWeighing" 9 := fun fs => by rw [eq__law_words]; rfl
theorem wd_NoPaper : WdK "NoPaper" 10 := fun fs => by rw [eq__law_words]; rfl
theorem wd_NoLine : WdK "NoLine" 11 := fun fs => by rw [eq__law_words]; rfl
theorem wd_NoUndo : WdK "NoUndo" 12 := fun fs => by rw [eq__law_words]; rfl
theorem wd_NoPlace : WdK "NoPlace" 13 := fun fs => by rw [eq__law_words]; rfl
theorem wd_BadStep : WdK "BadStep" 14 := fun fs => by rw [eq__law_words]; rfl
theorem wd_Clash : WdK "Clash" 15 := fun fs => by rw [eq__law_words]; rfl
theorem wd_NotClosed : WdK "NotClosed" 16 := fun fs => by rw [eq__law_words]; rfl
theorem wd_TooLong : WdK "TooLong" 17 := fun fs => by rw [eq__law_words]; rfl
theorem wd_NotGood : WdK "NotGood" 18 := fun fs => by rw [eq__law_words]; rfl
theorem wd_NoText : WdK "NoText" 19 := fun fs => by rw [eq__law_words]; rfl
theorem wd_Missing : WdK "Missing" 20 := fun fs => by rw [eq__law_words]; rfl
def tSh : List (Str × Bool) := [("BadStep", true), ("Clash", true), ("HasHoles", true), ("Missing", false), ("NoAsk", true), ("NoFacts", true), ("NoFilling", true), ("NoLine", true), ("NoName", true), ("NoPaper", true), ("NoPlace", true), ("NoRule", true), ("NoTerm", true), ("NoText", true), ("NoTurn", true), ("NoUndo", true), ("NoWeighing", true), ("NotApart", true), ("NotClosed", true), ("NotGood", true), ("ShutError", true), ("TooLong", true)]
theorem ly_none : Ly 1 PyData.none := ⟨by rw [PyData.canLay0], by rw [PyData.depth]; omega⟩
theorem ly_bool (b : Bool) : Ly 1 (.bool b) := ⟨by rw [PyData.canLay0], by rw [PyData.depth]; omega⟩
theorem ne_one (i : Int) : neD (.list [.int i]) (.list [.int i]) = some (.bool false) := (ne_same (n := 2) (Ly.lst fun x hx => by rw [List.mem_singleton.mp hx]; exact ly_int i 1) (by omega)).1
theorem ne_00 : neD (.list []) (.list []) = some (.bool false) := (ne_same (n := 1) (Ly.lst (n := 0) fun x hx => by cases hx) (by omega)).1
theorem lcP_none {pe : D → Pr (Option D)} {xs : List D} (h : ∀ x ∈ xs, pe x = .ok none) : lcP pe xs = .ok [] := by
 have := lcP_no (pe := pe) (f := fun x : D => x) (l := xs) h
 rwa [List.map_id'] at this
theorem forF_const {σ : Type} {b : D → σ → Pr (Fo σ)} {s : σ} : ∀ {xs : List D}, (∀ x ∈ xs, b x s = .ok (.nx s)) → forF b xs s = .ok (.nx s)
 | [], _ => rfl
 | x :: xs, h => by
  rw [forF, h x List.mem_cons_self]
  exact forF_const fun z hz => h z (List.mem_cons_of_mem _ hz)
theorem c5_no {y : Str} {i : Nat} (w : WdK y i) (hs : ∀ fs, isxD tSh (excD y fs) = some (.bool true)) (fs : List (Str × D)) : c5_law (.tuple [.int (i : Int), excD y fs]) = .ok none := by
 have t2 : tupO 2 (.tuple [.int (i : Int), excD y fs]) = some [.int (i : Int), excD y fs] := rfl
 have w := w fs
 have fr : OV.frz (.lst [.int (i : Int)]) = some (.list [.int (i : Int)]) := rfl
 have ne := ne_one (i : Int)
 have hs := hs fs
 unfold tSh at hs
 unfold c5_law
 generalize excD y fs = E at *
 simp only [t2, oB, conO, nilO, w, cB_ok, fr, ne, bo_b, Bool.false_eq_true, if_false, hs, Bool.not_true, pB_ok]
theorem c6_no {y : Str} (hs : ∀ fs, isxD tSh (excD y fs) = some (.bool true)) (fs : List (Str × D)) : c6_law (excD y fs) = .ok none := by
 have hs := hs fs
 unfold tSh at hs
 unfold c6_law
 generalize excD y fs = E at *
 simp only [hs, oB, bo_b, Bool.not_true, Bool.false_eq_true, if_false]
def bareD : List D := [excD "NoName" [], excD "NoTurn" [], excD "NoTerm" [], excD "HasHoles" [], excD "NoFilling" [], excD "NoFacts" [], excD "NoAsk" [], excD "NotApart" [], excD "NoRule" [], excD "NoWeighing" [], excD "NoPaper" [], excD "NoLine" [], excD "NoUndo" []]
theorem plain_k : f__law_plain [] = .ok (.d (.tuple [.list bareD, .list bareD])) [] := by
 rw [eq__law_plain]; rfl
theorem q3_k : q3_law (.list bareD) () = .ok (.nx ()) := by
 have en : enumA (.list bareD) = some [.tuple [.int ((0 : Nat) : Int), excD "NoName" []], .tuple [.int ((1 : Nat) : Int), excD "NoTurn" []], .tuple [.int ((2 : Nat) : Int), excD "NoTerm" []], .tuple [.int ((3 : Nat) : Int), excD "HasHoles" []], .tuple [.int ((4 : Nat) : Int), excD "NoFilling" []], .tuple [.int ((5 : Nat) : Int), excD "NoFacts" []], .tuple [.int ((6 : Nat) : Int), excD "NoAsk" []], .tuple [.int ((7 : Nat) : Int), excD "NotApart" []], .tuple [.int ((8 : Nat) : Int), excD "NoRule" []], .tuple [.int ((9 : Nat) : Int), excD "NoWeighing" []], .tuple [.int ((10 : Nat) : Int), excD "NoPaper" []], .tuple [.int ((11 : Nat) : Int), excD "NoLine" []], .tuple [.int ((12 : Nat) : Int), excD "NoUndo" []]] := rfl
 have it : itemsD (.list bareD) = some bareD := rfl
 have l5 : lcP c5_law [.tuple [.int ((0 : Nat) : Int), excD "NoName" []], .tuple [.int ((1 : Nat) : Int), excD "NoTurn" []], .tuple [.int ((2 : Nat) : Int), excD "NoTerm" []], .tuple [.int ((3 : Nat) : Int), excD "HasHoles" []], .tuple [.int ((4 : Nat) : Int), excD "NoFilling" []], .tuple [.int ((5 : Nat) : Int), excD "NoFacts" []], .tuple [.int ((6 : Nat) : Int), excD "NoAsk" []], .tuple [.int ((7 : Nat) : Int), excD "NotApart" []], .tuple [.int ((8 : Nat) : Int), excD "NoRule" []], .tuple [.int ((9 : Nat) : Int), excD "NoWeighing" []], .tuple [.int ((10 : Nat) : Int), excD "NoPaper" []], .tuple [.int ((11 : Nat) : Int), excD "NoLine" []], .tuple [.int ((12 : Nat) : Int), excD "NoUndo" []]] = .ok [] := lcP_none fun x hx => by
  simp only [List.mem_cons, List.not_mem_nil, or_false] at hx
  rcases hx with rfl | rfl | rfl | rfl | rfl | rfl | rfl | rfl | rfl | rfl | rfl | rfl | rfl
  ·exact c5_no wd_NoName (fun _ => rfl) []
  ·exact c5_no wd_NoTurn (fun _ => rfl) []
  ·exact c5_no wd_NoTerm (fun _ => rfl) []
  ·exact c5_no wd_HasHoles (fun _ => rfl) []
  ·exact c5_no wd_NoFilling (fun _ => rfl) []
  ·exact c5_no wd_NoFacts (fun _ => rfl) []
  ·exact c5_no wd_NoAsk (fun _ => rfl) []
  ·exact c5_no wd_NotApart (fun _ => rfl) []
  ·exact c5_no wd_NoRule (fun _ => rfl) []
  ·exact c5_no wd_NoWeighing (fun _ => rfl) []
  ·exact c5_no wd_NoPaper (fun _ => rfl) []
  ·exact c5_no wd_NoLine (fun _ => rfl) []
  ·exact c5_no wd_NoUndo (fun _ => rfl) []
 have l6 : lcP c6_law bareD = .ok [] := lcP_none fun x hx => by
  unfold bareD at hx
  simp only [List.mem_cons, List.not_mem_nil, or_false] at hx
  rcases hx with rfl | rfl | rfl | rfl | rfl | rfl | rfl | rfl | rfl | rfl | rfl | rfl | rfl
  ·exact c6_no (y := "NoName") (fun _ => rfl) []
  ·exact c6_no (y := "NoTurn") (fun _ => rfl) []
  ·exact c6_no (y := "NoTerm") (fun _ => rfl) []
  ·exact c6_no (y := "HasHoles") (fun _ => rfl) []
  ·exact c6_no (y := "NoFilling") (fun _ => rfl) []
  ·exact c6_no (y := "NoFacts") (fun _ => rfl) []
  ·exact c6_no (y := "NoAsk") (fun _ => rfl) []
  ·exact c6_no (y := "NotApart") (fun _ => rfl) []
  ·exact c6_no (y := "NoRule") (fun _ => rfl) []
  ·exact c6_no (y := "NoWeighing") (fun _ => rfl) []
  ·exact c6_no (y := "NoPaper") (fun _ => rfl) []
  ·exact c6_no (y := "NoLine") (fun _ => rfl) []
  ·exact c6_no (y := "NoUndo") (fun _ => rfl) []
 have ne := ne_00
 have h4 : h4_law (.list bareD) = .ok false := by
  unfold h4_law
  simp only [en, oB, l5, nB_ok, ne, bo_b]
 unfold q3_law
 generalize bareD = B at *
 simp only [h4, pB_ok, Bool.false_eq_true, if_false, it, oB, l6, nB_ok, ne, bo_b]
theorem q8_k {y : Str} {i : Nat} (w : WdK y (13 + i)) (hs : ∀ fs, isxD tSh (excD y fs) = some (.bool true)) (fs : List (Str × D)) : q8_law (.tuple [.int (i : Int), excD y fs]) () = .ok (.nx ()) := by
 have t2 : tupO 2 (.tuple [.int (i : Int), excD y fs]) = some [.int (i : Int), excD y fs] := rfl
 have w := w fs
 have fr : OV.frz (.lst [.int ((13 + i : Nat) : Int)]) = some (.list [.int ((13 + i : Nat) : Int)]) := rfl
 have ad : addD (.int 13) (.int (i : Int)) = some (.int ((13 + i : Nat) : Int)) := by
  show some (PyData.int _) = _
  congr
 have ne := ne_one ((13 + i : Nat) : Int)
 have hs := hs fs
 unfold tSh at hs
 unfold q8_law h9_law
 generalize excD y fs = E at *
 simp only [t2, oB, conO, nilO, w, cB_ok, fr, ad, ne, bo_b, Bool.false_eq_true, if_false, hs, Bool.not_true, pB_ok]
def fldD (a c r : D) : List D := [excD "NoPlace" [("place", r)], excD "BadStep" [("at", a)], excD "Clash" [("lot", r)], excD "NotClosed" [("hole", .none), ("name", c)], excD "TooLong" [("most", a)], excD "NotGood" [("verdict", r)], excD "NoText" [("at", a)]]
theorem fields_k (a c r : D) : f__law_fields [.d a, .d c, .d r] = .ok (.d (.tuple [.list (fldD a c r), .list (fldD a c r)])) [some (.d a), some (.d c), some (.d r)] := by
 rw [eq__law_fields]; rfl
theorem right_k {a c r : D} (la : Ly 2 a) (lc : Ly 2 c) (lr : Ly 2 r) : f__law_right [.d (.list (fldD a c r)), .d a, .d c, .d r] = .ok (.d (.bool true)) [some (.d (.list (fldD a c r))), some (.d a), some (.d c), some (.d r)] := by
 have ne : neD (.list [r, r, r]) (.list [r, r, r]) = some (.bool false) := (ne_same (n := 3) (Ly.lst fun x hx => by
  simp only [List.mem_cons, List.not_mem_nil, or_false] at hx
  rcases hx with rfl | rfl | rfl <;> assumption) (by omega)).1
 have eq : eqD (.list [a, c, .none, a, a]) (.list [a, c, .none, a, a]) = some (.bool true) := (ne_same (n := 3) (Ly.lst fun x hx => by
  simp only [List.mem_cons, List.not_mem_nil, or_false] at hx
  rcases hx with rfl | rfl | rfl | rfl | rfl <;> first | assumption | exact ly_none.up (by omega)) (by omega)).2
 have i0 : ixD (.list (fldD a c r)) (.int 0) = some (excD "NoPlace" [("place", r)]) := rfl
 have i1 : ixD (.list (fldD a c r)) (.int 1) = some (excD "BadStep" [("at", a)]) := rfl
 have i2 : ixD (.list (fldD a c r)) (.int 2) = some (excD "Clash" [("lot", r)]) := rfl
 have i3 : ixD (.list (fldD a c r)) (.int 3) = some (excD "NotClosed" [("hole", .none), ("name", c)]) := rfl
 have i4 : ixD (.list (fldD a c r)) (.int 4) = some (excD "TooLong" [("most", a)]) := rfl
 have i5 : ixD (.list (fldD a c r)) (.int 5) = some (excD "NotGood" [("verdict", r)]) := rfl
 have i6 : ixD (.list (fldD a c r)) (.int 6) = some (excD "NoText" [("at", a)]) := rfl
 have f0 : fldxD ["NoPlace"] "place" (excD "NoPlace" [("place", r)]) = some r := rfl
 have f1 : fldxD ["BadStep", "NoText"] "at" (excD "BadStep" [("at", a)]) = some a := rfl
 have f2 : fldxD ["Clash"] "lot" (excD "Clash" [("lot", r)]) = some r := rfl
 have f3 : fldxD ["NotClosed"] "name" (excD "NotClosed" [("hole", .none), ("name", c)]) = some c := rfl
 have f4 : fldxD ["NotClosed"] "hole" (excD "NotClosed" [("hole", .none), ("name", c)]) = some .none := rfl
 have f5 : fldxD ["TooLong"] "most" (excD "TooLong" [("most", a)]) = some a := rfl
 have f6 : fldxD ["NotGood"] "verdict" (excD "NotGood" [("verdict", r)]) = some r := rfl
 have f7 : fldxD ["BadStep", "NoText"] "at" (excD "NoText" [("at", a)]) = some a := rfl
 rw [eq__law_right]
 generalize fldD a c r = L at *
 simp only [i0, i1, i2, i3, i4, i5, i6, f0, f1, f2, f3, f4, f5, f6, f7, oB, ne, eq, bo_b, Bool.false_eq_true, if_false]
theorem q7_k {a c r : D} (la : Ly 2 a) (lc : Ly 2 c) (lr : Ly 2 r) : q7_law a c r (.list (fldD a c r)) () = .ok (.nx ()) := by
 have rt := right_k la lc lr
 have en : enumA (.list (fldD a c r)) = some [.tuple [.int ((0 : Nat) : Int), excD "NoPlace" [("place", r)]], .tuple [.int ((1 : Nat) : Int), excD "BadStep" [("at", a)]], .tuple [.int ((2 : Nat) : Int), excD "Clash" [("lot", r)]], .tuple [.int ((3 : Nat) : Int), excD "NotClosed" [("hole", .none), ("name", c)]], .tuple [.int ((4 : Nat) : Int), excD "TooLong" [("most", a)]], .tuple [.int ((5 : Nat) : Int), excD "NotGood" [("verdict", r)]], .tuple [.int ((6 : Nat) : Int), excD "NoText" [("at", a)]]] := rfl
 have f8 : forF q8_law [.tuple [.int ((0 : Nat) : Int), excD "NoPlace" [("place", r)]], .tuple [.int ((1 : Nat) : Int), excD "BadStep" [("at", a)]], .tuple [.int ((2 : Nat) : Int), excD "Clash" [("lot", r)]], .tuple [.int ((3 : Nat) : Int), excD "NotClosed" [("hole", .none), ("name", c)]], .tuple [.int ((4 : Nat) : Int), excD "TooLong" [("most", a)]], .tuple [.int ((5 : Nat) : Int), excD "NotGood" [("verdict", r)]], .tuple [.int ((6 : Nat) : Int), excD "NoText" [("at", a)]]] () = .ok (.nx ()) := forF_const fun x hx => by
  simp only [List.mem_cons, List.not_mem_nil, or_false] at hx
  rcases hx with rfl | rfl | rfl | rfl | rfl | rfl | rfl
  ·exact q8_k (i := 0) wd_NoPlace (fun _ => rfl) _
  ·exact q8_k (i := 1) wd_BadStep (fun _ => rfl) _
  ·exact q8_k (i := 2) wd_Clash (fun _ => rfl) _
  ·exact q8_k (i := 3) wd_NotClosed (fun _ => rfl) _
  ·exact q8_k (i := 4) wd_TooLong (fun _ => rfl) _
  ·exact q8_k (i := 5) wd_NotGood (fun _ => rfl) _
  ·exact q8_k (i := 6) wd_NoText (fun _ => rfl) _
 unfold q7_law
 generalize fldD a c r = L at *
 simp only [rt, cB_ok, fr_d, oB, bo_b, Bool.not_true, Bool.false_eq_true, if_false, en, f8, lF_nx]
theorem q10_k (a : Int) : q10_law (.int a) (excD "Missing" [("number", .int a)]) () = .ok (.nx ()) := by
 have w := wd_Missing [("number", PyData.int a)]
 have w : f__law_words [.d (excD "Missing" [("number", PyData.int a)])] = .ok (.lst [.int 20]) [some (.d (excD "Missing" [("number", .int a)]))] := w
 have fr : OV.frz (.lst [.int 20]) = some (.list [.int 20]) := rfl
 have ne := ne_one 20
 have fl : fldxD ["Missing"] "number" (excD "Missing" [("number", .int a)]) = some (.int a) := rfl
 have n2 : neD (.int a) (.int a) = some (.bool false) := (ne_same (ly_int a 1) (by omega)).1
 have hs : isxD tSh (excD "Missing" [("number", .int a)]) = some (.bool false) := rfl
 unfold tSh at hs
 unfold q10_law h11_law
 generalize excD "Missing" [("number", PyData.int a)] = E at *
 simp only [w, cB_ok, fr, oB, ne, bo_b, Bool.false_eq_true, if_false, fl, n2, hs, pB_ok]
theorem h12_k (a : D) : h12_law a = .ok false := by
 have tk := eq__law_taken a
 have fr : OV.frz (.lst [.bool true, .bool true, .bool true]) = some (.list [.bool true, .bool true, .bool true]) := rfl
 have ne : neD (.list [.bool true, .bool true, .bool true]) (.list [.bool true, .bool true, .bool true]) = some (.bool false) := (ne_same (n := 2) (Ly.lst fun x hx => by
  simp only [List.mem_cons, List.not_mem_nil, or_false] at hx
  rcases hx with rfl | rfl | rfl <;> exact ly_bool true) (by omega)).1
 have hs : isxD tSh (excD "ShutError" []) = some (.bool true) := rfl
 unfold tSh at hs
 unfold h12_law
 simp only [tk, cB_ok, fr, oB, ne, bo_b, Bool.false_eq_true, if_false, hs, Bool.not_true, pB_ok]
theorem ix_str {L : Str} (hl : L.length ≤ 100) {r : Int} (h0 : 0 ≤ r) (h1 : r < (cpl L).length) : ∃ c ∈ cpl L, ixD (.str L) (.int r) = some (.str ⟨#[c]⟩) := by
 obtain ⟨c, e1, e2⟩ := atI_nat (xs := cpl L) (i := r) h0 h1
 have b := size_20k
 have e : ixD (.str L) (.int r) = if L.length ≤ sizeLine then (atI (cpl L) r).map (fun c => PyData.str ⟨#[c]⟩) else none := rfl
 refine ⟨c, List.mem_of_getElem? e2, ?_⟩
 rw [e, if_pos (by omega), e1]; rfl
theorem add_s (a b : Str) (h : a.length + b.length ≤ sizeLine) : addD (.str a) (.str b) = some (.str (a ++ b)) := if_pos h
theorem name_k {p : List D} (hp : Pil p) : ∃ (s : Str) (p' : List D), FitS s ∧ Pil p' ∧ f__law_name [.lst p] = .ok (.d (.str s)) [some (.lst p')] := by
 have b := size_20k
 have la : (abc : Str).length = 26 := by decide +kernel
 have ca : (cpl abc).length = 26 := by decide +kernel
 obtain ⟨r, p1, r0, r1, hp1, e1⟩ := take_k hp 4 (by decide) (by decide)
 have gt1 : gtD (.int r) (.int 1) = some (.bool (decide (1 < r))) := rfl
 obtain ⟨g, g0, g1, ib, ix⟩ : ∃ g : Int, 0 < g ∧ g ≤ 26 ∧ (∃ z, DL.intD (.bool (decide (1 < r))) = some z ∧ ixD (.list [.int 5, .int 26]) z = some (.int g)) ∧ True := by
  cases decide (1 < r)
  ·exact ⟨5, by omega, by omega, ⟨.int 0, rfl, rfl⟩, trivial⟩
  ·exact ⟨26, by omega, by omega, ⟨.int 1, rfl, rfl⟩, trivial⟩
 obtain ⟨z, ib, ix⟩ := ib
 obtain ⟨t, p2, t0, t1, hp2, e2⟩ := take_k hp1 g g0 (by omega)
 obtain ⟨c, hc, ic⟩ := ix_str (L := abc) (by omega) t0 (by rw [ca]; omega)
 have hn : NmS ⟨#[c]⟩ := nm_one ((mem_abc c).mp hc)
 have q1 := eq_i r 1
 have q3 := eq_i r 3
 have ic : ixD (.str "abcdefghijklmnopqrstuvwxyz") (.int t) = some (.str ⟨#[c]⟩) := ic
 have h1 : ∃ (w : Str) (p3 : List D), NmS w ∧ w.length ≤ 2 ∧ (r = 3 → w.length = 1) ∧ Pil p3 ∧ h1__law_name (some (.lst p2)) (.int r) (.str ⟨#[c]⟩) = .ok (some (.lst p3), .str w) := by
  by_cases h : r = 1
  ·rw [decide_eq_true h] at q1
   obtain ⟨u, p3, u0, u1, hp3, e3⟩ := take_k hp2 4 (by decide) (by decide)
   obtain ⟨f, hf, hw⟩ : ∃ f : Nat, strD (.int u) = some (.str ⟨#[f]⟩) ∧ isFg f := by
    have : u = 0 ∨ u = 1 ∨ u = 2 ∨ u = 3 := by omega
    rcases this with rfl | rfl | rfl | rfl
    ·refine ⟨48, ?_, by decide⟩
     show (if ((0 : Int)).natAbs.log2 < 1920 then some (PyData.str (toString (0 : Int))) else none) = _
     rw [if_pos (by decide), show (toString (0 : Int) : Str) = ⟨#[48]⟩ from by decide +kernel]
    ·refine ⟨49, ?_, by decide⟩
     show (if ((1 : Int)).natAbs.log2 < 1920 then some (PyData.str (toString (1 : Int))) else none) = _
     rw [if_pos (by decide), show (toString (1 : Int) : Str) = ⟨#[49]⟩ from by decide +kernel]
    ·refine ⟨50, ?_, by decide⟩
     show (if ((2 : Int)).natAbs.log2 < 1920 then some (PyData.str (toString (2 : Int))) else none) = _
     rw [if_pos (by decide), show (toString (2 : Int) : Str) = ⟨#[50]⟩ from by decide +kernel]
    ·refine ⟨51, ?_, by decide⟩
     show (if ((3 : Int)).natAbs.log2 < 1920 then some (PyData.str (toString (3 : Int))) else none) = _
     rw [if_pos (by decide), show (toString (3 : Int) : Str) = ⟨#[51]⟩ from by decide +kernel]
   have ad : addD (.str ⟨#[c]⟩) (.str ⟨#[f]⟩) = some (.str ((⟨#[c]⟩ : Str) ++ ⟨#[f]⟩)) := add_s _ _ (by show 1 + 1 ≤ _; omega)
   refine ⟨(⟨#[c]⟩ : Str) ++ ⟨#[f]⟩, p3, nm_app hn (by show 1 < 8; decide) (.inr hw), Nat.le_of_eq (by rw [Str.length_append]; rfl), fun h3 => by omega, hp3, ?_⟩
   unfold h1__law_name
   simp only [q1, oB, bo_b, if_true, e3, cB_ok, fr_d, hf, ad, gt_0, pB_ok]
  ·rw [decide_eq_false h] at q1
   refine ⟨⟨#[c]⟩, p2, hn, by show 1 ≤ 2; decide, fun _ => rfl, hp2, ?_⟩
   unfold h1__law_name
   simp only [q1, oB, bo_b, Bool.false_eq_true, if_false, pB_ok]
 obtain ⟨w, p3, hw, wl, w3, hp3, h1⟩ := h1
 have h2 : ∃ (v : Str) (p4 : List D), NmS v ∧ Pil p4 ∧ h2__law_name (some (.lst p3)) (.int r) (.str abc) (.str w) = .ok (some (.lst p4), .str v) := by
  by_cases h : r = 3
  ·rw [decide_eq_true h] at q3
   have w1 := w3 h
   obtain ⟨u, p4, u0, u1, hp4, e4⟩ := take_k hp3 7 (by decide) (by decide)
   obtain ⟨m, hm⟩ : ∃ m : Nat, 1 + u = (m : Int) := ⟨(1 + u).toNat, by omega⟩
   have ad0 : addD (.int 1) (.int u) = some (.int (m : Int)) := by rw [← hm]; rfl
   have rg := range_ok m (by omega)
   have ad : addD (.str abc) (.str "0123456789") = some (.str (abc ++ "0123456789")) := add_s _ _ (by rw [la]; show 26 + 10 ≤ _; omega)
   have cl : cpl (abc ++ "0123456789") = cpl abc ++ cpl "0123456789" := Array.toList_append ..
   have fl : (cpl "0123456789").length = 10 := by decide +kernel
   obtain ⟨s', g1, s, p5, rfl, hs, hp5, _⟩ := forS_map (b := q3__law_name (.str abc)) (f := fun k : Nat => PyData.int (0 + (k : Nat))) (l := List.range m) (s := ((some (.lst p4) : Option OV), (PyData.str w)))
    (fun pre s => ∃ (x : Str) (q : List D), s = (some (.lst q), .str x) ∧ NmS x ∧ Pil q ∧ x.length = 1 + pre.length) ⟨w, p4, rfl, hw, hp4, w1⟩ fun pre x post s hpre hI => by
     obtain ⟨x, q, rfl, hx, hq, hl⟩ := hI
     have hlen := congrArg List.length hpre
     rw [List.length_range, List.length_append, List.length_cons] at hlen
     obtain ⟨v, q2, v0, v1, hq2, e3⟩ := take_k hq 36 (by decide) (by decide)
     obtain ⟨d, hd, ix2⟩ := ix_str (L := abc ++ "0123456789") (r := v) (by rw [Str.length_append, la]; show 26 + 10 ≤ 100; omega) v0 (by rw [cl, List.length_append, ca, fl]; exact v1)
     rw [cl] at hd
     have ad2 : addD (.str x) (.str ⟨#[d]⟩) = some (.str (x ++ ⟨#[d]⟩)) := add_s _ _ (by show x.length + 1 ≤ _; omega)
     refine ⟨(some (.lst q2), .str (x ++ ⟨#[d]⟩)), ?_, x ++ ⟨#[d]⟩, q2, rfl, nm_app hx (by omega) ((List.mem_append.mp hd).imp (mem_abc d).mp (ST.mem_fig d).mp), hq2, by rw [Str.length_append, List.length_append, hl]; rfl⟩
     unfold q3__law_name
     simp only [ad, oB, e3, cB_ok, fr_d, ix2, ad2, gt_0]
   have g1 : forS (q3__law_name (.str abc)) (rangeL 0 m) (some (.lst p4), .str w) = _ := g1
   refine ⟨s, p5, hs, hp5, ?_⟩
   unfold h2__law_name
   simp only [q3, oB, bo_b, if_true, e4, cB_ok, fr_d, ad0, rg, gt_0, g1, pB_ok]
  ·rw [decide_eq_false h] at q3
   refine ⟨w, p3, hw, hp3, ?_⟩
   unfold h2__law_name
   simp only [q3, oB, bo_b, Bool.false_eq_true, if_false, pB_ok]
 obtain ⟨v, p4, hv, hp4, h2⟩ := h2
 have h2 : h2__law_name (some (.lst p3)) (.int r) (.str "abcdefghijklmnopqrstuvwxyz") (.str w) = _ := h2
 refine ⟨v, p4, hv.fit, hp4, ?_⟩
 rw [eq__law_name]
 simp only [e1, cB_ok, fr_d, oB, gt_0, gt1, ib, ix, e2, ic, h1, pB_ok, h2]
theorem row_go : ∀ (xs : List D) (p : List D), Pil p → ∃ (ns : List Int) (p' : List D), Pil p' ∧ lcS c2_law xs (some (.lst p)) = .ok (ns.map .int, some (.lst p'))
 | [], p, hp => ⟨[], p, hp, rfl⟩
 | x :: xs, p, hp => by
  obtain ⟨r, p1, _, _, hp1, e⟩ := take_k hp 9 (by decide) (by decide)
  obtain ⟨ns, p2, hp2, e2⟩ := row_go xs p1 hp1
  have q : c2_law x (some (.lst p)) = .ok (some (.int r), some (.lst p1)) := by
   unfold c2_law
   simp only [oB, e, cB_ok, fr_d, gt_0]
  refine ⟨r :: ns, p2, hp2, ?_⟩
  rw [lcS, q, nB_ok, e2]; rfl
theorem q1_k (ns : List Int) (k : Nat) (hk : k < 10) : q1_law (scrD ns) (.int (0 + (k : Nat))) () = .ok (.nx ()) := by
 obtain ⟨p, hp, e1⟩ := pile_k ns k (by omega)
 have pw : powD (.int 10) (.int 19) = some (.int (10 ^ 19)) := by rfl
 have ml : mulD (.int 2) (.int (10 ^ 19)) = some (.int (2 * 10 ^ 19)) := mul_b (by decide) (by decide)
 obtain ⟨r, p1, _, _, hp1, e2⟩ := take_k hp (2 * 10 ^ 19) (by decide) (by decide)
 have sb : subD (.int r) (.int (10 ^ 19)) = some (.int (r - 10 ^ 19)) := rfl
 generalize r - 10 ^ 19 = a at *
 obtain ⟨s, p2, fs, hp2, e3⟩ := name_k hp1
 obtain ⟨t, p3, t0, t1, hp3, e4⟩ := take_k hp2 4 (by decide) (by decide)
 obtain ⟨m, rfl⟩ : ∃ m : Nat, t = (m : Int) := ⟨t.toNat, by omega⟩
 have rg := range_ok m (by omega)
 obtain ⟨row, p4, hp4, e5⟩ := row_go (rangeL 0 m) p3 hp3
 have td : tupD (.list (row.map .int)) = some (.tuple (row.map PyData.int)) := rfl
 have lr : Ly 2 (.tuple (row.map PyData.int)) := Ly.tup fun x hx => by
  obtain ⟨i, _, rfl⟩ := List.mem_map.mp hx
  exact ly_int i 1
 have la : Ly 2 (.int a) := (ly_int a 1).up (by omega)
 have lc : Ly 2 (.str s) := (ly_str fs 1).up (by omega)
 generalize PyData.tuple (row.map PyData.int) = R at *
 have pl := plain_k
 have i1 : itemsD (.tuple [.list bareD, .list bareD]) = some [.list bareD, .list bareD] := rfl
 have f3 : forF q3_law [.list bareD, .list bareD] () = .ok (.nx ()) := forF_const fun x hx => by
  simp only [List.mem_cons, List.not_mem_nil, or_false, or_self] at hx
  subst hx
  exact q3_k
 have fk := fields_k (.int a) (.str s) R
 have i2 : itemsD (.tuple [.list (fldD (.int a) (.str s) R), .list (fldD (.int a) (.str s) R)]) = some [.list (fldD (.int a) (.str s) R), .list (fldD (.int a) (.str s) R)] := rfl
 have f7 : forF (q7_law (.int a) (.str s) R) [.list (fldD (.int a) (.str s) R), .list (fldD (.int a) (.str s) R)] () = .ok (.nx ()) := forF_const fun x hx => by
  simp only [List.mem_cons, List.not_mem_nil, or_false, or_self] at hx
  subst hx
  exact q7_k la lc lr
 have i3 : itemsD (.list [excD "Missing" [("number", .int a)], excD "Missing" [("number", .int a)]]) = some [excD "Missing" [("number", .int a)], excD "Missing" [("number", .int a)]] := rfl
 have f10 : forF (q10_law (.int a)) [excD "Missing" [("number", .int a)], excD "Missing" [("number", .int a)]] () = .ok (.nx ()) := forF_const fun x hx => by
  simp only [List.mem_cons, List.not_mem_nil, or_false, or_self] at hx
  subst hx
  exact q10_k a
 have h12 := h12_k (.int a)
 rw [Int.zero_add]
 unfold q1_law
 generalize scrD ns = SS at *
 generalize bareD = B at *
 generalize fldD (.int a) (.str s) R = L at *
 simp only [e1, cB_ok, pw, oB, ml, e2, fr_d, sb, gt_0, e3, e4, rg, e5, nB_ok, td, pl, i1, f3, lF_nx, fk, i2, f7, i3, f10, h12, pB_ok, Bool.false_eq_true, if_false]
theorem law_true : ∀ ns : List Int, ns.length ≤ 63 → ∃ outs, f_law [.d (scrD ns)] = .ok (.d (.bool true)) outs := fun ns hns => by
 have rg : range1 (.int 10) = some (rangeL 0 10) := range_ok 10 (by omega)
 have f1 : forF (q1_law (scrD ns)) (rangeL 0 10) () = .ok (.nx ()) := forF_const fun x hx => by
  unfold rangeL at hx
  obtain ⟨k, hk, rfl⟩ := List.mem_map.mp hx
  exact q1_k ns k (List.mem_range.mp hk)
 refine ⟨[some (.d (scrD ns))], ?_⟩
 rw [eq_law]
 generalize scrD ns = SS at *
 simp only [rg, oB, f1, lF_nx]
end K07
end
section
namespace K07
open PySem PySem.Spec PyProof.Rows L2 DL
theorem wd [DL.TheW] {K : Frag} {h : Heap} {mg : Str → Option Value} (X : K.In h) (G : h.Ns mainGlobals mg) (c : He.SaysD faL fnL K) (c2 : fxB fxL K = true) : Nonempty (Wd K mg) := by
 obtain ⟨d0, F0⟩ := c.def_ 0 (d := dd__law_mixed) rfl
 obtain ⟨d1, F1⟩ := c.def_ 1 (d := dd__law_pile) rfl
 obtain ⟨d2, F2⟩ := c.def_ 2 (d := dd__law_take) rfl
 obtain ⟨d3, F3⟩ := c.def_ 3 (d := dd__law_name) rfl
 obtain ⟨d4, F4⟩ := c.def_ 4 (d := dd__law_words) rfl
 obtain ⟨d5, F5⟩ := c.def_ 5 (d := dd__law_plain) rfl
 obtain ⟨d6, F6⟩ := c.def_ 6 (d := dd__law_fields) rfl
 obtain ⟨d7, F7⟩ := c.def_ 7 (d := dd__law_right) rfl
 obtain ⟨d8, F8⟩ := c.def_ 8 (d := dd__law_taken) rfl
 obtain ⟨d9, F9⟩ := c.def_ 9 (d := dd_law) rfl
 obtain ⟨e0, E0⟩ := c.def_ 10 (d := ddi_BadStep) rfl
 obtain ⟨e1, E1⟩ := c.def_ 11 (d := ddi_Clash) rfl
 obtain ⟨e2, E2⟩ := c.def_ 12 (d := ddi_Missing) rfl
 obtain ⟨e3, E3⟩ := c.def_ 13 (d := ddi_NoPlace) rfl
 obtain ⟨e4, E4⟩ := c.def_ 14 (d := ddi_NoText) rfl
 obtain ⟨e5, E5⟩ := c.def_ 15 (d := ddi_NotClosed) rfl
 obtain ⟨e6, E6⟩ := c.def_ 16 (d := ddi_NotGood) rfl
 obtain ⟨e7, E7⟩ := c.def_ 17 (d := ddi_TooLong) rfl
 exact ⟨⟨He.free_ok X G (c.fact 10 (f := .free "KeyError") rfl),
  He.free_ok X G (c.fact 11 (f := .free "ValueError") rfl),
  He.free_ok X G (c.fact 12 (f := .free "abs") rfl),
  He.free_ok X G (c.fact 13 (f := .free "enumerate") rfl),
  He.free_ok X G (c.fact 14 (f := .free "int") rfl),
  He.free_ok X G (c.fact 15 (f := .free "isinstance") rfl),
  He.free_ok X G (c.fact 16 (f := .free "len") rfl),
  He.free_ok X G (c.fact 17 (f := .free "range") rfl),
  He.free_ok X G (c.fact 18 (f := .free "str") rfl),
  He.free_ok X G (c.fact 19 (f := .free "tuple") rfl),
  He.glo_ok X G (c.fact 20 (f := .glo "BadStep") rfl),
  He.glo_ok X G (c.fact 21 (f := .glo "Clash") rfl),
  He.glo_ok X G (c.fact 22 (f := .glo "HasHoles") rfl),
  He.glo_ok X G (c.fact 23 (f := .glo "Missing") rfl),
  He.glo_ok X G (c.fact 24 (f := .glo "NoAsk") rfl),
  He.glo_ok X G (c.fact 25 (f := .glo "NoFacts") rfl),
  He.glo_ok X G (c.fact 26 (f := .glo "NoFilling") rfl),
  He.glo_ok X G (c.fact 27 (f := .glo "NoLine") rfl),
  He.glo_ok X G (c.fact 28 (f := .glo "NoName") rfl),
  He.glo_ok X G (c.fact 29 (f := .glo "NoPaper") rfl),
  He.glo_ok X G (c.fact 30 (f := .glo "NoPlace") rfl),
  He.glo_ok X G (c.fact 31 (f := .glo "NoRule") rfl),
  He.glo_ok X G (c.fact 32 (f := .glo "NoTerm") rfl),
  He.glo_ok X G (c.fact 33 (f := .glo "NoText") rfl),
  He.glo_ok X G (c.fact 34 (f := .glo "NoTurn") rfl),
  He.glo_ok X G (c.fact 35 (f := .glo "NoUndo") rfl),
  He.glo_ok X G (c.fact 36 (f := .glo "NoWeighing") rfl),
  He.glo_ok X G (c.fact 37 (f := .glo "NotApart") rfl),
  He.glo_ok X G (c.fact 38 (f := .glo "NotClosed") rfl),
  He.glo_ok X G (c.fact 39 (f := .glo "NotGood") rfl),
  He.glo_ok X G (c.fact 40 (f := .glo "ShutError") rfl),
  He.glo_ok X G (c.fact 41 (f := .glo "TooLong") rfl),
  He.exc_ok (c.fact 42 (f := .exc "HasHoles") rfl),
  He.exc_ok (c.fact 43 (f := .exc "NoAsk") rfl),
  He.exc_ok (c.fact 44 (f := .exc "NoFacts") rfl),
  He.exc_ok (c.fact 45 (f := .exc "NoFilling") rfl),
  He.exc_ok (c.fact 46 (f := .exc "NoLine") rfl),
  He.exc_ok (c.fact 47 (f := .exc "NoName") rfl),
  He.exc_ok (c.fact 48 (f := .exc "NoPaper") rfl),
  He.exc_ok (c.fact 49 (f := .exc "NoRule") rfl),
  He.exc_ok (c.fact 50 (f := .exc "NoTerm") rfl),
  He.exc_ok (c.fact 51 (f := .exc "NoTurn") rfl),
  He.exc_ok (c.fact 52 (f := .exc "NoUndo") rfl),
  He.exc_ok (c.fact 53 (f := .exc "NoWeighing") rfl),
  He.exc_ok (c.fact 54 (f := .exc "NotApart") rfl),
  He.exc_ok (c.fact 55 (f := .exc "ShutError") rfl),
  He.exm_ok (c.fact 56 (f := .exm "NotClosed" "ShutError" true) rfl),
  He.exm_ok (c.fact 57 (f := .exm "TooLong" "ShutError" true) rfl),
  He.noat_ok (c.fact 58 (f := .noat "BadStep" "at") rfl),
  He.noat_ok (c.fact 59 (f := .noat "Clash" "lot") rfl),
  He.noat_ok (c.fact 60 (f := .noat "Missing" "number") rfl),
  He.noat_ok (c.fact 61 (f := .noat "NoPlace" "place") rfl),
  He.noat_ok (c.fact 62 (f := .noat "NoText" "at") rfl),
  He.noat_ok (c.fact 63 (f := .noat "NotClosed" "hole") rfl),
  He.noat_ok (c.fact 64 (f := .noat "NotClosed" "name") rfl),
  He.noat_ok (c.fact 65 (f := .noat "NotGood" "verdict") rfl),
  He.noat_ok (c.fact 66 (f := .noat "TooLong" "most") rfl),
  xb_ok (fx_at c2 0 (f := .xb "ShutError") rfl),
  xf_ok (fx_at c2 1 (f := .xf "BadStep") rfl),
  xf_ok (fx_at c2 2 (f := .xf "Clash") rfl),
  xf_ok (fx_at c2 3 (f := .xf "Missing") rfl),
  xf_ok (fx_at c2 4 (f := .xf "NoPlace") rfl),
  xf_ok (fx_at c2 5 (f := .xf "NoText") rfl),
  xf_ok (fx_at c2 6 (f := .xf "NotClosed") rfl),
  xf_ok (fx_at c2 7 (f := .xf "NotGood") rfl),
  xf_ok (fx_at c2 8 (f := .xf "TooLong") rfl),
  xk_ok (fx_at c2 9 (f := .xk "BadStep") rfl),
  xk_ok (fx_at c2 10 (f := .xk "Clash") rfl),
  xk_ok (fx_at c2 11 (f := .xk "HasHoles") rfl),
  xk_ok (fx_at c2 12 (f := .xk "Missing") rfl),
  xk_ok (fx_at c2 13 (f := .xk "NoAsk") rfl),
  xk_ok (fx_at c2 14 (f := .xk "NoFacts") rfl),
  xk_ok (fx_at c2 15 (f := .xk "NoFilling") rfl),
  xk_ok (fx_at c2 16 (f := .xk "NoLine") rfl),
  xk_ok (fx_at c2 17 (f := .xk "NoName") rfl),
  xk_ok (fx_at c2 18 (f := .xk "NoPaper") rfl),
  xk_ok (fx_at c2 19 (f := .xk "NoPlace") rfl),
  xk_ok (fx_at c2 20 (f := .xk "NoRule") rfl),
  xk_ok (fx_at c2 21 (f := .xk "NoTerm") rfl),
  xk_ok (fx_at c2 22 (f := .xk "NoText") rfl),
  xk_ok (fx_at c2 23 (f := .xk "NoTurn") rfl),
  xk_ok (fx_at c2 24 (f := .xk "NoUndo") rfl),
  xk_ok (fx_at c2 25 (f := .xk "NoWeighing") rfl),
  xk_ok (fx_at c2 26 (f := .xk "NotApart") rfl),
  xk_ok (fx_at c2 27 (f := .xk "NotClosed") rfl),
  xk_ok (fx_at c2 28 (f := .xk "NotGood") rfl),
  xk_ok (fx_at c2 29 (f := .xk "ShutError") rfl),
  xk_ok (fx_at c2 30 (f := .xk "TooLong") rfl),
  ki_ok (fx_at c2 31 (f := .ki "BadStep" "BadStep" true) rfl),
  ki_ok (fx_at c2 32 (f := .ki "BadStep" "Clash" false) rfl),
  ki_ok (fx_at c2 33 (f := .ki "BadStep" "HasHoles" false) rfl),
  ki_ok (fx_at c2 34 (f := .ki "BadStep" "Missing" false) rfl),
  ki_ok (fx_at c2 35 (f := .ki "BadStep" "NoAsk" false) rfl),
  ki_ok (fx_at c2 36 (f := .ki "BadStep" "NoFacts" false) rfl),
  ki_ok (fx_at c2 37 (f := .ki "BadStep" "NoFilling" false) rfl),
  ki_ok (fx_at c2 38 (f := .ki "BadStep" "NoLine" false) rfl),
  ki_ok (fx_at c2 39 (f := .ki "BadStep" "NoName" false) rfl),
  ki_ok (fx_at c2 40 (f := .ki "BadStep" "NoPaper" false) rfl),
  ki_ok (fx_at c2 41 (f := .ki "BadStep" "NoPlace" false) rfl),
  ki_ok (fx_at c2 42 (f := .ki "BadStep" "NoRule" false) rfl),
  ki_ok (fx_at c2 43 (f := .ki "BadStep" "NoTerm" false) rfl),
  ki_ok (fx_at c2 44 (f := .ki "BadStep" "NoText" false) rfl),
  ki_ok (fx_at c2 45 (f := .ki "BadStep" "NoTurn" false) rfl),
  ki_ok (fx_at c2 46 (f := .ki "BadStep" "NoUndo" false) rfl),
  ki_ok (fx_at c2 47 (f := .ki "BadStep" "NoWeighing" false) rfl),
  ki_ok (fx_at c2 48 (f := .ki "BadStep" "NotApart" false) rfl),
  ki_ok (fx_at c2 49 (f := .ki "BadStep" "NotClosed" false) rfl),
  ki_ok (fx_at c2 50 (f := .ki "BadStep" "NotGood" false) rfl),
  ki_ok (fx_at c2 51 (f := .ki "BadStep" "ShutError" true) rfl),
  ki_ok (fx_at c2 52 (f := .ki "BadStep" "TooLong" false) rfl),
  ki_ok (fx_at c2 53 (f := .ki "Clash" "BadStep" false) rfl),
  ki_ok (fx_at c2 54 (f := .ki "Clash" "Clash" true) rfl),
  ki_ok (fx_at c2 55 (f := .ki "Clash" "HasHoles" false) rfl),
  ki_ok (fx_at c2 56 (f := .ki "Clash" "Missing" false) rfl),
  ki_ok (fx_at c2 57 (f := .ki "Clash" "NoAsk" false) rfl),
  ki_ok (fx_at c2 58 (f := .ki "Clash" "NoFacts" false) rfl),
  ki_ok (fx_at c2 59 (f := .ki "Clash" "NoFilling" false) rfl),
  ki_ok (fx_at c2 60 (f := .ki "Clash" "NoLine" false) rfl),
  ki_ok (fx_at c2 61 (f := .ki "Clash" "NoName" false) rfl),
  ki_ok (fx_at c2 62 (f := .ki "Clash" "NoPaper" false) rfl),
  ki_ok (fx_at c2 63 (f := .ki "Clash" "NoPlace" false) rfl),
  ki_ok (fx_at c2 64 (f := .ki "Clash" "NoRule" false) rfl),
  ki_ok (fx_at c2 65 (f := .ki "Clash" "NoTerm" false) rfl),
  ki_ok (fx_at c2 66 (f := .ki "Clash" "NoText" false) rfl),
  ki_ok (fx_at c2 67 (f := .ki "Clash" "NoTurn" false) rfl),
  ki_ok (fx_at c2 68 (f := .ki "Clash" "NoUndo" false) rfl),
  ki_ok (fx_at c2 69 (f := .ki "Clash" "NoWeighing" false) rfl),
  ki_ok (fx_at c2 70 (f := .ki "Clash" "NotApart" false) rfl),
  ki_ok (fx_at c2 71 (f := .ki "Clash" "NotClosed" false) rfl),
  ki_ok (fx_at c2 72 (f := .ki "Clash" "NotGood" false) rfl),
  ki_ok (fx_at c2 73 (f := .ki "Clash" "ShutError" true) rfl),
  ki_ok (fx_at c2 74 (f := .ki "Clash" "TooLong" false) rfl),
  ki_ok (fx_at c2 75 (f := .ki "HasHoles" "BadStep" false) rfl),
  ki_ok (fx_at c2 76 (f := .ki "HasHoles" "Clash" false) rfl),
  ki_ok (fx_at c2 77 (f := .ki "HasHoles" "HasHoles" true) rfl),
  ki_ok (fx_at c2 78 (f := .ki "HasHoles" "Missing" false) rfl),
  ki_ok (fx_at c2 79 (f := .ki "HasHoles" "NoAsk" false) rfl),
  ki_ok (fx_at c2 80 (f := .ki "HasHoles" "NoFacts" false) rfl),
  ki_ok (fx_at c2 81 (f := .ki "HasHoles" "NoFilling" false) rfl),
  ki_ok (fx_at c2 82 (f := .ki "HasHoles" "NoLine" false) rfl),
  ki_ok (fx_at c2 83 (f := .ki "HasHoles" "NoName" false) rfl),
  ki_ok (fx_at c2 84 (f := .ki "HasHoles" "NoPaper" false) rfl),
  ki_ok (fx_at c2 85 (f := .ki "HasHoles" "NoPlace" false) rfl),
  ki_ok (fx_at c2 86 (f := .ki "HasHoles" "NoRule" false) rfl),
  ki_ok (fx_at c2 87 (f := .ki "HasHoles" "NoTerm" false) rfl),
  ki_ok (fx_at c2 88 (f := .ki "HasHoles" "NoText" false) rfl),
  ki_ok (fx_at c2 89 (f := .ki "HasHoles" "NoTurn" false) rfl),
  ki_ok (fx_at c2 90 (f := .ki "HasHoles" "NoUndo" false) rfl),
  ki_ok (fx_at c2 91 (f := .ki "HasHoles" "NoWeighing" false) rfl),
  ki_ok (fx_at c2 92 (f := .ki "HasHoles" "NotApart" false) rfl),
  ki_ok (fx_at c2 93 (f := .ki "HasHoles" "NotClosed" false) rfl),
  ki_ok (fx_at c2 94 (f := .ki "HasHoles" "NotGood" false) rfl),
  ki_ok (fx_at c2 95 (f := .ki "HasHoles" "ShutError" true) rfl),
  ki_ok (fx_at c2 96 (f := .ki "HasHoles" "TooLong" false) rfl),
  ki_ok (fx_at c2 97 (f := .ki "Missing" "BadStep" false) rfl),
  ki_ok (fx_at c2 98 (f := .ki "Missing" "Clash" false) rfl),
  ki_ok (fx_at c2 99 (f := .ki "Missing" "HasHoles" false) rfl),
  ki_ok (fx_at c2 100 (f := .ki "Missing" "Missing" true) rfl),
  ki_ok (fx_at c2 101 (f := .ki "Missing" "NoAsk" false) rfl),
  ki_ok (fx_at c2 102 (f := .ki "Missing" "NoFacts" false) rfl),
  ki_ok (fx_at c2 103 (f := .ki "Missing" "NoFilling" false) rfl),
  ki_ok (fx_at c2 104 (f := .ki "Missing" "NoLine" false) rfl),
  ki_ok (fx_at c2 105 (f := .ki "Missing" "NoName" false) rfl),
  ki_ok (fx_at c2 106 (f := .ki "Missing" "NoPaper" false) rfl),
  ki_ok (fx_at c2 107 (f := .ki "Missing" "NoPlace" false) rfl),
  ki_ok (fx_at c2 108 (f := .ki "Missing" "NoRule" false) rfl),
  ki_ok (fx_at c2 109 (f := .ki "Missing" "NoTerm" false) rfl),
  ki_ok (fx_at c2 110 (f := .ki "Missing" "NoText" false) rfl),
  ki_ok (fx_at c2 111 (f := .ki "Missing" "NoTurn" false) rfl),
  ki_ok (fx_at c2 112 (f := .ki "Missing" "NoUndo" false) rfl),
  ki_ok (fx_at c2 113 (f := .ki "Missing" "NoWeighing" false) rfl),
  ki_ok (fx_at c2 114 (f := .ki "Missing" "NotApart" false) rfl),
  ki_ok (fx_at c2 115 (f := .ki "Missing" "NotClosed" false) rfl),
  ki_ok (fx_at c2 116 (f := .ki "Missing" "NotGood" false) rfl),
  ki_ok (fx_at c2 117 (f := .ki "Missing" "ShutError" false) rfl),
  ki_ok (fx_at c2 118 (f := .ki "Missing" "TooLong" false) rfl),
  ki_ok (fx_at c2 119 (f := .ki "NoAsk" "BadStep" false) rfl),
  ki_ok (fx_at c2 120 (f := .ki "NoAsk" "Clash" false) rfl),
  ki_ok (fx_at c2 121 (f := .ki "NoAsk" "HasHoles" false) rfl),
  ki_ok (fx_at c2 122 (f := .ki "NoAsk" "Missing" false) rfl),
  ki_ok (fx_at c2 123 (f := .ki "NoAsk" "NoAsk" true) rfl),
  ki_ok (fx_at c2 124 (f := .ki "NoAsk" "NoFacts" false) rfl),
  ki_ok (fx_at c2 125 (f := .ki "NoAsk" "NoFilling" false) rfl),
  ki_ok (fx_at c2 126 (f := .ki "NoAsk" "NoLine" false) rfl),
  ki_ok (fx_at c2 127 (f := .ki "NoAsk" "NoName" false) rfl),
  ki_ok (fx_at c2 128 (f := .ki "NoAsk" "NoPaper" false) rfl),
  ki_ok (fx_at c2 129 (f := .ki "NoAsk" "NoPlace" false) rfl),
  ki_ok (fx_at c2 130 (f := .ki "NoAsk" "NoRule" false) rfl),
  ki_ok (fx_at c2 131 (f := .ki "NoAsk" "NoTerm" false) rfl),
  ki_ok (fx_at c2 132 (f := .ki "NoAsk" "NoText" false) rfl),
  ki_ok (fx_at c2 133 (f := .ki "NoAsk" "NoTurn" false) rfl),
  ki_ok (fx_at c2 134 (f := .ki "NoAsk" "NoUndo" false) rfl),
  ki_ok (fx_at c2 135 (f := .ki "NoAsk" "NoWeighing" false) rfl),
  ki_ok (fx_at c2 136 (f := .ki "NoAsk" "NotApart" false) rfl),
  ki_ok (fx_at c2 137 (f := .ki "NoAsk" "NotClosed" false) rfl),
  ki_ok (fx_at c2 138 (f := .ki "NoAsk" "NotGood" false) rfl),
  ki_ok (fx_at c2 139 (f := .ki "NoAsk" "ShutError" true) rfl),
  ki_ok (fx_at c2 140 (f := .ki "NoAsk" "TooLong" false) rfl),
  ki_ok (fx_at c2 141 (f := .ki "NoFacts" "BadStep" false) rfl),
  ki_ok (fx_at c2 142 (f := .ki "NoFacts" "Clash" false) rfl),
  ki_ok (fx_at c2 143 (f := .ki "NoFacts" "HasHoles" false) rfl),
  ki_ok (fx_at c2 144 (f := .ki "NoFacts" "Missing" false) rfl),
  ki_ok (fx_at c2 145 (f := .ki "NoFacts" "NoAsk" false) rfl),
  ki_ok (fx_at c2 146 (f := .ki "NoFacts" "NoFacts" true) rfl),
  ki_ok (fx_at c2 147 (f := .ki "NoFacts" "NoFilling" false) rfl),
  ki_ok (fx_at c2 148 (f := .ki "NoFacts" "NoLine" false) rfl),
  ki_ok (fx_at c2 149 (f := .ki "NoFacts" "NoName" false) rfl),
  ki_ok (fx_at c2 150 (f := .ki "NoFacts" "NoPaper" false) rfl),
  ki_ok (fx_at c2 151 (f := .ki "NoFacts" "NoPlace" false) rfl),
  ki_ok (fx_at c2 152 (f := .ki "NoFacts" "NoRule" false) rfl),
  ki_ok (fx_at c2 153 (f := .ki "NoFacts" "NoTerm" false) rfl),
  ki_ok (fx_at c2 154 (f := .ki "NoFacts" "NoText" false) rfl),
  ki_ok (fx_at c2 155 (f := .ki "NoFacts" "NoTurn" false) rfl),
  ki_ok (fx_at c2 156 (f := .ki "NoFacts" "NoUndo" false) rfl),
  ki_ok (fx_at c2 157 (f := .ki "NoFacts" "NoWeighing" false) rfl),
  ki_ok (fx_at c2 158 (f := .ki "NoFacts" "NotApart" false) rfl),
  ki_ok (fx_at c2 159 (f := .ki "NoFacts" "NotClosed" false) rfl),
  ki_ok (fx_at c2 160 (f := .ki "NoFacts" "NotGood" false) rfl),
  ki_ok (fx_at c2 161 (f := .ki "NoFacts" "ShutError" true) rfl),
  ki_ok (fx_at c2 162 (f := .ki "NoFacts" "TooLong" false) rfl),
  ki_ok (fx_at c2 163 (f := .ki "NoFilling" "BadStep" false) rfl),
  ki_ok (fx_at c2 164 (f := .ki "NoFilling" "Clash" false) rfl),
  ki_ok (fx_at c2 165 (f := .ki "NoFilling" "HasHoles" false) rfl),
  ki_ok (fx_at c2 166 (f := .ki "NoFilling" "Missing" false) rfl),
  ki_ok (fx_at c2 167 (f := .ki "NoFilling" "NoAsk" false) rfl),
  ki_ok (fx_at c2 168 (f := .ki "NoFilling" "NoFacts" false) rfl),
  ki_ok (fx_at c2 169 (f := .ki "NoFilling" "NoFilling" true) rfl),
  ki_ok (fx_at c2 170 (f := .ki "NoFilling" "NoLine" false) rfl),
  ki_ok (fx_at c2 171 (f := .ki "NoFilling" "NoName" false) rfl),
  ki_ok (fx_at c2 172 (f := .ki "NoFilling" "NoPaper" false) rfl),
  ki_ok (fx_at c2 173 (f := .ki "NoFilling" "NoPlace" false) rfl),
  ki_ok (fx_at c2 174 (f := .ki "NoFilling" "NoRule" false) rfl),
  ki_ok (fx_at c2 175 (f := .ki "NoFilling" "NoTerm" false) rfl),
  ki_ok (fx_at c2 176 (f := .ki "NoFilling" "NoText" false) rfl),
  ki_ok (fx_at c2 177 (f := .ki "NoFilling" "NoTurn" false) rfl),
  ki_ok (fx_at c2 178 (f := .ki "NoFilling" "NoUndo" false) rfl),
  ki_ok (fx_at c2 179 (f := .ki "NoFilling" "NoWeighing" false) rfl),
  ki_ok (fx_at c2 180 (f := .ki "NoFilling" "NotApart" false) rfl),
  ki_ok (fx_at c2 181 (f := .ki "NoFilling" "NotClosed" false) rfl),
  ki_ok (fx_at c2 182 (f := .ki "NoFilling" "NotGood" false) rfl),
  ki_ok (fx_at c2 183 (f := .ki "NoFilling" "ShutError" true) rfl),
  ki_ok (fx_at c2 184 (f := .ki "NoFilling" "TooLong" false) rfl),
  ki_ok (fx_at c2 185 (f := .ki "NoLine" "BadStep" false) rfl),
  ki_ok (fx_at c2 186 (f := .ki "NoLine" "Clash" false) rfl),
  ki_ok (fx_at c2 187 (f := .ki "NoLine" "HasHoles" false) rfl),
  ki_ok (fx_at c2 188 (f := .ki "NoLine" "Missing" false) rfl),
  ki_ok (fx_at c2 189 (f := .ki "NoLine" "NoAsk" false) rfl),
  ki_ok (fx_at c2 190 (f := .ki "NoLine" "NoFacts" false) rfl),
  ki_ok (fx_at c2 191 (f := .ki "NoLine" "NoFilling" false) rfl),
  ki_ok (fx_at c2 192 (f := .ki "NoLine" "NoLine" true) rfl),
  ki_ok (fx_at c2 193 (f := .ki "NoLine" "NoName" false) rfl),
  ki_ok (fx_at c2 194 (f := .ki "NoLine" "NoPaper" false) rfl),
  ki_ok (fx_at c2 195 (f := .ki "NoLine" "NoPlace" false) rfl),
  ki_ok (fx_at c2 196 (f := .ki "NoLine" "NoRule" false) rfl),
  ki_ok (fx_at c2 197 (f := .ki "NoLine" "NoTerm" false) rfl),
  ki_ok (fx_at c2 198 (f := .ki "NoLine" "NoText" false) rfl),
  ki_ok (fx_at c2 199 (f := .ki "NoLine" "NoTurn" false) rfl),
  ki_ok (fx_at c2 200 (f := .ki "NoLine" "NoUndo" false) rfl),
  ki_ok (fx_at c2 201 (f := .ki "NoLine" "NoWeighing" false) rfl),
  ki_ok (fx_at c2 202 (f := .ki "NoLine" "NotApart" false) rfl),
  ki_ok (fx_at c2 203 (f := .ki "NoLine" "NotClosed" false) rfl),
  ki_ok (fx_at c2 204 (f := .ki "NoLine" "NotGood" false) rfl),
  ki_ok (fx_at c2 205 (f := .ki "NoLine" "ShutError" true) rfl),
  ki_ok (fx_at c2 206 (f := .ki "NoLine" "TooLong" false) rfl),
  ki_ok (fx_at c2 207 (f := .ki "NoName" "BadStep" false) rfl),
  ki_ok (fx_at c2 208 (f := .ki "NoName" "Clash" false) rfl),
  ki_ok (fx_at c2 209 (f := .ki "NoName" "HasHoles" false) rfl),
  ki_ok (fx_at c2 210 (f := .ki "NoName" "Missing" false) rfl),
  ki_ok (fx_at c2 211 (f := .ki "NoName" "NoAsk" false) rfl),
  ki_ok (fx_at c2 212 (f := .ki "NoName" "NoFacts" false) rfl),
  ki_ok (fx_at c2 213 (f := .ki "NoName" "NoFilling" false) rfl),
  ki_ok (fx_at c2 214 (f := .ki "NoName" "NoLine" false) rfl),
  ki_ok (fx_at c2 215 (f := .ki "NoName" "NoName" true) rfl),
  ki_ok (fx_at c2 216 (f := .ki "NoName" "NoPaper" false) rfl),
  ki_ok (fx_at c2 217 (f := .ki "NoName" "NoPlace" false) rfl),
  ki_ok (fx_at c2 218 (f := .ki "NoName" "NoRule" false) rfl),
  ki_ok (fx_at c2 219 (f := .ki "NoName" "NoTerm" false) rfl),
  ki_ok (fx_at c2 220 (f := .ki "NoName" "NoText" false) rfl),
  ki_ok (fx_at c2 221 (f := .ki "NoName" "NoTurn" false) rfl),
  ki_ok (fx_at c2 222 (f := .ki "NoName" "NoUndo" false) rfl),
  ki_ok (fx_at c2 223 (f := .ki "NoName" "NoWeighing" false) rfl),
  ki_ok (fx_at c2 224 (f := .ki "NoName" "NotApart" false) rfl),
  ki_ok (fx_at c2 225 (f := .ki "NoName" "NotClosed" false) rfl),
  ki_ok (fx_at c2 226 (f := .ki "NoName" "NotGood" false) rfl),
  ki_ok (fx_at c2 227 (f := .ki "NoName" "ShutError" true) rfl),
  ki_ok (fx_at c2 228 (f := .ki "NoName" "TooLong" false) rfl),
  ki_ok (fx_at c2 229 (f := .ki "NoPaper" "BadStep" false) rfl),
  ki_ok (fx_at c2 230 (f := .ki "NoPaper" "Clash" false) rfl),
  ki_ok (fx_at c2 231 (f := .ki "NoPaper" "HasHoles" false) rfl),
  ki_ok (fx_at c2 232 (f := .ki "NoPaper" "Missing" false) rfl),
  ki_ok (fx_at c2 233 (f := .ki "NoPaper" "NoAsk" false) rfl),
  ki_ok (fx_at c2 234 (f := .ki "NoPaper" "NoFacts" false) rfl),
  ki_ok (fx_at c2 235 (f := .ki "NoPaper" "NoFilling" false) rfl),
  ki_ok (fx_at c2 236 (f := .ki "NoPaper" "NoLine" false) rfl),
  ki_ok (fx_at c2 237 (f := .ki "NoPaper" "NoName" false) rfl),
  ki_ok (fx_at c2 238 (f := .ki "NoPaper" "NoPaper" true) rfl),
  ki_ok (fx_at c2 239 (f := .ki "NoPaper" "NoPlace" false) rfl),
  ki_ok (fx_at c2 240 (f := .ki "NoPaper" "NoRule" false) rfl),
  ki_ok (fx_at c2 241 (f := .ki "NoPaper" "NoTerm" false) rfl),
  ki_ok (fx_at c2 242 (f := .ki "NoPaper" "NoText" false) rfl),
  ki_ok (fx_at c2 243 (f := .ki "NoPaper" "NoTurn" false) rfl),
  ki_ok (fx_at c2 244 (f := .ki "NoPaper" "NoUndo" false) rfl),
  ki_ok (fx_at c2 245 (f := .ki "NoPaper" "NoWeighing" false) rfl),
  ki_ok (fx_at c2 246 (f := .ki "NoPaper" "NotApart" false) rfl),
  ki_ok (fx_at c2 247 (f := .ki "NoPaper" "NotClosed" false) rfl),
  ki_ok (fx_at c2 248 (f := .ki "NoPaper" "NotGood" false) rfl),
  ki_ok (fx_at c2 249 (f := .ki "NoPaper" "ShutError" true) rfl),
  ki_ok (fx_at c2 250 (f := .ki "NoPaper" "TooLong" false) rfl),
  ki_ok (fx_at c2 251 (f := .ki "NoPlace" "BadStep" false) rfl),
  ki_ok (fx_at c2 252 (f := .ki "NoPlace" "Clash" false) rfl),
  ki_ok (fx_at c2 253 (f := .ki "NoPlace" "HasHoles" false) rfl),
  ki_ok (fx_at c2 254 (f := .ki "NoPlace" "Missing" false) rfl),
  ki_ok (fx_at c2 255 (f := .ki "NoPlace" "NoAsk" false) rfl),
  ki_ok (fx_at c2 256 (f := .ki "NoPlace" "NoFacts" false) rfl),
  ki_ok (fx_at c2 257 (f := .ki "NoPlace" "NoFilling" false) rfl),
  ki_ok (fx_at c2 258 (f := .ki "NoPlace" "NoLine" false) rfl),
  ki_ok (fx_at c2 259 (f := .ki "NoPlace" "NoName" false) rfl),
  ki_ok (fx_at c2 260 (f := .ki "NoPlace" "NoPaper" false) rfl),
  ki_ok (fx_at c2 261 (f := .ki "NoPlace" "NoPlace" true) rfl),
  ki_ok (fx_at c2 262 (f := .ki "NoPlace" "NoRule" false) rfl),
  ki_ok (fx_at c2 263 (f := .ki "NoPlace" "NoTerm" false) rfl),
  ki_ok (fx_at c2 264 (f := .ki "NoPlace" "NoText" false) rfl),
  ki_ok (fx_at c2 265 (f := .ki "NoPlace" "NoTurn" false) rfl),
  ki_ok (fx_at c2 266 (f := .ki "NoPlace" "NoUndo" false) rfl),
  ki_ok (fx_at c2 267 (f := .ki "NoPlace" "NoWeighing" false) rfl),
  ki_ok (fx_at c2 268 (f := .ki "NoPlace" "NotApart" false) rfl),
  ki_ok (fx_at c2 269 (f := .ki "NoPlace" "NotClosed" false) rfl),
  ki_ok (fx_at c2 270 (f := .ki "NoPlace" "NotGood" false) rfl),
  ki_ok (fx_at c2 271 (f := .ki "NoPlace" "ShutError" true) rfl),
  ki_ok (fx_at c2 272 (f := .ki "NoPlace" "TooLong" false) rfl),
  ki_ok (fx_at c2 273 (f := .ki "NoRule" "BadStep" false) rfl),
  ki_ok (fx_at c2 274 (f := .ki "NoRule" "Clash" false) rfl),
  ki_ok (fx_at c2 275 (f := .ki "NoRule" "HasHoles" false) rfl),
  ki_ok (fx_at c2 276 (f := .ki "NoRule" "Missing" false) rfl),
  ki_ok (fx_at c2 277 (f := .ki "NoRule" "NoAsk" false) rfl),
  ki_ok (fx_at c2 278 (f := .ki "NoRule" "NoFacts" false) rfl),
  ki_ok (fx_at c2 279 (f := .ki "NoRule" "NoFilling" false) rfl),
  ki_ok (fx_at c2 280 (f := .ki "NoRule" "NoLine" false) rfl),
  ki_ok (fx_at c2 281 (f := .ki "NoRule" "NoName" false) rfl),
  ki_ok (fx_at c2 282 (f := .ki "NoRule" "NoPaper" false) rfl),
  ki_ok (fx_at c2 283 (f := .ki "NoRule" "NoPlace" false) rfl),
  ki_ok (fx_at c2 284 (f := .ki "NoRule" "NoRule" true) rfl),
  ki_ok (fx_at c2 285 (f := .ki "NoRule" "NoTerm" false) rfl),
  ki_ok (fx_at c2 286 (f := .ki "NoRule" "NoText" false) rfl),
  ki_ok (fx_at c2 287 (f := .ki "NoRule" "NoTurn" false) rfl),
  ki_ok (fx_at c2 288 (f := .ki "NoRule" "NoUndo" false) rfl),
  ki_ok (fx_at c2 289 (f := .ki "NoRule" "NoWeighing" false) rfl),
  ki_ok (fx_at c2 290 (f := .ki "NoRule" "NotApart" false) rfl),
  ki_ok (fx_at c2 291 (f := .ki "NoRule" "NotClosed" false) rfl),
  ki_ok (fx_at c2 292 (f := .ki "NoRule" "NotGood" false) rfl),
  ki_ok (fx_at c2 293 (f := .ki "NoRule" "ShutError" true) rfl),
  ki_ok (fx_at c2 294 (f := .ki "NoRule" "TooLong" false) rfl),
  ki_ok (fx_at c2 295 (f := .ki "NoTerm" "BadStep" false) rfl),
  ki_ok (fx_at c2 296 (f := .ki "NoTerm" "Clash" false) rfl),
  ki_ok (fx_at c2 297 (f := .ki "NoTerm" "HasHoles" false) rfl),
  ki_ok (fx_at c2 298 (f := .ki "NoTerm" "Missing" false) rfl),
  ki_ok (fx_at c2 299 (f := .ki "NoTerm" "NoAsk" false) rfl),
  ki_ok (fx_at c2 300 (f := .ki "NoTerm" "NoFacts" false) rfl),
  ki_ok (fx_at c2 301 (f := .ki "NoTerm" "NoFilling" false) rfl),
  ki_ok (fx_at c2 302 (f := .ki "NoTerm" "NoLine" false) rfl),
  ki_ok (fx_at c2 303 (f := .ki "NoTerm" "NoName" false) rfl),
  ki_ok (fx_at c2 304 (f := .ki "NoTerm" "NoPaper" false) rfl),
  ki_ok (fx_at c2 305 (f := .ki "NoTerm" "NoPlace" false) rfl),
  ki_ok (fx_at c2 306 (f := .ki "NoTerm" "NoRule" false) rfl),
  ki_ok (fx_at c2 307 (f := .ki "NoTerm" "NoTerm" true) rfl),
  ki_ok (fx_at c2 308 (f := .ki "NoTerm" "NoText" false) rfl),
  ki_ok (fx_at c2 309 (f := .ki "NoTerm" "NoTurn" false) rfl),
  ki_ok (fx_at c2 310 (f := .ki "NoTerm" "NoUndo" false) rfl),
  ki_ok (fx_at c2 311 (f := .ki "NoTerm" "NoWeighing" false) rfl),
  ki_ok (fx_at c2 312 (f := .ki "NoTerm" "NotApart" false) rfl),
  ki_ok (fx_at c2 313 (f := .ki "NoTerm" "NotClosed" false) rfl),
  ki_ok (fx_at c2 314 (f := .ki "NoTerm" "NotGood" false) rfl),
  ki_ok (fx_at c2 315 (f := .ki "NoTerm" "ShutError" true) rfl),
  ki_ok (fx_at c2 316 (f := .ki "NoTerm" "TooLong" false) rfl),
  ki_ok (fx_at c2 317 (f := .ki "NoText" "BadStep" false) rfl),
  ki_ok (fx_at c2 318 (f := .ki "NoText" "Clash" false) rfl),
  ki_ok (fx_at c2 319 (f := .ki "NoText" "HasHoles" false) rfl),
  ki_ok (fx_at c2 320 (f := .ki "NoText" "Missing" false) rfl),
  ki_ok (fx_at c2 321 (f := .ki "NoText" "NoAsk" false) rfl),
  ki_ok (fx_at c2 322 (f := .ki "NoText" "NoFacts" false) rfl),
  ki_ok (fx_at c2 323 (f := .ki "NoText" "NoFilling" false) rfl),
  ki_ok (fx_at c2 324 (f := .ki "NoText" "NoLine" false) rfl),
  ki_ok (fx_at c2 325 (f := .ki "NoText" "NoName" false) rfl),
  ki_ok (fx_at c2 326 (f := .ki "NoText" "NoPaper" false) rfl),
  ki_ok (fx_at c2 327 (f := .ki "NoText" "NoPlace" false) rfl),
  ki_ok (fx_at c2 328 (f := .ki "NoText" "NoRule" false) rfl),
  ki_ok (fx_at c2 329 (f := .ki "NoText" "NoTerm" false) rfl),
  ki_ok (fx_at c2 330 (f := .ki "NoText" "NoText" true) rfl),
  ki_ok (fx_at c2 331 (f := .ki "NoText" "NoTurn" false) rfl),
  ki_ok (fx_at c2 332 (f := .ki "NoText" "NoUndo" false) rfl),
  ki_ok (fx_at c2 333 (f := .ki "NoText" "NoWeighing" false) rfl),
  ki_ok (fx_at c2 334 (f := .ki "NoText" "NotApart" false) rfl),
  ki_ok (fx_at c2 335 (f := .ki "NoText" "NotClosed" false) rfl),
  ki_ok (fx_at c2 336 (f := .ki "NoText" "NotGood" false) rfl),
  ki_ok (fx_at c2 337 (f := .ki "NoText" "ShutError" true) rfl),
  ki_ok (fx_at c2 338 (f := .ki "NoText" "TooLong" false) rfl),
  ki_ok (fx_at c2 339 (f := .ki "NoTurn" "BadStep" false) rfl),
  ki_ok (fx_at c2 340 (f := .ki "NoTurn" "Clash" false) rfl),
  ki_ok (fx_at c2 341 (f := .ki "NoTurn" "HasHoles" false) rfl),
  ki_ok (fx_at c2 342 (f := .ki "NoTurn" "Missing" false) rfl),
  ki_ok (fx_at c2 343 (f := .ki "NoTurn" "NoAsk" false) rfl),
  ki_ok (fx_at c2 344 (f := .ki "NoTurn" "NoFacts" false) rfl),
  ki_ok (fx_at c2 345 (f := .ki "NoTurn" "NoFilling" false) rfl),
  ki_ok (fx_at c2 346 (f := .ki "NoTurn" "NoLine" false) rfl),
  ki_ok (fx_at c2 347 (f := .ki "NoTurn" "NoName" false) rfl),
  ki_ok (fx_at c2 348 (f := .ki "NoTurn" "NoPaper" false) rfl),
  ki_ok (fx_at c2 349 (f := .ki "NoTurn" "NoPlace" false) rfl),
  ki_ok (fx_at c2 350 (f := .ki "NoTurn" "NoRule" false) rfl),
  ki_ok (fx_at c2 351 (f := .ki "NoTurn" "NoTerm" false) rfl),
  ki_ok (fx_at c2 352 (f := .ki "NoTurn" "NoText" false) rfl),
  ki_ok (fx_at c2 353 (f := .ki "NoTurn" "NoTurn" true) rfl),
  ki_ok (fx_at c2 354 (f := .ki "NoTurn" "NoUndo" false) rfl),
  ki_ok (fx_at c2 355 (f := .ki "NoTurn" "NoWeighing" false) rfl),
  ki_ok (fx_at c2 356 (f := .ki "NoTurn" "NotApart" false) rfl),
  ki_ok (fx_at c2 357 (f := .ki "NoTurn" "NotClosed" false) rfl),
  ki_ok (fx_at c2 358 (f := .ki "NoTurn" "NotGood" false) rfl),
  ki_ok (fx_at c2 359 (f := .ki "NoTurn" "ShutError" true) rfl),
  ki_ok (fx_at c2 360 (f := .ki "NoTurn" "TooLong" false) rfl),
  ki_ok (fx_at c2 361 (f := .ki "NoUndo" "BadStep" false) rfl),
  ki_ok (fx_at c2 362 (f := .ki "NoUndo" "Clash" false) rfl),
  ki_ok (fx_at c2 363 (f := .ki "NoUndo" "HasHoles" false) rfl),
  ki_ok (fx_at c2 364 (f := .ki "NoUndo" "Missing" false) rfl),
  ki_ok (fx_at c2 365 (f := .ki "NoUndo" "NoAsk" false) rfl),
  ki_ok (fx_at c2 366 (f := .ki "NoUndo" "NoFacts" false) rfl),
  ki_ok (fx_at c2 367 (f := .ki "NoUndo" "NoFilling" false) rfl),
  ki_ok (fx_at c2 368 (f := .ki "NoUndo" "NoLine" false) rfl),
  ki_ok (fx_at c2 369 (f := .ki "NoUndo" "NoName" false) rfl),
  ki_ok (fx_at c2 370 (f := .ki "NoUndo" "NoPaper" false) rfl),
  ki_ok (fx_at c2 371 (f := .ki "NoUndo" "NoPlace" false) rfl),
  ki_ok (fx_at c2 372 (f := .ki "NoUndo" "NoRule" false) rfl),
  ki_ok (fx_at c2 373 (f := .ki "NoUndo" "NoTerm" false) rfl),
  ki_ok (fx_at c2 374 (f := .ki "NoUndo" "NoText" false) rfl),
  ki_ok (fx_at c2 375 (f := .ki "NoUndo" "NoTurn" false) rfl),
  ki_ok (fx_at c2 376 (f := .ki "NoUndo" "NoUndo" true) rfl),
  ki_ok (fx_at c2 377 (f := .ki "NoUndo" "NoWeighing" false) rfl),
  ki_ok (fx_at c2 378 (f := .ki "NoUndo" "NotApart" false) rfl),
  ki_ok (fx_at c2 379 (f := .ki "NoUndo" "NotClosed" false) rfl),
  ki_ok (fx_at c2 380 (f := .ki "NoUndo" "NotGood" false) rfl),
  ki_ok (fx_at c2 381 (f := .ki "NoUndo" "ShutError" true) rfl),
  ki_ok (fx_at c2 382 (f := .ki "NoUndo" "TooLong" false) rfl),
  ki_ok (fx_at c2 383 (f := .ki "NoWeighing" "BadStep" false) rfl),
  ki_ok (fx_at c2 384 (f := .ki "NoWeighing" "Clash" false) rfl),
  ki_ok (fx_at c2 385 (f := .ki "NoWeighing" "HasHoles" false) rfl),
  ki_ok (fx_at c2 386 (f := .ki "NoWeighing" "Missing" false) rfl),
  ki_ok (fx_at c2 387 (f := .ki "NoWeighing" "NoAsk" false) rfl),
  ki_ok (fx_at c2 388 (f := .ki "NoWeighing" "NoFacts" false) rfl),
  ki_ok (fx_at c2 389 (f := .ki "NoWeighing" "NoFilling" false) rfl),
  ki_ok (fx_at c2 390 (f := .ki "NoWeighing" "NoLine" false) rfl),
  ki_ok (fx_at c2 391 (f := .ki "NoWeighing" "NoName" false) rfl),
  ki_ok (fx_at c2 392 (f := .ki "NoWeighing" "NoPaper" false) rfl),
  ki_ok (fx_at c2 393 (f := .ki "NoWeighing" "NoPlace" false) rfl),
  ki_ok (fx_at c2 394 (f := .ki "NoWeighing" "NoRule" false) rfl),
  ki_ok (fx_at c2 395 (f := .ki "NoWeighing" "NoTerm" false) rfl),
  ki_ok (fx_at c2 396 (f := .ki "NoWeighing" "NoText" false) rfl),
  ki_ok (fx_at c2 397 (f := .ki "NoWeighing" "NoTurn" false) rfl),
  ki_ok (fx_at c2 398 (f := .ki "NoWeighing" "NoUndo" false) rfl),
  ki_ok (fx_at c2 399 (f := .ki "NoWeighing" "NoWeighing" true) rfl),
  ki_ok (fx_at c2 400 (f := .ki "NoWeighing" "NotApart" false) rfl),
  ki_ok (fx_at c2 401 (f := .ki "NoWeighing" "NotClosed" false) rfl),
  ki_ok (fx_at c2 402 (f := .ki "NoWeighing" "NotGood" false) rfl),
  ki_ok (fx_at c2 403 (f := .ki "NoWeighing" "ShutError" true) rfl),
  ki_ok (fx_at c2 404 (f := .ki "NoWeighing" "TooLong" false) rfl),
  ki_ok (fx_at c2 405 (f := .ki "NotApart" "BadStep" false) rfl),
  ki_ok (fx_at c2 406 (f := .ki "NotApart" "Clash" false) rfl),
  ki_ok (fx_at c2 407 (f := .ki "NotApart" "HasHoles" false) rfl),
  ki_ok (fx_at c2 408 (f := .ki "NotApart" "Missing" false) rfl),
  ki_ok (fx_at c2 409 (f := .ki "NotApart" "NoAsk" false) rfl),
  ki_ok (fx_at c2 410 (f := .ki "NotApart" "NoFacts" false) rfl),
  ki_ok (fx_at c2 411 (f := .ki "NotApart" "NoFilling" false) rfl),
  ki_ok (fx_at c2 412 (f := .ki "NotApart" "NoLine" false) rfl),
  ki_ok (fx_at c2 413 (f := .ki "NotApart" "NoName" false) rfl),
  ki_ok (fx_at c2 414 (f := .ki "NotApart" "NoPaper" false) rfl),
  ki_ok (fx_at c2 415 (f := .ki "NotApart" "NoPlace" false) rfl),
  ki_ok (fx_at c2 416 (f := .ki "NotApart" "NoRule" false) rfl),
  ki_ok (fx_at c2 417 (f := .ki "NotApart" "NoTerm" false) rfl),
  ki_ok (fx_at c2 418 (f := .ki "NotApart" "NoText" false) rfl),
  ki_ok (fx_at c2 419 (f := .ki "NotApart" "NoTurn" false) rfl),
  ki_ok (fx_at c2 420 (f := .ki "NotApart" "NoUndo" false) rfl),
  ki_ok (fx_at c2 421 (f := .ki "NotApart" "NoWeighing" false) rfl),
  ki_ok (fx_at c2 422 (f := .ki "NotApart" "NotApart" true) rfl),
  ki_ok (fx_at c2 423 (f := .ki "NotApart" "NotClosed" false) rfl),
  ki_ok (fx_at c2 424 (f := .ki "NotApart" "NotGood" false) rfl),
  ki_ok (fx_at c2 425 (f := .ki "NotApart" "ShutError" true) rfl),
  ki_ok (fx_at c2 426 (f := .ki "NotApart" "TooLong" false) rfl),
  ki_ok (fx_at c2 427 (f := .ki "NotClosed" "BadStep" false) rfl),
  ki_ok (fx_at c2 428 (f := .ki "NotClosed" "Clash" false) rfl),
  ki_ok (fx_at c2 429 (f := .ki "NotClosed" "HasHoles" false) rfl),
  ki_ok (fx_at c2 430 (f := .ki "NotClosed" "Missing" false) rfl),
  ki_ok (fx_at c2 431 (f := .ki "NotClosed" "NoAsk" false) rfl),
  ki_ok (fx_at c2 432 (f := .ki "NotClosed" "NoFacts" false) rfl),
  ki_ok (fx_at c2 433 (f := .ki "NotClosed" "NoFilling" false) rfl),
  ki_ok (fx_at c2 434 (f := .ki "NotClosed" "NoLine" false) rfl),
  ki_ok (fx_at c2 435 (f := .ki "NotClosed" "NoName" false) rfl),
  ki_ok (fx_at c2 436 (f := .ki "NotClosed" "NoPaper" false) rfl),
  ki_ok (fx_at c2 437 (f := .ki "NotClosed" "NoPlace" false) rfl),
  ki_ok (fx_at c2 438 (f := .ki "NotClosed" "NoRule" false) rfl),
  ki_ok (fx_at c2 439 (f := .ki "NotClosed" "NoTerm" false) rfl),
  ki_ok (fx_at c2 440 (f := .ki "NotClosed" "NoText" false) rfl),
  ki_ok (fx_at c2 441 (f := .ki "NotClosed" "NoTurn" false) rfl),
  ki_ok (fx_at c2 442 (f := .ki "NotClosed" "NoUndo" false) rfl),
  ki_ok (fx_at c2 443 (f := .ki "NotClosed" "NoWeighing" false) rfl),
  ki_ok (fx_at c2 444 (f := .ki "NotClosed" "NotApart" false) rfl),
  ki_ok (fx_at c2 445 (f := .ki "NotClosed" "NotClosed" true) rfl),
  ki_ok (fx_at c2 446 (f := .ki "NotClosed" "NotGood" false) rfl),
  ki_ok (fx_at c2 447 (f := .ki "NotClosed" "ShutError" true) rfl),
  ki_ok (fx_at c2 448 (f := .ki "NotClosed" "TooLong" false) rfl),
  ki_ok (fx_at c2 449 (f := .ki "NotGood" "BadStep" false) rfl),
  ki_ok (fx_at c2 450 (f := .ki "NotGood" "Clash" false) rfl),
  ki_ok (fx_at c2 451 (f := .ki "NotGood" "HasHoles" false) rfl),
  ki_ok (fx_at c2 452 (f := .ki "NotGood" "Missing" false) rfl),
  ki_ok (fx_at c2 453 (f := .ki "NotGood" "NoAsk" false) rfl),
  ki_ok (fx_at c2 454 (f := .ki "NotGood" "NoFacts" false) rfl),
  ki_ok (fx_at c2 455 (f := .ki "NotGood" "NoFilling" false) rfl),
  ki_ok (fx_at c2 456 (f := .ki "NotGood" "NoLine" false) rfl),
  ki_ok (fx_at c2 457 (f := .ki "NotGood" "NoName" false) rfl),
  ki_ok (fx_at c2 458 (f := .ki "NotGood" "NoPaper" false) rfl),
  ki_ok (fx_at c2 459 (f := .ki "NotGood" "NoPlace" false) rfl),
  ki_ok (fx_at c2 460 (f := .ki "NotGood" "NoRule" false) rfl),
  ki_ok (fx_at c2 461 (f := .ki "NotGood" "NoTerm" false) rfl),
  ki_ok (fx_at c2 462 (f := .ki "NotGood" "NoText" false) rfl),
  ki_ok (fx_at c2 463 (f := .ki "NotGood" "NoTurn" false) rfl),
  ki_ok (fx_at c2 464 (f := .ki "NotGood" "NoUndo" false) rfl),
  ki_ok (fx_at c2 465 (f := .ki "NotGood" "NoWeighing" false) rfl),
  ki_ok (fx_at c2 466 (f := .ki "NotGood" "NotApart" false) rfl),
  ki_ok (fx_at c2 467 (f := .ki "NotGood" "NotClosed" false) rfl),
  ki_ok (fx_at c2 468 (f := .ki "NotGood" "NotGood" true) rfl),
  ki_ok (fx_at c2 469 (f := .ki "NotGood" "ShutError" true) rfl),
  ki_ok (fx_at c2 470 (f := .ki "NotGood" "TooLong" false) rfl),
  ki_ok (fx_at c2 471 (f := .ki "ShutError" "BadStep" false) rfl),
  ki_ok (fx_at c2 472 (f := .ki "ShutError" "Clash" false) rfl),
  ki_ok (fx_at c2 473 (f := .ki "ShutError" "HasHoles" false) rfl),
  ki_ok (fx_at c2 474 (f := .ki "ShutError" "Missing" false) rfl),
  ki_ok (fx_at c2 475 (f := .ki "ShutError" "NoAsk" false) rfl),
  ki_ok (fx_at c2 476 (f := .ki "ShutError" "NoFacts" false) rfl),
  ki_ok (fx_at c2 477 (f := .ki "ShutError" "NoFilling" false) rfl),
  ki_ok (fx_at c2 478 (f := .ki "ShutError" "NoLine" false) rfl),
  ki_ok (fx_at c2 479 (f := .ki "ShutError" "NoName" false) rfl),
  ki_ok (fx_at c2 480 (f := .ki "ShutError" "NoPaper" false) rfl),
  ki_ok (fx_at c2 481 (f := .ki "ShutError" "NoPlace" false) rfl),
  ki_ok (fx_at c2 482 (f := .ki "ShutError" "NoRule" false) rfl),
  ki_ok (fx_at c2 483 (f := .ki "ShutError" "NoTerm" false) rfl),
  ki_ok (fx_at c2 484 (f := .ki "ShutError" "NoText" false) rfl),
  ki_ok (fx_at c2 485 (f := .ki "ShutError" "NoTurn" false) rfl),
  ki_ok (fx_at c2 486 (f := .ki "ShutError" "NoUndo" false) rfl),
  ki_ok (fx_at c2 487 (f := .ki "ShutError" "NoWeighing" false) rfl),
  ki_ok (fx_at c2 488 (f := .ki "ShutError" "NotApart" false) rfl),
  ki_ok (fx_at c2 489 (f := .ki "ShutError" "NotClosed" false) rfl),
  ki_ok (fx_at c2 490 (f := .ki "ShutError" "NotGood" false) rfl),
  ki_ok (fx_at c2 491 (f := .ki "ShutError" "ShutError" true) rfl),
  ki_ok (fx_at c2 492 (f := .ki "ShutError" "TooLong" false) rfl),
  ki_ok (fx_at c2 493 (f := .ki "TooLong" "BadStep" false) rfl),
  ki_ok (fx_at c2 494 (f := .ki "TooLong" "Clash" false) rfl),
  ki_ok (fx_at c2 495 (f := .ki "TooLong" "HasHoles" false) rfl),
  ki_ok (fx_at c2 496 (f := .ki "TooLong" "Missing" false) rfl),
  ki_ok (fx_at c2 497 (f := .ki "TooLong" "NoAsk" false) rfl),
  ki_ok (fx_at c2 498 (f := .ki "TooLong" "NoFacts" false) rfl),
  ki_ok (fx_at c2 499 (f := .ki "TooLong" "NoFilling" false) rfl),
  ki_ok (fx_at c2 500 (f := .ki "TooLong" "NoLine" false) rfl),
  ki_ok (fx_at c2 501 (f := .ki "TooLong" "NoName" false) rfl),
  ki_ok (fx_at c2 502 (f := .ki "TooLong" "NoPaper" false) rfl),
  ki_ok (fx_at c2 503 (f := .ki "TooLong" "NoPlace" false) rfl),
  ki_ok (fx_at c2 504 (f := .ki "TooLong" "NoRule" false) rfl),
  ki_ok (fx_at c2 505 (f := .ki "TooLong" "NoTerm" false) rfl),
  ki_ok (fx_at c2 506 (f := .ki "TooLong" "NoText" false) rfl),
  ki_ok (fx_at c2 507 (f := .ki "TooLong" "NoTurn" false) rfl),
  ki_ok (fx_at c2 508 (f := .ki "TooLong" "NoUndo" false) rfl),
  ki_ok (fx_at c2 509 (f := .ki "TooLong" "NoWeighing" false) rfl),
  ki_ok (fx_at c2 510 (f := .ki "TooLong" "NotApart" false) rfl),
  ki_ok (fx_at c2 511 (f := .ki "TooLong" "NotClosed" false) rfl),
  ki_ok (fx_at c2 512 (f := .ki "TooLong" "NotGood" false) rfl),
  ki_ok (fx_at c2 513 (f := .ki "TooLong" "ShutError" true) rfl),
  ki_ok (fx_at c2 514 (f := .ki "TooLong" "TooLong" true) rfl),
  kb_ok (fx_at c2 515 (f := .kb "BadStep" "ValueError" true) rfl),
  kb_ok (fx_at c2 516 (f := .kb "Clash" "ValueError" true) rfl),
  kb_ok (fx_at c2 517 (f := .kb "HasHoles" "ValueError" true) rfl),
  kb_ok (fx_at c2 518 (f := .kb "Missing" "KeyError" true) rfl),
  kb_ok (fx_at c2 519 (f := .kb "Missing" "ValueError" false) rfl),
  kb_ok (fx_at c2 520 (f := .kb "NoAsk" "ValueError" true) rfl),
  kb_ok (fx_at c2 521 (f := .kb "NoFacts" "ValueError" true) rfl),
  kb_ok (fx_at c2 522 (f := .kb "NoFilling" "ValueError" true) rfl),
  kb_ok (fx_at c2 523 (f := .kb "NoLine" "ValueError" true) rfl),
  kb_ok (fx_at c2 524 (f := .kb "NoName" "ValueError" true) rfl),
  kb_ok (fx_at c2 525 (f := .kb "NoPaper" "ValueError" true) rfl),
  kb_ok (fx_at c2 526 (f := .kb "NoPlace" "ValueError" true) rfl),
  kb_ok (fx_at c2 527 (f := .kb "NoRule" "ValueError" true) rfl),
  kb_ok (fx_at c2 528 (f := .kb "NoTerm" "ValueError" true) rfl),
  kb_ok (fx_at c2 529 (f := .kb "NoText" "ValueError" true) rfl),
  kb_ok (fx_at c2 530 (f := .kb "NoTurn" "ValueError" true) rfl),
  kb_ok (fx_at c2 531 (f := .kb "NoUndo" "ValueError" true) rfl),
  kb_ok (fx_at c2 532 (f := .kb "NoWeighing" "ValueError" true) rfl),
  kb_ok (fx_at c2 533 (f := .kb "NotApart" "ValueError" true) rfl),
  kb_ok (fx_at c2 534 (f := .kb "NotClosed" "ValueError" true) rfl),
  kb_ok (fx_at c2 535 (f := .kb "NotGood" "ValueError" true) rfl),
  kb_ok (fx_at c2 536 (f := .kb "ShutError" "ValueError" true) rfl),
  kb_ok (fx_at c2 537 (f := .kb "TooLong" "ValueError" true) rfl),
  kn_ok (fx_at c2 538 (f := .kn "BadStep") rfl),
  kn_ok (fx_at c2 539 (f := .kn "Clash") rfl),
  kn_ok (fx_at c2 540 (f := .kn "HasHoles") rfl),
  kn_ok (fx_at c2 541 (f := .kn "Missing") rfl),
  kn_ok (fx_at c2 542 (f := .kn "NoAsk") rfl),
  kn_ok (fx_at c2 543 (f := .kn "NoFacts") rfl),
  kn_ok (fx_at c2 544 (f := .kn "NoFilling") rfl),
  kn_ok (fx_at c2 545 (f := .kn "NoLine") rfl),
  kn_ok (fx_at c2 546 (f := .kn "NoName") rfl),
  kn_ok (fx_at c2 547 (f := .kn "NoPaper") rfl),
  kn_ok (fx_at c2 548 (f := .kn "NoPlace") rfl),
  kn_ok (fx_at c2 549 (f := .kn "NoRule") rfl),
  kn_ok (fx_at c2 550 (f := .kn "NoTerm") rfl),
  kn_ok (fx_at c2 551 (f := .kn "NoText") rfl),
  kn_ok (fx_at c2 552 (f := .kn "NoTurn") rfl),
  kn_ok (fx_at c2 553 (f := .kn "NoUndo") rfl),
  kn_ok (fx_at c2 554 (f := .kn "NoWeighing") rfl),
  kn_ok (fx_at c2 555 (f := .kn "NotApart") rfl),
  kn_ok (fx_at c2 556 (f := .kn "NotClosed") rfl),
  kn_ok (fx_at c2 557 (f := .kn "NotGood") rfl),
  kn_ok (fx_at c2 558 (f := .kn "ShutError") rfl),
  kn_ok (fx_at c2 559 (f := .kn "TooLong") rfl),
  He.fAd K ("BadStep", some "__init__"), e0, E0, xn_ok (fx_at c2 560 (f := .oex "BadStep") rfl) (c.fact 67 (f := .meth "BadStep" "__init__") rfl),
  He.fAd K ("Clash", some "__init__"), e1, E1, xn_ok (fx_at c2 561 (f := .oex "Clash") rfl) (c.fact 68 (f := .meth "Clash" "__init__") rfl),
  He.fAd K ("Missing", some "__init__"), e2, E2, xnk_ok (fx_at c2 562 (f := .oek "Missing") rfl) (c.fact 69 (f := .meth "Missing" "__init__") rfl),
  He.fAd K ("NoPlace", some "__init__"), e3, E3, xn_ok (fx_at c2 563 (f := .oex "NoPlace") rfl) (c.fact 70 (f := .meth "NoPlace" "__init__") rfl),
  He.fAd K ("NoText", some "__init__"), e4, E4, xn_ok (fx_at c2 564 (f := .oex "NoText") rfl) (c.fact 71 (f := .meth "NoText" "__init__") rfl),
  He.fAd K ("NotClosed", some "__init__"), e5, E5, xn_ok (fx_at c2 565 (f := .oex "NotClosed") rfl) (c.fact 72 (f := .meth "NotClosed" "__init__") rfl),
  He.fAd K ("NotGood", some "__init__"), e6, E6, xn_ok (fx_at c2 566 (f := .oex "NotGood") rfl) (c.fact 73 (f := .meth "NotGood" "__init__") rfl),
  He.fAd K ("TooLong", some "__init__"), e7, E7, xn_ok (fx_at c2 567 (f := .oex "TooLong") rfl) (c.fact 74 (f := .meth "TooLong" "__init__") rfl),
  He.fAd K ("_law_mixed", none), d0, F0, He.glo_ok X G (c.fact 0 (f := .glo "_law_mixed") rfl),
  He.fAd K ("_law_pile", none), d1, F1, He.glo_ok X G (c.fact 1 (f := .glo "_law_pile") rfl),
  He.fAd K ("_law_take", none), d2, F2, He.glo_ok X G (c.fact 2 (f := .glo "_law_take") rfl),
  He.fAd K ("_law_name", none), d3, F3, He.glo_ok X G (c.fact 3 (f := .glo "_law_name") rfl),
  He.fAd K ("_law_words", none), d4, F4, He.glo_ok X G (c.fact 4 (f := .glo "_law_words") rfl),
  He.fAd K ("_law_plain", none), d5, F5, He.glo_ok X G (c.fact 5 (f := .glo "_law_plain") rfl),
  He.fAd K ("_law_fields", none), d6, F6, He.glo_ok X G (c.fact 6 (f := .glo "_law_fields") rfl),
  He.fAd K ("_law_right", none), d7, F7, He.glo_ok X G (c.fact 7 (f := .glo "_law_right") rfl),
  He.fAd K ("_law_taken", none), d8, F8, He.glo_ok X G (c.fact 8 (f := .glo "_law_taken") rfl),
  He.fAd K ("law", none), d9, F9, He.glo_ok X G (c.fact 9 (f := .glo "law") rfl)⟩⟩
end K07
open PySem PySem.W PySem.Calls PyProof.Rows
theorem PySem.Challenge.cw_shutnames_k07_refusals_made_holds : PySem.Challenge.rw_shutnames_k07_refusals_made.Holds := by
 w_on; o_law
 refine HandSHeadRun.head_any (r := OpenLaw.row PySem.Challenge.rw_shutnames_k07_refusals_made) (q := view (OpenLaw.row PySem.Challenge.rw_shutnames_k07_refusals_made).prog [33]) (H := K07.hk) (ob := K07.ob) (M := 30000) (loose := K07.loL) (d := HandSHeadRun.topDef (OpenLaw.row PySem.Challenge.rw_shutnames_k07_refusals_made).prog 33) (kwd := []) K07.ob_eq
  (by kernel_rfl) (fun s => by kernel_rfl) K07.run (by kernel_rfl) (by kernel_rfl) (by kernel_rfl) (by rfl) (by first | assumption | decide +kernel) (by decide +kernel) ⟨rfl, rfl, rfl, rfl, rfl, by decide +kernel⟩ ?hw ?hc
 case hw => w_witness2
 case hc =>
  refine L2.walk_ofE (l := PySem.Challenge.rw_shutnames_k07_refusals_made) (n := 63) (k := 4) (x := "_law_script") (CX := fun _ _ _ _ _ _ => False) rfl (by decide) (by kernel_rfl) ⟨rfl, by decide, by decide⟩ ?F (fun _ _ _ _ z => z)
  intro w mg fa h Y G hmg0
  obtain ⟨K, KX, c, c2⟩ := Y
  have hmg : mg ("law" : PySem.Str) = some (.ref fa) := by
   have e : (HandSHeadRun.topDef (OpenLaw.row PySem.Challenge.rw_shutnames_k07_refusals_made).prog 33).name = ("law" : PySem.Str) := by kernel_rfl
   rw [← e]
   exact hmg0
  letI TW : DL.TheW := ⟨w⟩
  obtain ⟨W⟩ := K07.wd KX G c c2
  have ea := hmg.symm.trans W.m_law
  cases ea
  have b := L2.FunD.bindsA (ps := ["_law_script"]) W.F_law fun _ _ _ _ _ _ us hl => match us, hl with | [_], _ => rfl
  exact ⟨K, W.d_law, DL.spLaw K, KX, fun s v => b s [v] rfl, fun H a ns hl _ hS => ⟨a, ns, rfl, hl, hS, fun _ => rfl⟩, fun base _ _ => DL.ground (rg := false) (K07.ok_law W) (DL.law_in K07.law_true)⟩
end

