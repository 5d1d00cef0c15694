import PyProof.Rows.All
import Wide.All
import OpenK.AllK
import Wide.FinOn
import HandS.ForMost
import HandS.IsInst
import HandS.StrMore
import HandS.Wide
import HandS.TryOnly
import HandS.WordsExc
import HandS.Style
import HandS.More
import HandS.Evl
import KE.IntTextLaws
import HandS.Strs
import HandS.SetKeys
import KE.KIntText
import PyProof.StrBlock2
import HandS.SortRule
import HandS.DictComp
import HandS.WordsDict
import KE.SortData
import HandS.ExcIs
import HandS.ExcOwn
import HandS.HotCalls
import KE.GoesMore
import KE.GoesEnum
import KE.GoesZip
import HandS.Conv
import HandS.Text
import HandS.Codes
import HandS.TupAny
import HandS.Iter
import KE.KEqDict
import PyProof.NeKinds
import HandS.TryElse
import KE.GoesEnumKw
import HandS.ExcInit
import HandS.ExcField
import HandS.ClsMeth
import KE.KExcIs
import KE.DataCmp
import HandS.Defaults
import HandS.Flow
import KE.KRevSl
import HandS.ReplaceLit
import KE.KStateDown
import HandS.Head0
import HandS.Head1
import HandS.Head2
import HandS.HeadEnd
import HandS.HeadHook1
import HandS.HeadHook2
import HandS.EndBits
import KE.KEqNest
import HandS.Nested
import HandS.Lambda
import KE.SortKeyHeap
import HandS.HeadHook4
import HandS.EndTab
import HandS.SuiteRaise
import HandS.RaiseFrom
import HandS.RaiseOp
import HandS.ExcBuiltin
import HandS.Deep
import HandS.MakeKw
import HandS.ExcCtx
import PySem.Challenge.RW_cardshop_k56_mater
set_option Elab.async false
set_option linter.all false
set_option maxRecDepth 100000
set_option maxHeartbeats 4000000
namespace Cd
open PySem L2 PyProof.Rows

abbrev Fr := PySem.W.Frag
/-! ### the facts behind the top, by one look -/
abbrev FaB : Type := Fr → Bool
/-- what the module's names reach, step by step -/
def asB (g : Addr → Option Obj) : Nat → List Addr → List Addr
  | 0, as => as
  | n + 1, as => as ++ asB g n (as.flatMap fun a => match g a with
    | some o => He.refsO o
    | none => [])
def obsB (ok : List FaB) (fn : List He.DefD) (K : Fr) : He.AlD := ((ok.all fun f => f K) && fn.all fun d => d.ok K, fn.map fun d => He.fnW K d.at_)
def SaysB (ok : List FaB) (fn : List He.DefD) (K : Fr) : Prop := obsB ok fn K = He.valD fn
def obsBG (n : Nat) (ok : List FaB) (fn : List He.DefD) (g : Addr → Option Obj) : He.AlD := obsB ok fn (He.frG g (asB g n [mainGlobals] ++ [cStatics]))
def hookB (n : Nat) (ok : List FaB) (fn : List He.DefD) : PySem.W.Hook where
  α := He.AlD
  obs := fun s => obsBG n ok fn s.heap.get?
  val := fun _ => He.valD fn
  says := fun _ h => ∃ K : Fr, K.In h ∧ SaysB ok fn K
  of := fun _ _ e => ⟨_, He.frG_in, e⟩
  keeps := fun _ _ _ ⟨K, hK, c⟩ k => ⟨K, PySem.W.Frag.In.keeps hK k, c⟩
theorem obsBG_eq {n : Nat} {ok : List FaB} {fn : List He.DefD} {g : Addr → Option Obj} {s : Shared} (h : ∀ a, g a = s.heap.get? a) : obsBG n ok fn g = (hookB n ok fn).obs s := by
  have e : g = s.heap.get? := funext h
  rw [e] <;> rfl
end Cd
namespace L2
open PySem PySem.Spec PyProof.Rows PySem.HandSPX
def oexO (C : Addr) (o : Obj) : Bool := match (some o) with
  | some ⟨.type "type", _, .cls cd, sl⟩ => (match cd.mro, sl.toList with
    | .ref C' :: bm, [_, _, _, _, some (.builtin n), _] => C' == C && n == "ValueError.__new__" && !cd.hasDel && cd.hasDict && refsVE bm
    | _, _ => false)
  | _ => false
end L2
namespace Cd
open PySem L2 PyProof.Rows
def fcB (o : Option PySem.W.CFound) (v : Value) : Bool := match o with
  | some (.val u) => decide (u = v)
  | _ => false
def oexK (K : Fr) (A : Addr) : Bool := match K.lookup A with
  | some o => oexO A o
  | none => false
def topS (i : Nat) : Stmt := PySem.Challenge.pw_cardshop_k56_mater.main.body.getD i (.Pass ⟨0, 0, 0, 0⟩)
def facts0 : List FaB := [
  fun K => decide (PySem.W.findIn K (.ref (He.ga K "NoOrder")) "__init__" = some (some (.ref (He.fAd K ("NoOrder", some "__init__"))))),
  fun K => decide (PySem.W.typeIn K (.ref (He.fAd K ("NoOrder", some "__init__"))) = some (.type "function")),
  fun K => decide (PySem.W.nsIn K mainGlobals "rank_of" = some (some (.ref (He.fAd K ("rank_of", none))))),
  fun K => decide (PySem.W.nsIn K mainGlobals "columns_of" = some (some (.ref (He.fAd K ("columns_of", none))))),
  fun K => decide (PySem.W.nsIn K mainGlobals "part_of" = some (some (.ref (He.fAd K ("part_of", none))))),
  fun K => decide (PySem.W.nsIn K mainGlobals "comes_ahead" = some (some (.ref (He.fAd K ("comes_ahead", none))))),
  fun K => decide (PySem.W.nsIn K mainGlobals "out_at" = some (some (.ref (He.fAd K ("out_at", none))))),
  fun K => decide (PySem.W.nsIn K mainGlobals "gather" = some (some (.ref (He.fAd K ("gather", none))))),
  fun K => decide (PySem.W.nsIn K mainGlobals "put_back" = some (some (.ref (He.fAd K ("put_back", none))))),
  fun K => decide (PySem.W.nsIn K mainGlobals "mater_of" = some (some (.ref (He.fAd K ("mater_of", none))))),
  fun K => decide (PySem.W.nsIn K mainGlobals "machine_of" = some (some (.ref (He.fAd K ("machine_of", none))))),
  fun K => decide (PySem.W.nsIn K mainGlobals "_law_cell_at" = some (some (.ref (He.fAd K ("_law_cell_at", none))))),
  fun K => decide (PySem.W.nsIn K mainGlobals "_law_known" = some (some (.ref (He.fAd K ("_law_known", none))))),
  fun K => decide (PySem.W.nsIn K mainGlobals "_law_card" = some (some (.ref (He.fAd K ("_law_card", none))))),
  fun K => decide (PySem.W.nsIn K mainGlobals "_law_deck" = some (some (.ref (He.fAd K ("_law_deck", none))))),
  fun K => decide (PySem.W.nsIn K mainGlobals "_law_part" = some (some (.ref (He.fAd K ("_law_part", none))))),
  fun K => decide (PySem.W.nsIn K mainGlobals "_law_deck_is" = some (some (.ref (He.fAd K ("_law_deck_is", none))))),
  fun K => decide (PySem.W.nsIn K mainGlobals "_law_ordered" = some (some (.ref (He.fAd K ("_law_ordered", none))))),
  fun K => decide (PySem.W.nsIn K mainGlobals "_law_is_other" = some (some (.ref (He.fAd K ("_law_is_other", none))))),
  fun K => decide (PySem.W.nsIn K mainGlobals "_law_fields" = some (some (.ref (He.fAd K ("_law_fields", none))))),
  fun K => decide (PySem.W.nsIn K mainGlobals "_law_out" = some (some (.ref (He.fAd K ("_law_out", none))))),
  fun K => decide (PySem.W.nsIn K mainGlobals "_law_made" = some (some (.ref (He.fAd K ("_law_made", none))))),
  fun K => decide (PySem.W.nsIn K mainGlobals "_law_is_out" = some (some (.ref (He.fAd K ("_law_is_out", none))))),
  fun K => decide (PySem.W.nsIn K mainGlobals "_law_no_machine" = some (some (.ref (He.fAd K ("_law_no_machine", none))))),
  fun K => decide (PySem.W.nsIn K mainGlobals "_law_refuses" = some (some (.ref (He.fAd K ("_law_refuses", none))))),
  fun K => decide (PySem.W.nsIn K mainGlobals "_law_no_tray" = some (some (.ref (He.fAd K ("_law_no_tray", none))))),
  fun K => decide (PySem.W.nsIn K mainGlobals "_law_ended" = some (some (.ref (He.fAd K ("_law_ended", none))))),
  fun K => decide (PySem.W.nsIn K mainGlobals "law" = some (some (.ref (He.fAd K ("law", none))))),
  fun K => decide (PySem.W.findIn K (.ref (He.ga K "Mater")) "__init__" = some (some (.ref (He.fAd K ("Mater", some "__init__"))))),
  fun K => decide (PySem.W.isFn K (.ref (He.fAd K ("Mater", some "__init__"))) = true),
  fun K => decide (PySem.W.findIn K (.ref (He.ga K "Mater")) "stays" = some (some (.ref (He.fAd K ("Mater", some "stays"))))),
  fun K => decide (PySem.W.isFn K (.ref (He.fAd K ("Mater", some "stays"))) = true),
  fun K => decide (PySem.W.findIn K (.ref (He.ga K "Mater")) "pocket_for" = some (some (.ref (He.fAd K ("Mater", some "pocket_for"))))),
  fun K => decide (PySem.W.isFn K (.ref (He.fAd K ("Mater", some "pocket_for"))) = true),
  fun K => decide (PySem.W.findIn K (.ref (He.ga K "Mater")) "laid" = some (some (.ref (He.fAd K ("Mater", some "laid"))))),
  fun K => decide (PySem.W.isFn K (.ref (He.fAd K ("Mater", some "laid"))) = true),
  fun K => decide (PySem.W.findIn K (.ref (He.ga K "Mater")) "feed" = some (some (.ref (He.fAd K ("Mater", some "feed"))))),
  fun K => decide (PySem.W.isFn K (.ref (He.fAd K ("Mater", some "feed"))) = true),
  fun K => decide (PySem.W.findIn K (.ref (He.ga K "Mater")) "finish" = some (some (.ref (He.fAd K ("Mater", some "finish"))))),
  fun K => decide (PySem.W.isFn K (.ref (He.fAd K ("Mater", some "finish"))) = true)]
def facts1 : List FaB := [
  fun K => decide (PySem.W.findIn K (.ref (He.ga K "Mater")) "back" = some (some (.ref (He.fAd K ("Mater", some "back"))))),
  fun K => decide (PySem.W.isFn K (.ref (He.fAd K ("Mater", some "back"))) = true),
  fun K => decide (PySem.W.findIn K (.ref (He.ga K "Mater")) "stayed" = some (some (.ref (He.fAd K ("Mater", some "stayed"))))),
  fun K => decide (PySem.W.isFn K (.ref (He.fAd K ("Mater", some "stayed"))) = true),
  fun K => decide (PySem.W.findIn K (.ref (He.ga K "Mater")) "laid_aside" = some (some (.ref (He.fAd K ("Mater", some "laid_aside"))))),
  fun K => decide (PySem.W.isFn K (.ref (He.fAd K ("Mater", some "laid_aside"))) = true),
  fun K => decide (PySem.W.findIn K (.ref (He.ga K "Mater")) "lines_out" = some (some (.ref (He.fAd K ("Mater", some "lines_out"))))),
  fun K => decide (PySem.W.isFn K (.ref (He.fAd K ("Mater", some "lines_out"))) = true),
  fun K => fcB (PySem.W.findCls K (.ref (He.ga K "Rower")) (.type "type") "__init__") (.ref (He.fAd K ("Rower", some "__init__"))),
  fun K => fcB (PySem.W.findCls K (.ref (He.ga K "Machine")) (.type "type") "__init__") (.ref (He.fAd K ("Machine", some "__init__"))),
  fun K => decide (PySem.W.nsIn K mainGlobals "ValueError" = some none),
  fun K => decide (PySem.W.nsIn K mainGlobals "bool" = some none),
  fun K => decide (PySem.W.nsIn K mainGlobals "enumerate" = some none),
  fun K => decide (PySem.W.nsIn K mainGlobals "int" = some none),
  fun K => decide (PySem.W.nsIn K mainGlobals "isinstance" = some none),
  fun K => decide (PySem.W.nsIn K mainGlobals "len" = some none),
  fun K => decide (PySem.W.nsIn K mainGlobals "list" = some none),
  fun K => decide (PySem.W.nsIn K mainGlobals "max" = some none),
  fun K => decide (PySem.W.nsIn K mainGlobals "range" = some none),
  fun K => decide (PySem.W.nsIn K mainGlobals "str" = some none),
  fun K => decide (PySem.W.nsIn K mainGlobals "zip" = some none),
  fun K => (He.Fa.str "SIGNS" (" 0123456789ABCDEFGHIJKLMNOPQRSTUVWXYZ" : Str)).ok K,
  fun K => decide (PySem.W.nsIn K mainGlobals "Meet" = some (some (.ref (He.ga K "Meet")))),
  fun K => decide (PySem.W.nsIn K mainGlobals "NoAsking" = some (some (.ref (He.ga K "NoAsking")))),
  fun K => decide (PySem.W.nsIn K mainGlobals "NoBoard" = some (some (.ref (He.ga K "NoBoard")))),
  fun K => decide (PySem.W.nsIn K mainGlobals "NoCard" = some (some (.ref (He.ga K "NoCard")))),
  fun K => decide (PySem.W.nsIn K mainGlobals "NoField" = some (some (.ref (He.ga K "NoField")))),
  fun K => decide (PySem.W.nsIn K mainGlobals "NoOrder" = some (some (.ref (He.ga K "NoOrder")))),
  fun K => decide (PySem.W.nsIn K mainGlobals "NoPlan" = some (some (.ref (He.ga K "NoPlan")))),
  fun K => decide (PySem.W.nsIn K mainGlobals "NoRow" = some (some (.ref (He.ga K "NoRow")))),
  fun K => decide (PySem.W.nsIn K mainGlobals "NoTray" = some (some (.ref (He.ga K "NoTray")))),
  fun K => decide (PySem.W.nsIn K mainGlobals "ShopError" = some (some (.ref (He.ga K "ShopError")))),
  fun K => decide (PySem.W.readsIn K (He.ga K "ShopError") (.type "type") = true),
  fun K => decide (PySem.W.specialIn K (.ref (He.ga K "ShopError")) "__getattribute__" = some (some (.builtin "type.__getattribute__"))),
  fun K => decide (PySem.W.subIn K (.ref (He.ga K "ShopError")) (.type "BaseException") = some true),
  fun K => decide (PySem.W.typeIn K (.ref (He.ga K "ShopError")) = some (.type "type")),
  fun K => decide (PySem.W.hasDictIn K (He.ga K "ShopError") = true),
  fun K => decide (PySem.W.subIn K (.ref (He.ga K "NoOrder")) (.ref (He.ga K "ShopError")) = some true),
  fun K => decide (PySem.W.subIn K (.ref (He.ga K "NoTray")) (.type "BaseException") = some true),
  fun K => decide (PySem.W.typeIn K (.ref (He.ga K "NoTray")) = some (.type "type"))]
def facts2 : List FaB := [
  fun K => decide (PySem.W.hasDictIn K (He.ga K "NoTray") = true),
  fun K => decide (PySem.W.subIn K (.ref (He.ga K "NoTray")) (.ref (He.ga K "NoTray")) = some true),
  fun K => decide (PySem.W.excIn K (He.ga K "NoField") [.type "ValueError", .type "Exception", .type "BaseException", .type "object"] "ValueError.__new__" = true),
  fun K => decide (PySem.W.excIn K (He.ga K "NoTray") [.type "ValueError", .type "Exception", .type "BaseException", .type "object"] "ValueError.__new__" = true),
  fun K => decide (PySem.W.typeIn K (.ref (He.ga K "Meet")) = some (.type "type")),
  fun K => decide (PySem.W.hasDictIn K (He.ga K "Meet") = true),
  fun K => decide (PySem.W.subIn K (.ref (He.ga K "Meet")) (.ref (He.ga K "Meet")) = some true),
  fun K => decide (PySem.W.subIn K (.ref (He.ga K "NoField")) (.ref (He.ga K "Meet")) = some false),
  fun K => decide (PySem.W.typeIn K (.ref (He.ga K "NoAsking")) = some (.type "type")),
  fun K => decide (PySem.W.hasDictIn K (He.ga K "NoAsking") = true),
  fun K => decide (PySem.W.subIn K (.ref (He.ga K "NoAsking")) (.ref (He.ga K "NoAsking")) = some true),
  fun K => decide (PySem.W.subIn K (.ref (He.ga K "NoField")) (.ref (He.ga K "NoAsking")) = some false),
  fun K => decide (PySem.W.typeIn K (.ref (He.ga K "NoBoard")) = some (.type "type")),
  fun K => decide (PySem.W.hasDictIn K (He.ga K "NoBoard") = true),
  fun K => decide (PySem.W.subIn K (.ref (He.ga K "NoBoard")) (.ref (He.ga K "NoBoard")) = some true),
  fun K => decide (PySem.W.subIn K (.ref (He.ga K "NoField")) (.ref (He.ga K "NoBoard")) = some false),
  fun K => decide (PySem.W.typeIn K (.ref (He.ga K "NoCard")) = some (.type "type")),
  fun K => decide (PySem.W.hasDictIn K (He.ga K "NoCard") = true),
  fun K => decide (PySem.W.subIn K (.ref (He.ga K "NoCard")) (.ref (He.ga K "NoCard")) = some true),
  fun K => decide (PySem.W.subIn K (.ref (He.ga K "NoField")) (.ref (He.ga K "NoCard")) = some false),
  fun K => decide (PySem.W.typeIn K (.ref (He.ga K "NoField")) = some (.type "type")),
  fun K => decide (PySem.W.hasDictIn K (He.ga K "NoField") = true),
  fun K => decide (PySem.W.subIn K (.ref (He.ga K "NoField")) (.ref (He.ga K "NoField")) = some true),
  fun K => decide (PySem.W.typeIn K (.ref (He.ga K "NoOrder")) = some (.type "type")),
  fun K => decide (PySem.W.hasDictIn K (He.ga K "NoOrder") = true),
  fun K => decide (PySem.W.subIn K (.ref (He.ga K "NoOrder")) (.ref (He.ga K "NoOrder")) = some true),
  fun K => decide (PySem.W.subIn K (.ref (He.ga K "NoField")) (.ref (He.ga K "NoOrder")) = some false),
  fun K => decide (PySem.W.subIn K (.ref (He.ga K "NoOrder")) (.ref (He.ga K "Meet")) = some false),
  fun K => decide (PySem.W.subIn K (.ref (He.ga K "NoOrder")) (.ref (He.ga K "NoAsking")) = some false),
  fun K => decide (PySem.W.subIn K (.ref (He.ga K "NoOrder")) (.ref (He.ga K "NoBoard")) = some false),
  fun K => decide (PySem.W.subIn K (.ref (He.ga K "NoOrder")) (.ref (He.ga K "NoCard")) = some false),
  fun K => decide (PySem.W.subIn K (.ref (He.ga K "NoOrder")) (.ref (He.ga K "NoField")) = some false),
  fun K => decide (PySem.W.typeIn K (.ref (He.ga K "NoPlan")) = some (.type "type")),
  fun K => decide (PySem.W.hasDictIn K (He.ga K "NoPlan") = true),
  fun K => decide (PySem.W.subIn K (.ref (He.ga K "NoPlan")) (.ref (He.ga K "NoPlan")) = some true),
  fun K => decide (PySem.W.subIn K (.ref (He.ga K "NoOrder")) (.ref (He.ga K "NoPlan")) = some false),
  fun K => decide (PySem.W.typeIn K (.ref (He.ga K "NoRow")) = some (.type "type")),
  fun K => decide (PySem.W.hasDictIn K (He.ga K "NoRow") = true),
  fun K => decide (PySem.W.subIn K (.ref (He.ga K "NoRow")) (.ref (He.ga K "NoRow")) = some true),
  fun K => decide (PySem.W.subIn K (.ref (He.ga K "NoOrder")) (.ref (He.ga K "NoRow")) = some false)]
def facts3 : List FaB := [
  fun K => decide (PySem.W.subIn K (.ref (He.ga K "NoOrder")) (.ref (He.ga K "NoTray")) = some false),
  fun K => decide (PySem.W.subIn K (.ref (He.ga K "NoOrder")) (.type "ValueError") = some true),
  fun K => decide (PySem.W.subIn K (.ref (He.ga K "NoTray")) (.ref (He.ga K "Meet")) = some false),
  fun K => decide (PySem.W.subIn K (.ref (He.ga K "NoTray")) (.ref (He.ga K "NoAsking")) = some false),
  fun K => decide (PySem.W.subIn K (.ref (He.ga K "NoTray")) (.ref (He.ga K "NoBoard")) = some false),
  fun K => decide (PySem.W.subIn K (.ref (He.ga K "NoTray")) (.ref (He.ga K "NoCard")) = some false),
  fun K => decide (PySem.W.subIn K (.ref (He.ga K "NoTray")) (.ref (He.ga K "NoField")) = some false),
  fun K => decide (PySem.W.subIn K (.ref (He.ga K "NoTray")) (.ref (He.ga K "NoOrder")) = some false),
  fun K => decide (PySem.W.subIn K (.ref (He.ga K "NoTray")) (.ref (He.ga K "NoPlan")) = some false),
  fun K => decide (PySem.W.subIn K (.ref (He.ga K "NoTray")) (.ref (He.ga K "NoRow")) = some false),
  fun K => decide (PySem.W.keepIn K (.ref (He.ga K "NoField")) = true),
  fun K => decide (PySem.W.keepIn K (.ref (He.ga K "NoTray")) = true),
  fun K => oexK K (He.ga K "NoOrder"),
  fun K => decide (PySem.W.findIn K (.ref (He.ga K "NoOrder")) "__setattr__" = some (some (.builtin "object.__setattr__"))),
  fun K => decide (PySem.W.subIn K (.ref (He.ga K "NoOrder")) (.type "BaseException") = some true),
  fun K => decide (PySem.W.keepIn K (.ref (He.ga K "NoOrder")) = true),
  fun K => decide (PySem.W.subIn K (.ref (He.ga K "NoField")) (.type "BaseException") = some true),
  fun K => fcB (PySem.W.findCls K (.ref (He.ga K "ShopError")) (.type "type") "__init__") (.builtin "ValueError.__init__"),
  fun K => decide (PySem.W.findIn K (.ref (He.ga K "NoField")) "__getattribute__" = some (some (.builtin "BaseException.__getattribute__"))),
  fun K => decide (PySem.W.findIn K (.ref (He.ga K "NoField")) "__getattr__" = some none),
  fun K => decide (PySem.W.subIn K (.ref (He.ga K "NoField")) (.type "BaseException") = some true),
  fun K => decide (PySem.W.hasDictIn K (He.ga K "NoField") = true),
  fun K => decide (PySem.W.findIn K (.ref (He.ga K "NoField")) "__class__" = some (some (.builtin "object.__class__"))),
  fun K => decide (PySem.W.specialIn K (.builtin "object.__class__") "__get__" = some (some (.builtin "getset_descriptor.__get__"))),
  fun K => decide (PySem.W.takesIn K (.builtin "object.__class__") = some true),
  fun K => decide (PySem.W.mroIn K (He.ga K "NoField") (.type "object") = some true),
  fun K => decide (PySem.W.findIn K (.ref (He.ga K "NoOrder")) "__getattribute__" = some (some (.builtin "BaseException.__getattribute__"))),
  fun K => decide (PySem.W.findIn K (.ref (He.ga K "NoOrder")) "__getattr__" = some none),
  fun K => decide (PySem.W.subIn K (.ref (He.ga K "NoOrder")) (.type "BaseException") = some true),
  fun K => decide (PySem.W.hasDictIn K (He.ga K "NoOrder") = true),
  fun K => decide (PySem.W.findIn K (.ref (He.ga K "NoOrder")) "__class__" = some (some (.builtin "object.__class__"))),
  fun K => decide (PySem.W.specialIn K (.builtin "object.__class__") "__get__" = some (some (.builtin "getset_descriptor.__get__"))),
  fun K => decide (PySem.W.takesIn K (.builtin "object.__class__") = some true),
  fun K => decide (PySem.W.mroIn K (He.ga K "NoOrder") (.type "object") = some true),
  fun K => decide (PySem.W.findIn K (.ref (He.ga K "NoTray")) "__getattribute__" = some (some (.builtin "BaseException.__getattribute__"))),
  fun K => decide (PySem.W.findIn K (.ref (He.ga K "NoTray")) "__getattr__" = some none),
  fun K => decide (PySem.W.subIn K (.ref (He.ga K "NoTray")) (.type "BaseException") = some true),
  fun K => decide (PySem.W.hasDictIn K (He.ga K "NoTray") = true),
  fun K => decide (PySem.W.findIn K (.ref (He.ga K "NoTray")) "__class__" = some (some (.builtin "object.__class__"))),
  fun K => decide (PySem.W.specialIn K (.builtin "object.__class__") "__get__" = some (some (.builtin "getset_descriptor.__get__")))]
def facts4 : List FaB := [
  fun K => decide (PySem.W.takesIn K (.builtin "object.__class__") = some true),
  fun K => decide (PySem.W.mroIn K (He.ga K "NoTray") (.type "object") = some true),
  fun K => decide (PySem.W.findIn K (.ref (He.ga K "NoOrder")) "deck" = some none),
  fun K => decide (PySem.W.findIn K (.ref (He.ga K "NoOrder")) "place" = some none),
  fun K => decide (PySem.W.nsIn K mainGlobals "Mater" = some (some (.ref (He.ga K "Mater")))),
  fun K => decide (PySem.W.plainGet K (He.ga K "Mater") Str.empty = true),
  fun K => decide (PySem.W.hasDictIn K (He.ga K "Mater") = true),
  fun K => decide (PySem.W.plainOver K (He.ga K "Mater") = true),
  fun K => decide (PySem.W.findIn K (.ref (He.ga K "Mater")) "__setattr__" = some (some (.builtin "object.__setattr__"))),
  fun K => decide (PySem.W.makesIn K (He.ga K "Mater") = true),
  fun K => decide (PySem.W.keepIn K (.ref (He.ga K "Mater")) = true),
  fun K => decide (PySem.W.findIn K (.ref (He.ga K "Mater")) "pockets" = some none),
  fun K => decide (PySem.W.findIn K (.ref (He.ga K "Mater")) "log" = some none),
  fun K => decide (PySem.W.findIn K (.ref (He.ga K "Mater")) "field" = some none),
  fun K => decide (PySem.W.findIn K (.ref (He.ga K "Mater")) "fed_last" = some none),
  fun K => decide (PySem.W.findIn K (.ref (He.ga K "Mater")) "parts" = some none),
  fun K => decide (PySem.W.findIn K (.ref (He.ga K "Mater")) "word" = some none),
  fun K => decide (PySem.W.nsIn K mainGlobals "Rower" = some (some (.ref (He.ga K "Rower")))),
  fun K => decide (PySem.W.readsIn K (He.ga K "Rower") (.type "type") = true),
  fun K => decide (PySem.W.specialIn K (.ref (He.ga K "Rower")) "__getattribute__" = some (some (.builtin "type.__getattribute__"))),
  fun K => decide (PySem.W.nsIn K mainGlobals "Machine" = some (some (.ref (He.ga K "Machine")))),
  fun K => decide (PySem.W.readsIn K (He.ga K "Machine") (.type "type") = true),
  fun K => decide (PySem.W.specialIn K (.ref (He.ga K "Machine")) "__getattribute__" = some (some (.builtin "type.__getattribute__"))),
  fun K => decide (PySem.W.findIn K (.ref (He.ga K "Mater")) "__class__" = some (some (.builtin "object.__class__"))),
  fun K => decide (PySem.W.specialIn K (.builtin "object.__class__") "__get__" = some (some (.builtin "getset_descriptor.__get__"))),
  fun K => decide (PySem.W.takesIn K (.builtin "object.__class__") = some true),
  fun K => decide (PySem.W.mroIn K (He.ga K "Mater") (.type "object") = some true),
  fun K => decide (PySem.W.hasDictIn K (He.ga K "Machine") = true),
  fun K => decide (PySem.W.typeIn K (.ref (He.ga K "Machine")) = some (.type "type")),
  fun K => decide (PySem.W.subIn K (.ref (He.ga K "Machine")) (.ref (He.ga K "Machine")) = some true),
  fun K => decide (PySem.W.subIn K (.ref (He.ga K "Mater")) (.ref (He.ga K "Machine")) = some true)]
def fnds0 : List He.DefD := [
  { at_ := ("NoOrder", some "__init__"), name := "__init__", qual := "NoOrder.__init__", params := defArgs (inClass (topS 5) 0), body := defBody (inClass (topS 5) 0), scope := defScope (inClass (topS 5) 0), dfl := [] },
  { at_ := ("rank_of", none), name := "rank_of", qual := "rank_of", params := defArgs (topS 14), body := defBody (topS 14), scope := defScope (topS 14), dfl := [] },
  { at_ := ("columns_of", none), name := "columns_of", qual := "columns_of", params := defArgs (topS 20), body := defBody (topS 20), scope := defScope (topS 20), dfl := [] },
  { at_ := ("part_of", none), name := "part_of", qual := "part_of", params := defArgs (topS 21), body := defBody (topS 21), scope := defScope (topS 21), dfl := [] },
  { at_ := ("comes_ahead", none), name := "comes_ahead", qual := "comes_ahead", params := defArgs (topS 30), body := defBody (topS 30), scope := defScope (topS 30), dfl := [] },
  { at_ := ("out_at", none), name := "out_at", qual := "out_at", params := defArgs (topS 31), body := defBody (topS 31), scope := defScope (topS 31), dfl := [] },
  { at_ := ("gather", none), name := "gather", qual := "gather", params := defArgs (topS 35), body := defBody (topS 35), scope := defScope (topS 35), dfl := [] },
  { at_ := ("put_back", none), name := "put_back", qual := "put_back", params := defArgs (topS 36), body := defBody (topS 36), scope := defScope (topS 36), dfl := [] },
  { at_ := ("mater_of", none), name := "mater_of", qual := "mater_of", params := defArgs (topS 46), body := defBody (topS 46), scope := defScope (topS 46), dfl := [] },
  { at_ := ("machine_of", none), name := "machine_of", qual := "machine_of", params := defArgs (topS 47), body := defBody (topS 47), scope := defScope (topS 47), dfl := [] },
  { at_ := ("_law_cell_at", none), name := "_law_cell_at", qual := "_law_cell_at", params := defArgs (topS 49), body := defBody (topS 49), scope := defScope (topS 49), dfl := [] },
  { at_ := ("_law_known", none), name := "_law_known", qual := "_law_known", params := defArgs (topS 50), body := defBody (topS 50), scope := defScope (topS 50), dfl := [] },
  { at_ := ("_law_card", none), name := "_law_card", qual := "_law_card", params := defArgs (topS 51), body := defBody (topS 51), scope := defScope (topS 51), dfl := [] },
  { at_ := ("_law_deck", none), name := "_law_deck", qual := "_law_deck", params := defArgs (topS 52), body := defBody (topS 52), scope := defScope (topS 52), dfl := [] },
  { at_ := ("_law_part", none), name := "_law_part", qual := "_law_part", params := defArgs (topS 53), body := defBody (topS 53), scope := defScope (topS 53), dfl := [] },
  { at_ := ("_law_deck_is", none), name := "_law_deck_is", qual := "_law_deck_is", params := defArgs (topS 54), body := defBody (topS 54), scope := defScope (topS 54), dfl := [] },
  { at_ := ("_law_ordered", none), name := "_law_ordered", qual := "_law_ordered", params := defArgs (topS 55), body := defBody (topS 55), scope := defScope (topS 55), dfl := [] },
  { at_ := ("_law_is_other", none), name := "_law_is_other", qual := "_law_is_other", params := defArgs (topS 56), body := defBody (topS 56), scope := defScope (topS 56), dfl := [] },
  { at_ := ("_law_fields", none), name := "_law_fields", qual := "_law_fields", params := defArgs (topS 57), body := defBody (topS 57), scope := defScope (topS 57), dfl := [] },
  { at_ := ("_law_out", none), name := "_law_out", qual := "_law_out", params := defArgs (topS 58), body := defBody (topS 58), scope := defScope (topS 58), dfl := [] },
  { at_ := ("_law_made", none), name := "_law_made", qual := "_law_made", params := defArgs (topS 59), body := defBody (topS 59), scope := defScope (topS 59), dfl := [] },
  { at_ := ("_law_is_out", none), name := "_law_is_out", qual := "_law_is_out", params := defArgs (topS 60), body := defBody (topS 60), scope := defScope (topS 60), dfl := [] },
  { at_ := ("_law_no_machine", none), name := "_law_no_machine", qual := "_law_no_machine", params := defArgs (topS 61), body := defBody (topS 61), scope := defScope (topS 61), dfl := [] },
  { at_ := ("_law_refuses", none), name := "_law_refuses", qual := "_law_refuses", params := defArgs (topS 62), body := defBody (topS 62), scope := defScope (topS 62), dfl := [] },
  { at_ := ("_law_no_tray", none), name := "_law_no_tray", qual := "_law_no_tray", params := defArgs (topS 63), body := defBody (topS 63), scope := defScope (topS 63), dfl := [] },
  { at_ := ("_law_ended", none), name := "_law_ended", qual := "_law_ended", params := defArgs (topS 64), body := defBody (topS 64), scope := defScope (topS 64), dfl := [] },
  { at_ := ("law", none), name := "law", qual := "law", params := defArgs (topS 65), body := defBody (topS 65), scope := defScope (topS 65), dfl := [] },
  { at_ := ("Mater", some "__init__"), name := "__init__", qual := "Mater.__init__", params := defArgs (inClass (topS 42) 0), body := defBody (inClass (topS 42) 0), scope := defScope (inClass (topS 42) 0), dfl := [] },
  { at_ := ("Mater", some "stays"), name := "stays", qual := "Mater.stays", params := defArgs (inClass (topS 42) 1), body := defBody (inClass (topS 42) 1), scope := defScope (inClass (topS 42) 1), dfl := [] },
  { at_ := ("Mater", some "pocket_for"), name := "pocket_for", qual := "Rower.pocket_for", params := defArgs (inClass (topS 41) 2), body := defBody (inClass (topS 41) 2), scope := defScope (inClass (topS 41) 2), dfl := [] },
  { at_ := ("Mater", some "laid"), name := "laid", qual := "Machine.laid", params := defArgs (inClass (topS 38) 2), body := defBody (inClass (topS 38) 2), scope := defScope (inClass (topS 38) 2), dfl := [] },
  { at_ := ("Mater", some "feed"), name := "feed", qual := "Machine.feed", params := defArgs (inClass (topS 38) 3), body := defBody (inClass (topS 38) 3), scope := defScope (inClass (topS 38) 3), dfl := [] },
  { at_ := ("Mater", some "finish"), name := "finish", qual := "Machine.finish", params := defArgs (inClass (topS 38) 4), body := defBody (inClass (topS 38) 4), scope := defScope (inClass (topS 38) 4), dfl := [] },
  { at_ := ("Mater", some "back"), name := "back", qual := "Machine.back", params := defArgs (inClass (topS 38) 5), body := defBody (inClass (topS 38) 5), scope := defScope (inClass (topS 38) 5), dfl := [] },
  { at_ := ("Mater", some "stayed"), name := "stayed", qual := "Machine.stayed", params := defArgs (inClass (topS 38) 6), body := defBody (inClass (topS 38) 6), scope := defScope (inClass (topS 38) 6), dfl := [] },
  { at_ := ("Mater", some "laid_aside"), name := "laid_aside", qual := "Machine.laid_aside", params := defArgs (inClass (topS 38) 7), body := defBody (inClass (topS 38) 7), scope := defScope (inClass (topS 38) 7), dfl := [] },
  { at_ := ("Mater", some "lines_out"), name := "lines_out", qual := "Machine.lines_out", params := defArgs (inClass (topS 38) 8), body := defBody (inClass (topS 38) 8), scope := defScope (inClass (topS 38) 8), dfl := [] },
  { at_ := ("Rower", some "__init__"), name := "__init__", qual := "Rower.__init__", params := defArgs (inClass (topS 41) 0), body := defBody (inClass (topS 41) 0), scope := defScope (inClass (topS 41) 0), dfl := [] },
  { at_ := ("Machine", some "__init__"), name := "__init__", qual := "Machine.__init__", params := defArgs (inClass (topS 38) 0), body := defBody (inClass (topS 38) 0), scope := defScope (inClass (topS 38) 0), dfl := [.int 1] }]
def names0 : List PySem.Str := [
  "_wall",
  "ShopError",
  "NoCard",
  "NoField",
  "NoOrder",
  "NoBoard",
  "Meet",
  "NoAsking",
  "NoTray",
  "NoPlan",
  "NoRow",
  "SIGNS"]
def names1 : List PySem.Str := [
  "rank_of",
  "mark_of",
  "lay_out",
  "FIGURES",
  "columns_of",
  "part_of",
  "number_of",
  "punch_in",
  "power_of_ten",
  "Wheel",
  "Counter",
  "comes_ahead"]
def names2 : List PySem.Str := [
  "out_at",
  "work_card",
  "gather",
  "put_back",
  "Machine",
  "Dealer",
  "Picker",
  "Rower",
  "Mater",
  "Firster",
  "Puncher",
  "Printer"]
def names3 : List PySem.Str := [
  "mater_of",
  "machine_of",
  "_law_cell_at",
  "_law_known",
  "_law_card",
  "_law_deck",
  "_law_part",
  "_law_deck_is",
  "_law_ordered",
  "_law_is_other",
  "_law_fields",
  "_law_out"]
def names4 : List PySem.Str := [
  "_law_made",
  "_law_is_out",
  "_law_no_machine",
  "_law_refuses",
  "_law_no_tray",
  "_law_ended"]
def factsA : List FaB := facts0 ++ facts1 ++ facts2 ++ facts3 ++ facts4
def fndsA : List He.DefD := fnds0
def namesA : List PySem.Str := names0 ++ names1 ++ names2 ++ names3 ++ names4
abbrev RR : PySem.W.OpenRow := PySem.W.OpenLaw.row PySem.Challenge.rw_cardshop_k56_mater
abbrev hkA : PySem.W.Hook := hookB 5 factsA fndsA
def obA (s : PySem.W.SharedT) : He.AlD := obsBG 5 factsA fndsA (HandSHeadRun.getT s)
theorem obA_eq (s : PySem.W.SharedT) : obA s = hkA.obs s.abs := obsBG_eq (HandSHeadRun.getT_eq s)
theorem runA (w : World) : HandSHeadRun.RunEq RR (PySem.W.view RR.prog [65]) hkA obA 20000 namesA w := by
  intro os
  kernel_rfl
end Cd
set_option Elab.async false
set_option linter.all false
set_option maxRecDepth 100000
set_option maxHeartbeats 4000000
/-! ## The ground: data told by heaps, with a ghost heap of what stays -/
namespace PySem
theorem Paired.pImp {α β : Type} {F G : α → β → Prop} (f : ∀ a b, F a b → G a b) : ∀ {l : List α} {m : List β}, Paired F l m → Paired G l m
  | _, _, .nil => .nil
  | _, _, .cons r t => .cons (f _ _ r) (Paired.pImp f t)
theorem Paired.pLen {α β : Type} {F : α → β → Prop} : ∀ {l : List α} {m : List β}, Paired F l m → l.length = m.length
  | _, _, .nil => rfl
  | _, _, .cons _ t => congrArg (· + 1) (Paired.pLen t)
theorem Paired.pApp {α β : Type} {F : α → β → Prop} : ∀ {l : List α} {m : List β} {l' : List α} {m' : List β}, Paired F l m → Paired F l' m' → Paired F (l ++ l') (m ++ m')
  | _, _, _, _, .nil, h => h
  | _, _, _, _, .cons r t, h => .cons r (Paired.pApp t h)
theorem Paired.pDrop {α β : Type} {F : α → β → Prop} : ∀ {l : List α} {m : List β} (n : Nat), Paired F l m → Paired F (l.drop n) (m.drop n)
  | _, _, 0, h => h
  | _, _, _ + 1, .nil => .nil
  | _, _, n + 1, .cons _ t => Paired.pDrop n t
theorem Paired.pTake {α β : Type} {F : α → β → Prop} : ∀ {l : List α} {m : List β} (n : Nat), Paired F l m → Paired F (l.take n) (m.take n)
  | _, _, 0, _ => .nil
  | _, _, _ + 1, .nil => .nil
  | _, _, n + 1, .cons r t => .cons r (Paired.pTake n t)
theorem Paired.pAt {α β : Type} {F : α → β → Prop} : ∀ {l : List α} {m : List β} {i : Nat} {b : β}, Paired F l m → m[i]? = some b → ∃ a, l[i]? = some a ∧ F a b
  | _, _, _, _, .nil, h => by simp at h
  | _, _, 0, _, .cons r _, h => by simp at h; subst h; exact ⟨_, rfl, r⟩
  | _, _, i + 1, _, .cons _ t, h => by
    obtain ⟨a, h1, h2⟩ := Paired.pAt (i := i) t (by simpa using h)
    exact ⟨a, by simpa using h1, h2⟩
theorem Paired.pSet {α β : Type} {F : α → β → Prop} {a : α} {b : β} (r : F a b) : ∀ {l : List α} {m : List β} (i : Nat), Paired F l m → Paired F (l.set i a) (m.set i b)
  | _, _, _, .nil => .nil
  | _, _, 0, .cons _ t => .cons r t
  | _, _, i + 1, .cons q t => .cons q (Paired.pSet r i t)
end PySem
namespace Cd
open PySem L2
/-! ### what a value tells -/
class Py (α : Type) where
  R : Fr → Hp → V → α → Prop
  mono : ∀ {K : Fr} {Z Z' : Hp} {v : V} {a : α}, Same Z Z' → R K Z v a → R K Z' v a
/-- a value that needs no heap -/
class Sc (α : Type) where
  emb : α → V
instance : Sc Int := ⟨V.int⟩
instance : Sc Bool := ⟨V.bl⟩
instance : Sc Str := ⟨V.str⟩
instance : Sc Unit := ⟨fun _ => V.non⟩
instance (priority := low) {α : Type} [Sc α] : Py α := ⟨fun _ _ v a => v = Sc.emb a, fun _ h => h⟩
instance {α : Type} [Py α] : Py (Option α) where
  R K Z v o := match o with
    | none => v = .non
    | some a => Py.R K Z v a
  mono := fun {K Z Z' v a} s h => by
    cases a with
    | none => exact h
    | some a => exact Py.mono s h
instance {α : Type} [Py α] : Py (List α) where
  R K Z v l := ∃ a xs, v = .ref a ∧ Z a = some (.lst xs) ∧ Paired (Py.R K Z) xs l
  mono := fun {K Z Z' v l} s h => by
    obtain ⟨a, xs, e, hz, p⟩ := h
    exact ⟨a, xs, e, s _ _ hz, Paired.pImp (fun _ _ r => Py.mono s r) p⟩
instance {α β : Type} [Py α] [Py β] : Py (α × β) where
  R K Z v p := ∃ a x y, v = .ref a ∧ Z a = some (.tup [x, y]) ∧ Py.R K Z x p.1 ∧ Py.R K Z y p.2
  mono := fun {K Z Z' v l} s h => by
    obtain ⟨a, x, y, e, hz, p, q⟩ := h
    exact ⟨a, x, y, e, s _ _ hz, Py.mono s p, Py.mono s q⟩
/-- the script -/
structure Scr where
  ns : List Int
instance : Py Scr where
  R K Z v l := ∃ a, v = .ref a ∧ SqL K Z a (l.ns.map V.int)
  mono := fun {K Z Z' v l} s h => by
    obtain ⟨a, e, hz⟩ := h
    exact ⟨a, e, s.seq hz⟩
/-! ### a step of heap and ghost -/
structure Step (Z H Z' H' : Hp) : Prop where
  hh : Same H H'
  zz : Same Z Z'
  zh : Same Z' H'
  fr : ∀ a o, H a = some o → Z' a = Z a
section
variable {K : Fr} {Z H Z' H' Z2 H2 Z0 H0 : Hp}
theorem Step.refl (s : Same Z H) : Step Z H Z H := ⟨Same.refl _, Same.refl _, s, fun _ _ _ => rfl⟩
theorem Step.trans (a : Step Z H Z' H') (b : Step Z' H' Z2 H2) : Step Z H Z2 H2 :=
  ⟨a.hh.trans b.hh, a.zz.trans b.zz, b.zh, fun x o e => (b.fr x o (a.hh x o e)).trans (a.fr x o e)⟩
/-- a new object, told -/
theorem Step.new {p : Addr} {o : HO} (s : Same Z H) (hp : H p = none) : Step Z H (upd Z p o) (upd H p o) := by
  have hz : Z p = none := s.free hp
  refine ⟨fun b u e => ?_, fun b u e => ?_, fun b u e => ?_, fun b u e => ?_⟩
  · rw [upd_ne (ne_of_none e hp)]; exact e
  · rw [upd_ne (ne_of_none e hz)]; exact e
  · by_cases q : b = p
    · subst q; rw [upd_same] at e ⊢; exact e
    · rw [upd_ne q] at e ⊢; exact s b u e
  · rw [upd_ne (ne_of_none e hp)]
/-- a new object, kept for oneself -/
theorem Step.own {p : Addr} {o : HO} (s : Same Z H) (hp : H p = none) : Step Z H Z (upd H p o) := by
  refine ⟨fun b u e => ?_, Same.refl _, fun b u e => ?_, fun _ _ _ => rfl⟩
  · rw [upd_ne (ne_of_none e hp)]; exact e
  · have q := s b u e
    rw [upd_ne (ne_of_none q hp)]; exact q
/-- one's own object, told from now on -/
theorem Step.tell {p : Addr} {o : HO} (c : Step Z0 H0 Z H) (hp : H p = some o) (hz : Z p = none) (h0 : H0 p = none) : Step Z0 H0 (upd Z p o) H ∧ Same Z (upd Z p o) := by
  have s2 : Same Z (upd Z p o) := fun b u e => by rw [upd_ne (ne_of_none e hz)]; exact e
  refine ⟨⟨c.hh, c.zz.trans s2, fun b u e => ?_, fun b u e => ?_⟩, s2⟩
  · by_cases q : b = p
    · subst q; rw [upd_same] at e; rw [hp]; exact e
    · rw [upd_ne q] at e; exact c.zh b u e
  · rw [upd_ne (ne_of_none e h0)]; exact c.fr b u e
/-- one's own object is changed -/
theorem Step.mut {p : Addr} {o : HO} (c : Step Z0 H0 Z H) (hz : Z p = none) (h0 : H0 p = none) : Step Z0 H0 Z (upd H p o) := by
  refine ⟨fun b u e => ?_, c.zz, fun b u e => ?_, c.fr⟩
  · rw [upd_ne (ne_of_none e h0)]; exact c.hh b u e
  · rw [upd_ne (ne_of_none e hz)]; exact c.zh b u e
/-- a list of one's own: it stands in the heap, the ghost knows nothing of it -/
structure Own {α : Type} [Py α] (K : Fr) (H0 Z H : Hp) (l : Addr) (m : List α) : Prop where
  ex : ∃ xs, H l = some (.lst xs) ∧ Paired (Py.R K Z) xs m
  nz : Z l = none
  n0 : H0 l = none
theorem Own.step {α : Type} [Py α] {l : Addr} {m : List α} (o : Own K H0 Z H l m) (st : Step Z H Z' H') : Own K H0 Z' H' l m := by
  obtain ⟨⟨xs, h, p⟩, nz, n0⟩ := o
  exact ⟨⟨xs, st.hh _ _ h, Paired.pImp (fun _ _ r => Py.mono st.zz r) p⟩, (st.fr _ _ h).trans nz, n0⟩
theorem Own.far {α : Type} [Py α] {l q : Addr} {u : HO} {m : List α} (o : Own K H0 Z H l m) (ne : l ≠ q) : Own K H0 Z (upd H q u) l m := by
  obtain ⟨⟨xs, h, p⟩, nz, n0⟩ := o
  exact ⟨⟨xs, by rw [upd_ne ne]; exact h, p⟩, nz, n0⟩
theorem Own.tell {α : Type} [Py α] {l : Addr} {m : List α} (o : Own K H0 Z H l m) (c : Step Z0 H0 Z H) : ∃ Z', Step Z0 H0 Z' H ∧ Same Z Z' ∧ Py.R K Z' (.ref l) m ∧ ∀ q, q ≠ l → Z' q = Z q := by
  obtain ⟨⟨xs, h, p⟩, nz, n0⟩ := o
  obtain ⟨c', s⟩ := c.tell h nz n0
  exact ⟨_, c', s, ⟨l, xs, rfl, upd_same, Paired.pImp (fun _ _ r => Py.mono s r) p⟩, fun q hq => upd_ne hq⟩
theorem Own.zfar {α : Type} [Py α] {l : Addr} {m : List α} (o : Own K H0 Z H l m) (s : Same Z Z') (hz : Z' l = Z l) : Own K H0 Z' H l m := by
  obtain ⟨⟨xs, h, p⟩, nz, n0⟩ := o
  exact ⟨⟨xs, h, Paired.pImp (fun _ _ r => Py.mono s r) p⟩, hz.trans nz, n0⟩
theorem Own.at {α : Type} [Py α] {l : Addr} {m : List α} (o : Own K H0 Z H l m) : ∃ u, H l = some u := let ⟨⟨_, h, _⟩, _, _⟩ := o; ⟨_, h⟩
theorem Own.ne_new {α : Type} [Py α] {l p : Addr} {m : List α} (o : Own K H0 Z H l m) (h : H p = none) : l ≠ p := let ⟨_, h1⟩ := o.at; ne_of_none h1 h
/-- a new list comes: told at once, or kept -/
def New {α : Type} [Py α] (K : Fr) (Z H : Hp) (Q : VK) (m : List α) : Prop :=
  ∀ p xs Z' H', Step Z H Z' H' → H p = none → H' p = some (.lst xs) → Z' p = none → Paired (Py.R K Z') xs m → Q (.ref p) H'
/-- something comes -/
def Tel {α : Type} [Py α] (K : Fr) (Z H : Hp) (Q : VK) (m : α) : Prop :=
  ∀ v Z' H', Step Z H Z' H' → Py.R K Z' v m → Q v H'
theorem New.tel {α : Type} [Py α] {Q : VK} {m : List α} (k : Tel K Z H Q m) : New K Z H Q m := fun p xs Z' H' st hp hl hz pr => by
  obtain ⟨c', s⟩ := st.tell hl hz hp
  exact k _ _ _ c' ⟨p, xs, rfl, upd_same, Paired.pImp (fun _ _ r => Py.mono s r) pr⟩
theorem New.own {α : Type} [Py α] {Q : VK} {m : List α} (c : Step Z0 H0 Z H) (k : ∀ p Z' H', Step Z H Z' H' → H p = none → Own K H0 Z' H' p m → Q (.ref p) H') : New K Z H Q m := fun p xs Z' H' st hp hl hz pr =>
  k p Z' H' st hp ⟨⟨xs, hl, pr⟩, hz, c.hh.free hp⟩
/-- a list laid anew -/
theorem New.lay {α : Type} [Py α] {Q : VK} {m : List α} {xs : List V} (s : Same Z H) (pr : Paired (Py.R K Z) xs m) (k : New K Z H Q m) : ∀ p, H p = none → Q (.ref p) (upd H p (.lst xs)) := fun p hp =>
  k p xs Z _ (Step.own s hp) hp upd_same (s.free hp) pr
end
/-! ### lists of plain values -/
theorem paired_of {α : Type} [Sc α] {K : Fr} {Z : Hp} : ∀ (m : List α), Paired (Py.R K Z) (m.map Sc.emb) m
  | [] => .nil
  | _ :: r => .cons rfl (paired_of r)
end Cd

set_option Elab.async false
set_option linter.all false
set_option maxRecDepth 100000
set_option maxHeartbeats 4000000
namespace Cd
open PySem L2
/-! ### items and pieces -/
def inR (n : Nat) (i : Int) : Prop := -(n : Int) ≤ i ∧ i < n
theorem ixN_some {n : Nat} {i : Int} (h : inR n i) : ∃ j, ixN n i = some j ∧ j < n := by
  obtain ⟨h1, h2⟩ := h
  unfold ixN
  by_cases h0 : 0 ≤ i
  · rw [if_pos h0, if_pos h2]
    exact ⟨_, rfl, by omega⟩
  · rw [if_neg h0, if_pos h1]
    exact ⟨_, rfl, by omega⟩
def getI {α : Type} [Inhabited α] (l : List α) (i : Int) : α := (atI l i).getD default
theorem atI_get {α : Type} [Inhabited α] {l : List α} {i : Int} (h : inR l.length i) : atI l i = some (getI l i) := by
  obtain ⟨j, hj, hl⟩ := ixN_some h
  have e : atI l i = some l[j] := by
    unfold atI
    rw [hj]
    exact List.getElem?_eq_getElem hl
  unfold getI
  rw [e]
  rfl
/-- the sign at a place -/
def chS (z : Str) (i : Int) : Str := ⟨#[(atI z.cps.toList i).getD 0]⟩
def cutL {α : Type} (xs : List α) (lo hi : Option Int) : List α := (xs.drop (HT.sIx xs.length 0 lo)).take (HT.sIx xs.length xs.length hi - HT.sIx xs.length 0 lo)
end Cd
namespace PySem
open L2 Cd
theorem Paired.pCut {α : Type} {F : V → α → Prop} {xs : List V} {m : List α} (p : Paired F xs m) (lo hi : Option Int) : Paired F (cutV xs lo hi) (cutL m lo hi) := by
  unfold cutV cutL
  rw [p.pLen]
  exact (p.pDrop _).pTake _
end PySem
namespace Cd
open PySem L2
theorem atI_paired {α : Type} {F : V → α → Prop} {xs : List V} {m : List α} {i : Int} {a : α} (p : Paired F xs m) (h : atI m i = some a) : ∃ x, atI xs i = some x ∧ F x a := by
  unfold atI at h ⊢
  rw [p.pLen]
  cases e : ixN m.length i with
  | none => rw [e] at h; cases h
  | some j =>
    rw [e] at h
    exact p.pAt h
section
variable {K : Fr} {Z H Z0 H0 : Hp} {Q : VK}
theorem pyL {α : Type} [Py α] {v : V} {l : List α} (h : Py.R K Z v l) : ∃ a xs, v = .ref a ∧ Z a = some (.lst xs) ∧ Paired (Py.R K Z) xs l := h
/-! ### what the operations ask, over data -/
theorem k_eqI {i j : Int} (k : Q (.bl (decide (i = j))) H) : rEq (.int i) (.int j) H Q := by
  refine ⟨rfl, ?_⟩
  have e : decide ((V.int i) = V.int j) = decide (i = j) := decide_eq_decide.mpr ⟨V.int.inj, fun h => by rw [h]⟩
  rw [e]; exact k
theorem k_neI {i j : Int} (k : Q (.bl (!decide (i = j))) H) : rNe (.int i) (.int j) H Q := by
  refine ⟨rfl, ?_⟩
  have e : decide ((V.int i) = V.int j) = decide (i = j) := decide_eq_decide.mpr ⟨V.int.inj, fun h => by rw [h]⟩
  rw [e]; exact k
theorem k_eqS {i j : Str} (k : Q (.bl (decide (i = j))) H) : rEq (.str i) (.str j) H Q := by
  refine ⟨rfl, ?_⟩
  have e : decide ((V.str i) = V.str j) = decide (i = j) := decide_eq_decide.mpr ⟨V.str.inj, fun h => by rw [h]⟩
  rw [e]; exact k
theorem k_neS {i j : Str} (k : Q (.bl (!decide (i = j))) H) : rNe (.str i) (.str j) H Q := by
  refine ⟨rfl, ?_⟩
  have e : decide ((V.str i) = V.str j) = decide (i = j) := decide_eq_decide.mpr ⟨V.str.inj, fun h => by rw [h]⟩
  rw [e]; exact k
theorem k_eqB {i j : Bool} (k : Q (.bl (decide (i = j))) H) : rEq (.bl i) (.bl j) H Q := by
  refine ⟨rfl, ?_⟩
  have e : decide ((V.bl i) = V.bl j) = decide (i = j) := decide_eq_decide.mpr ⟨V.bl.inj, fun h => by rw [h]⟩
  rw [e]; exact k
theorem k_neB {i j : Bool} (k : Q (.bl (!decide (i = j))) H) : rNe (.bl i) (.bl j) H Q := by
  refine ⟨rfl, ?_⟩
  have e : decide ((V.bl i) = V.bl j) = decide (i = j) := decide_eq_decide.mpr ⟨V.bl.inj, fun h => by rw [h]⟩
  rw [e]; exact k
theorem k_ixS {z : Str} {i : Int} (hs : z.length ≤ sizeLine) (hi : inR z.length i) (k : Q (.str (chS z i)) H) : rIxS (.str z) (.int i) H Q := by
  have e : z.length = z.cps.toList.length := by unfold Str.length; simp
  have h : atI z.cps.toList i = some (getI z.cps.toList i) := atI_get (by rw [← e]; exact hi)
  refine ⟨z, i, getI z.cps.toList i, rfl, rfl, hs, h, ?_⟩
  have e2 : chS z i = ⟨#[getI z.cps.toList i]⟩ := by unfold chS; rw [h]; rfl
  rw [← e2]; exact k
theorem k_ixL {α : Type} [Py α] [Inhabited α] {v : V} {l : List α} {i : Int} (zh : Same Z H) (h : Py.R K Z v l) (hi : inR l.length i) (k : ∀ y, Py.R K Z y (getI l i) → Q y H) : rIxL K v (.int i) H Q := by
  obtain ⟨a, xs, rfl, hz, p⟩ := h
  obtain ⟨x, hx, hf⟩ := atI_paired p (atI_get hi)
  exact ⟨a, xs, i, x, rfl, rfl, SqL.of (zh _ _ hz), hx, k x hf⟩
theorem k_ixLs {α : Type} [Sc α] [Inhabited α] {v : V} {l : List α} {i : Int} (zh : Same Z H) (h : Py.R K Z v l) (hi : inR l.length i) (k : Q (Sc.emb (getI l i)) H) : rIxL K v (.int i) H Q :=
  k_ixL zh h hi fun y hy => by
    obtain rfl := (show y = Sc.emb (getI l i) from hy)
    exact k
theorem k_ixO {α : Type} [Py α] [Inhabited α] {p : Addr} {l : List α} {i : Int} (o : Own K H0 Z H p l) (hi : inR l.length i) (k : ∀ y, Py.R K Z y (getI l i) → Q y H) : rIxL K (.ref p) (.int i) H Q := by
  obtain ⟨⟨xs, hz, pr⟩, _, _⟩ := o
  obtain ⟨x, hx, hf⟩ := atI_paired pr (atI_get hi)
  exact ⟨p, xs, i, x, rfl, rfl, SqL.of hz, hx, k x hf⟩
theorem k_ixOs {α : Type} [Sc α] [Inhabited α] {p : Addr} {l : List α} {i : Int} (o : Own K H0 Z H p l) (hi : inR l.length i) (k : Q (Sc.emb (getI l i)) H) : rIxL K (.ref p) (.int i) H Q :=
  k_ixO o hi fun y hy => by
    obtain rfl := (show y = Sc.emb (getI l i) from hy)
    exact k
/-- an item of the script -/
theorem k_ixR {v : V} {l : Scr} {i : Int} (zh : Same Z H) (h : Py.R K Z v l) (hi : inR l.ns.length i) (k : Q (.int (getI l.ns i)) H) : rIxL K v (.int i) H Q := by
  obtain ⟨a, rfl, hz⟩ := h
  refine ⟨a, l.ns.map V.int, i, .int (getI l.ns i), rfl, rfl, zh.seq hz, ?_, k⟩
  have h1 := atI_get hi
  unfold atI at h1 ⊢
  rw [List.length_map]
  cases e : ixN l.ns.length i with
  | none => rw [e] at h1; cases h1
  | some j =>
    rw [e] at h1
    show (l.ns.map V.int)[j]? = _
    have h2 : l.ns[j]? = some (getI l.ns i) := h1
    rw [List.getElem?_map, h2]
    rfl
/-- the first and the second of a pair -/
theorem k_fst {α β : Type} [Py α] [Py β] {v : V} {p : α × β} (zh : Same Z H) (h : Py.R K Z v p) (k : ∀ y, Py.R K Z y p.1 → Q y H) : rIxT K v (.int 0) H Q := by
  obtain ⟨a, x, y, rfl, hz, hx, hy⟩ := h
  exact ⟨a, [x, y], 0, x, rfl, rfl, SqT.of (zh _ _ hz), rfl, k x hx⟩
theorem k_snd {α β : Type} [Py α] [Py β] {v : V} {p : α × β} (zh : Same Z H) (h : Py.R K Z v p) (k : ∀ y, Py.R K Z y p.2 → Q y H) : rIxT K v (.int 1) H Q := by
  obtain ⟨a, x, y, rfl, hz, hx, hy⟩ := h
  exact ⟨a, [x, y], 1, y, rfl, rfl, SqT.of (zh _ _ hz), rfl, k y hy⟩
theorem k_fstS {α β : Type} [Sc α] [Py β] {v : V} {p : α × β} (zh : Same Z H) (h : Py.R K Z v p) (k : Q (Sc.emb p.1) H) : rIxT K v (.int 0) H Q :=
  k_fst zh h fun y hy => by obtain rfl := (show y = Sc.emb p.1 from hy); exact k
theorem k_sndS {α β : Type} [Py α] [Sc β] {v : V} {p : α × β} (zh : Same Z H) (h : Py.R K Z v p) (k : Q (Sc.emb p.2) H) : rIxT K v (.int 1) H Q :=
  k_snd zh h fun y hy => by obtain rfl := (show y = Sc.emb p.2 from hy); exact k
theorem k_len {α : Type} [Py α] {v : V} {l : List α} (zh : Same Z H) (h : Py.R K Z v l) (k : Q (.int (l.length : Int)) H) : ∃ p ys, [v] = [V.ref p] ∧ (SqL K H p ys ∨ SqT K H p ys) ∧ Q (.int ys.length) H := by
  obtain ⟨a, xs, rfl, hz, p⟩ := h
  exact ⟨a, xs, rfl, .inl (SqL.of (zh _ _ hz)), by rw [p.pLen]; exact k⟩
theorem k_lenO {α : Type} [Py α] {p : Addr} {l : List α} (o : Own K H0 Z H p l) (k : Q (.int (l.length : Int)) H) : ∃ q ys, [V.ref p] = [V.ref q] ∧ (SqL K H q ys ∨ SqT K H q ys) ∧ Q (.int ys.length) H := by
  obtain ⟨⟨xs, hz, pr⟩, _, _⟩ := o
  exact ⟨p, xs, rfl, .inl (SqL.of hz), by rw [pr.pLen]; exact k⟩
theorem k_lenR {v : V} {l : Scr} (zh : Same Z H) (h : Py.R K Z v l) (k : Q (.int (l.ns.length : Int)) H) : ∃ p ys, [v] = [V.ref p] ∧ (SqL K H p ys ∨ SqT K H p ys) ∧ Q (.int ys.length) H := by
  obtain ⟨a, rfl, hz⟩ := h
  exact ⟨a, _, rfl, .inl (zh.seq hz), by rw [List.length_map]; exact k⟩
/-- a new pair -/
theorem k_pair {α β : Type} [Py α] [Py β] {x y : V} {a : α} {b : β} (zh : Same Z H) (hx : Py.R K Z x a) (hy : Py.R K Z y b) (k : Tel K Z H Q (a, b)) : ([x, y] : List V).length ≤ sizeLine ∧ ∀ p, H p = none → Q (.ref p) (upd H p (.tup [x, y])) := by
  refine ⟨by show 2 ≤ sizeLine; decide, fun p hp => ?_⟩
  have st := Step.new (o := .tup [x, y]) zh hp
  exact k _ _ _ st ⟨p, x, y, rfl, upd_same, Py.mono st.zz hx, Py.mono st.zz hy⟩
/-- a new list of written items -/
theorem k_list {α : Type} [Py α] {xs : List V} {m : List α} (zh : Same Z H) (pr : Paired (Py.R K Z) xs m) (hs : xs.length ≤ sizeLine) (k : New K Z H Q m) : xs.length ≤ sizeLine ∧ ∀ p, H p = none → Q (.ref p) (upd H p (.lst xs)) :=
  ⟨hs, New.lay zh pr k⟩
theorem k_slL {α : Type} [Py α] {v : V} {l : List α} {lo hi : Option Int} (zh : Same Z H) (h : Py.R K Z v l) (k : New K Z H Q (cutL l lo hi)) : rSlL K v lo hi H Q := by
  obtain ⟨a, xs, rfl, hz, p⟩ := h
  exact ⟨a, xs, rfl, SqL.of (zh _ _ hz), New.lay zh (p.pCut lo hi) k⟩
theorem cutV_map (f : Int → V) (ns : List Int) (lo hi : Option Int) : cutV (ns.map f) lo hi = (cutL ns lo hi).map f := by
  unfold cutV cutL
  rw [List.length_map, List.map_take, List.map_drop]
theorem k_slR {v : V} {l : Scr} {lo hi : Option Int} (zh : Same Z H) (h : Py.R K Z v l) (k : New K Z H Q (cutL l.ns lo hi)) : rSlL K v lo hi H Q := by
  obtain ⟨a, rfl, hz⟩ := h
  refine ⟨a, _, rfl, zh.seq hz, ?_⟩
  rw [cutV_map]
  exact New.lay zh (paired_of (α := Int) _) k
/-- list(..) -/
theorem k_listL {α : Type} [Py α] {v : V} {l : List α} (zh : Same Z H) (h : Py.R K Z v l) (k : New K Z H Q l) : ∃ p ys, [v] = [V.ref p] ∧ (SqL K H p ys ∨ SqT K H p ys) ∧ ∀ q, H q = none → Q (.ref q) (upd H q (.lst ys)) := by
  obtain ⟨a, xs, rfl, hz, p⟩ := h
  exact ⟨a, xs, rfl, .inl (SqL.of (zh _ _ hz)), New.lay zh p k⟩
/-- l.append(x) -/
theorem k_append {α : Type} [Py α] {q : Addr} {v : V} {l : List α} {a : α} (o : Own K H0 Z H q l) (h : Py.R K Z v a) (hs : l.length < sizeLine) (k : ∀ u, Own K H0 Z (upd H q u) q (l ++ [a]) → Q .non (upd H q u)) : rAppend (.ref q) [v] H Q := by
  obtain ⟨⟨xs, hz, pr⟩, nz, n0⟩ := o
  exact ⟨q, xs, v, rfl, rfl, hz, by rw [pr.pLen]; exact hs, k _ ⟨⟨_, upd_same, pr.pApp (.cons h .nil)⟩, nz, n0⟩⟩
theorem k_extend {α : Type} [Py α] {q : Addr} {v : V} {l m : List α} (zh : Same Z H) (o : Own K H0 Z H q l) (h : Py.R K Z v m) (hs : l.length + m.length ≤ sizeLine) (k : ∀ u, Own K H0 Z (upd H q u) q (l ++ m) → Q .non (upd H q u)) : rExtend (.ref q) [v] H Q := by
  obtain ⟨⟨xs, hz, pr⟩, nz, n0⟩ := o
  obtain ⟨b, ys, rfl, hb, p2⟩ := h
  exact ⟨q, b, xs, ys, rfl, rfl, hz, zh _ _ hb, by rw [pr.pLen, p2.pLen]; exact hs, k _ ⟨⟨_, upd_same, pr.pApp p2⟩, nz, n0⟩⟩
theorem k_clear {α : Type} [Py α] {q : Addr} {l : List α} (o : Own K H0 Z H q l) (k : ∀ u, Own K H0 Z (upd H q u) q ([] : List α) → Q .non (upd H q u)) : rClear (.ref q) [] H Q := by
  obtain ⟨⟨xs, hz, pr⟩, nz, n0⟩ := o
  exact ⟨q, xs, rfl, rfl, hz, k _ ⟨⟨_, upd_same, .nil⟩, nz, n0⟩⟩
/-- l[i] = x -/
def setI {α : Type} (l : List α) (i : Int) (a : α) : List α := match ixN l.length i with | some j => l.set j a | none => l
theorem k_setL {α : Type} [Py α] {q : Addr} {v : V} {l : List α} {i : Int} {a : α} {R : Hp → Prop} (o : Own K H0 Z H q l) (h : Py.R K Z v a) (hi : inR l.length i) (k : ∀ u, Own K H0 Z (upd H q u) q (setI l i a) → R (upd H q u)) : rSetL (.ref q) (.int i) v H R := by
  obtain ⟨⟨xs, hz, pr⟩, nz, n0⟩ := o
  obtain ⟨j, hj, hl⟩ := ixN_some hi
  refine ⟨q, xs, i, j, rfl, rfl, hz, by rw [pr.pLen]; exact hj, k _ ⟨⟨_, upd_same, ?_⟩, nz, n0⟩⟩
  unfold setI
  rw [hj]
  exact pr.pSet h j
theorem tyO {α : Type} [Py α] {q : Addr} {l : List α} (o : Own K H0 Z H q l) : tyV K "list" (.ref q) H := let ⟨⟨xs, hz, _⟩, _, _⟩ := o; .inl ⟨rfl, xs, SqL.of hz⟩
theorem tyL {α : Type} [Py α] {v : V} {l : List α} (zh : Same Z H) (h : Py.R K Z v l) : tyV K "list" v H := by
  obtain ⟨a, xs, rfl, hz, p⟩ := h
  exact .inl ⟨rfl, xs, SqL.of (zh _ _ hz)⟩
end
/-! ### tests and values with an open wish -/
theorem ansOr {t u : TT} {σ : St} {H : Hp} {b1 b2 : Bool} {Q : Bool → Hp → Prop} (h1 : ∀ Q' : Bool → Hp → Prop, Q' b1 H → t σ H Q') (h2 : b1 = false → ∀ Q' : Bool → Hp → Prop, Q' b2 H → u σ H Q') (k : Q (b1 || b2) H) : tOr t u σ H Q := by
  refine h1 _ ?_
  cases b1 with
  | true => exact iteT k
  | false => exact iteF (h2 rfl _ k)
theorem valOr {ta tb : TE} {σ : St} {H : Hp} {b1 b2 : Bool} {Q : VK} (h1 : ∀ Q' : VK, Q' (.bl b1) H → ta σ H Q') (h2 : b1 = false → ∀ Q' : VK, Q' (.bl b2) H → tb σ H Q') (k : Q (.bl (b1 || b2)) H) : tOrV ta tb σ H Q := by
  refine h1 _ ⟨b1, rfl, ?_⟩
  cases b1 with
  | true => exact iteT k
  | false => exact iteF (h2 rfl _ k)
/-! ### names -/
theorem storeI {i : Nat} {a : Int} {σ : St} {H : Hp} {Q : St → Hp → Prop} (k : ∀ x, x = a → Q (σ.set i (some (.int x))) H) : gName i (.int a) σ H Q := k a rfl
theorem storeS {i : Nat} {a : Str} {σ : St} {H : Hp} {Q : St → Hp → Prop} (k : ∀ x, x = a → Q (σ.set i (some (.str x))) H) : gName i (.str a) σ H Q := k a rfl
theorem storeB {i : Nat} {a : Bool} {σ : St} {H : Hp} {Q : St → Hp → Prop} (k : ∀ x, x = a → Q (σ.set i (some (.bl x))) H) : gName i (.bl a) σ H Q := k a rfl
end Cd

set_option Elab.async false
set_option linter.all false
set_option maxRecDepth 100000
set_option maxHeartbeats 4000000
namespace Cd
open PySem L2
/-! ### loops: what is walked, as a list -/
/-- J walks L while the ghost's Z stands; Y tells what a turn hands out -/
structure Src {γ : Type} (J : It) (Z : Hp) (L : List γ) (Y : γ → V → Hp → Hp → Prop) : Prop where
  go : ∀ i a H, L[i]? = some a → Same Z H → J.go i H
  yld : ∀ i a H x H', L[i]? = some a → Same Z H → J.yld i H x H' → Y a x H H'
  stop : ∀ H, Same Z H → J.stop L.length H
def forRest (J : It) (g : TG) (tb : TS) (D : Ends) (σ : St) (H : Hp) : Prop := ∃ W : Nat → Nat → St → Hp → Prop, (∃ m, W 0 m σ H) ∧ ∀ i m σ H, W i m σ H →
  (J.stop i H ∧ D.nx σ H) ∨ (J.go i H ∧ ∃ N : St → Hp → Prop, (∀ σ' H', N σ' H' → ∃ m', m' < m ∧ W (i + 1) m' σ' H') ∧ ∀ x H', J.yld i H x H' → g x σ H' fun σ2 H2 => tb { D with nx := N, ct := N, bk := D.nx } σ2 H2)
section
variable {γ : Type} {J : It} {g : TG} {tb : TS} {D : Ends} {σ : St} {H Z : Hp} {L : List γ} {Y : γ → V → Hp → Hp → Prop}
theorem forK (src : Src J Z L Y) (Pv : List γ → St → Hp → Hp → Prop) (keep : ∀ r σ H' Z', Pv r σ H' Z' → Same Z Z' ∧ Same Z' H') (h0 : ∃ Z', Pv L σ H Z')
    (turn : ∀ a r x σ H' H2 Z', a ∈ L → (∃ d, L = d ++ a :: r) → Pv (a :: r) σ H' Z' → Y a x H' H2 → g x σ H2 fun σ2 H3 => tb { D with nx := fun σ' H' => ∃ Z2, Pv r σ' H' Z2, ct := fun σ' H' => ∃ Z2, Pv r σ' H' Z2, bk := D.nx } σ2 H3)
    (done : ∀ σ H' Z', Pv [] σ H' Z' → D.nx σ H') : forRest J g tb D σ H := by
  refine ⟨fun i m σ H' => i ≤ L.length ∧ m = L.length - i ∧ ∃ Z', Pv (L.drop i) σ H' Z', ⟨L.length, Nat.zero_le _, by omega, h0⟩, ?_⟩
  rintro i m σ H' ⟨hi, rfl, Z', hp⟩
  obtain ⟨k1, k2⟩ := keep _ _ _ _ hp
  have zs : Same Z H' := k1.trans k2
  by_cases hlt : i < L.length
  · have e : L.drop i = L[i] :: L.drop (i + 1) := List.drop_eq_getElem_cons hlt
    have ea : L[i]? = some L[i] := List.getElem?_eq_getElem hlt
    rw [e] at hp
    refine .inr ⟨src.go i _ H' ea zs, fun σ' H' => ∃ Z2, Pv (L.drop (i + 1)) σ' H' Z2, fun σ' H2 q => ⟨L.length - (i + 1), by omega, hlt, rfl, q⟩, fun x H2 y => ?_⟩
    exact turn _ _ x σ H' H2 Z' (List.getElem_mem hlt) ⟨L.take i, by rw [← e, List.take_append_drop]⟩ hp (src.yld i _ H' x H2 ea zs y)
  · have e : i = L.length := by omega
    subst e
    rw [List.drop_length] at hp
    exact .inl ⟨src.stop H' zs, done σ H' Z' hp⟩
end
section
variable {K : Fr} {Z H : Hp}
/-- a list's items -/
theorem src_list {α : Type} [Py α] {a : Addr} {xs : List V} {l : List α} (hz : Z a = some (.lst xs)) (p : Paired (Py.R K Z) xs l) : Src (Itl K a) Z l (fun b x H H' => H' = H ∧ Py.R K Z x b) := by
  refine ⟨fun i b H' e s => ?_, fun i b H' x H2 e s y => ?_, fun H' s => ?_⟩
  · obtain ⟨x, h1, h2⟩ := p.pAt e
    exact ⟨xs, x, SqL.of (s _ _ hz), h1⟩
  · obtain ⟨rfl, y⟩ := y
    obtain ⟨x', h1, h2⟩ := p.pAt e
    have h3 := y xs (SqL.of (s _ _ hz))
    rw [h1] at h3
    cases h3
    exact ⟨rfl, h2⟩
  · exact ⟨xs, SqL.of (s _ _ hz), by rw [p.pLen]; exact Nat.le_refl _⟩
/-- lo, lo + 1, .. -/
def rangeL (lo : Int) (n : Nat) : List Int := (List.range n).map fun (i : Nat) => lo + (i : Int)
theorem rangeL_len (lo : Int) (n : Nat) : (rangeL lo n).length = n := by unfold rangeL; rw [List.length_map, List.length_range]
theorem rangeL_at {lo : Int} {n i : Nat} {a : Int} (h : (rangeL lo n)[i]? = some a) : i < n ∧ a = lo + (i : Int) := by
  unfold rangeL at h
  rw [List.getElem?_map] at h
  by_cases hi : i < n
  · rw [List.getElem?_range hi] at h
    cases h
    exact ⟨hi, rfl⟩
  · rw [List.getElem?_eq_none (by rw [List.length_range]; omega)] at h
    cases h
theorem src_range (lo : Int) (n : Nat) : Src (Itr lo n) Z (rangeL lo n) (fun b x H H' => H' = H ∧ x = V.int b) := by
  refine ⟨fun i b H' e s => (rangeL_at e).1, fun i b H' x H2 e s y => ?_, fun H' s => ?_⟩
  · obtain ⟨rfl, rfl⟩ := y
    rw [(rangeL_at e).2]
    exact ⟨rfl, rfl⟩
  · rw [rangeL_len]
    exact Nat.le_refl n
/-- range with a step -/
def rangeC (lo c : Int) (n : Nat) : List Int := (List.range n).map fun (i : Nat) => lo + (i : Int) * c
/-- a text's signs -/
def chars (z : Str) : List Str := z.cps.toList.map fun c => ⟨#[c]⟩
/-- pairs: a turn lays a new tuple -/
def YP {α β : Type} (RA : V → α → Prop) (RB : V → β → Prop) : (α × β) → V → Hp → Hp → Prop := fun p x H H' => ∃ T u v, x = V.ref T ∧ H T = none ∧ H' = upd H T (.tup [u, v]) ∧ RA u p.1 ∧ RB v p.2
def enumL {α : Type} (k : Int) (l : List α) : List (Int × α) := (rangeL k l.length).zip l
theorem src_enum {α : Type} [Py α] {a : Addr} {xs : List V} {l : List α} (hz : Z a = some (.lst xs)) (p : Paired (Py.R K Z) xs l) : Src (Ite K a) Z (enumL 0 l) (YP (fun u (i : Int) => u = V.int i) (Py.R K Z)) := by
  have hl : (enumL 0 l).length = l.length := by unfold enumL; rw [List.length_zip, rangeL_len]; omega
  have hat : ∀ (i : Nat) (q : Int × α), (enumL 0 l)[i]? = some q → q.1 = (i : Int) ∧ l[i]? = some q.2 := fun i q h => by
    unfold enumL at h
    rw [List.getElem?_zip_eq_some] at h
    obtain ⟨h1, h2⟩ := h
    have h3 := (rangeL_at h1).2
    exact ⟨by rw [h3]; omega, h2⟩
  refine ⟨fun i b H' e s => ?_, fun i b H' x H2 e s y => ?_, fun H' s => ?_⟩
  · obtain ⟨x, h1, h2⟩ := p.pAt (hat _ _ e).2
    exact ⟨xs, x, SqL.of (s _ _ hz), h1⟩
  · obtain ⟨T, u, rfl, hT, rfl, hu⟩ := y
    obtain ⟨e1, e2⟩ := hat _ _ e
    obtain ⟨x', h1, h2⟩ := p.pAt e2
    have h3 := hu xs (SqL.of (s _ _ hz))
    rw [h1] at h3
    cases h3
    exact ⟨T, _, _, rfl, hT, rfl, by rw [e1], h2⟩
  · exact ⟨xs, SqL.of (s _ _ hz), by rw [hl, p.pLen]; exact Nat.le_refl _⟩
theorem src_zip {α β : Type} [Py α] [Py β] {a b : Addr} {xs ys : List V} {l : List α} {m : List β} (hz : Z a = some (.lst xs)) (p : Paired (Py.R K Z) xs l) (hz2 : Z b = some (.lst ys)) (p2 : Paired (Py.R K Z) ys m) :
    Src (Itz K a b) Z (l.zip m) (YP (Py.R K Z) (Py.R K Z)) := by
  have hat : ∀ (i : Nat) (q : α × β), (l.zip m)[i]? = some q → l[i]? = some q.1 ∧ m[i]? = some q.2 := fun i q h => List.getElem?_zip_eq_some.mp h
  refine ⟨fun i q H' e s => ?_, fun i q H' x H2 e s y => ?_, fun H' s => ?_⟩
  · obtain ⟨x, h1, h2⟩ := p.pAt (hat _ _ e).1
    obtain ⟨y, h3, h4⟩ := p2.pAt (hat _ _ e).2
    exact ⟨xs, ys, x, y, SqL.of (s _ _ hz), SqL.of (s _ _ hz2), h1, h3⟩
  · obtain ⟨T, u, v, rfl, hT, rfl, hu, hv⟩ := y
    obtain ⟨x', h1, h2⟩ := p.pAt (hat _ _ e).1
    obtain ⟨y', h3, h4⟩ := p2.pAt (hat _ _ e).2
    have h5 := hu xs (SqL.of (s _ _ hz))
    have h6 := hv ys (SqL.of (s _ _ hz2))
    rw [h1] at h5
    rw [h3] at h6
    cases h5
    cases h6
    exact ⟨T, _, _, rfl, hT, rfl, h2, h4⟩
  · refine ⟨xs, ys, SqL.of (s _ _ hz), SqL.of (s _ _ hz2), ?_⟩
    rw [List.length_zip, p.pLen, p2.pLen]
    omega
/-! ### one turn's target -/
theorem tgt1 {i : Nat} {x : V} {σ : St} {H : Hp} {Q : St → Hp → Prop} (k : Q (σ.set i (some x)) H) : gName i x σ H Q := k
theorem tgt2 {α β : Type} {RA : V → α → Prop} {RB : V → β → Prop} {p : α × β} {i j : Nat} {x : V} {σ : St} {H H' Z : Hp} {Q : St → Hp → Prop} (zh : Same Z H) (y : YP RA RB p x H H') (k : ∀ u v, RA u p.1 → RB v p.2 → Step Z H Z H' → Q ((σ.set i (some u)).set j (some v)) H') :
    gTup K 2 (gCons (gName i) (gCons (gName j) gNil)) x σ H' Q := by
  obtain ⟨T, u, v, rfl, hT, rfl, h1, h2⟩ := y
  exact ⟨T, [u, v], rfl, SqT.of upd_same, rfl, u, [v], rfl, v, [], rfl, rfl, k u v h1 h2 (Step.own zh hT)⟩
end
/-! ### the mirrors' loops -/
inductive LR (S R : Type) where
  | nxt (s : S) | brk (s : S) | ret (r : R)
def LR.bind {S R : Type} (x : LR S R) (k : S → R) : R := match x with
  | .nxt s => k s
  | .brk s => k s
  | .ret r => r
def loopR {α S R : Type} (f : S → α → LR S R) : S → List α → LR S R
  | s, [] => .nxt s
  | s, x :: r => match f s x with
    | .nxt s' => loopR f s' r
    | .brk s' => .brk s'
    | .ret v => .ret v
def loopS {α S : Type} (f : S → α → S) : S → List α → S
  | s, [] => s
  | s, x :: r => loopS f (f s x) r
/-! ### comprehensions -/
section
variable {γ β : Type} [Py β] {K : Fr} {J : It} {g : TG} {tt : TT} {te : TE} {σ : St} {H Z : Hp} {L : List γ} {Y : γ → V → Hp → Hp → Prop} {vs : List Nat} {Q : VK}
end
/-! ### a def of the text, as it is called -/
structure Cal (P : Program) (w : World) (K : Fr) (mg : Str → Option Value) (base : Heap) (CX : CXT) (x : Str) (k : Nat) (ps : List Str) (sp : Sp) : Prop where
  ex : ∃ f fd, FnOk P w K mg base CX k f fd ps sp ∧ mg x = some (.ref f) ∧ PySem.W.keepIn K (.ref f) = true ∧ Binds K fd ps []
section
variable {X : Cx} {CX : CXT} {x : Str} {k : Nat} {ps : List Str} {sp : Sp} {E : XK} {t : TA} {e : Expr} {es : List Expr} {p pos : Pos}
theorem pe_cal (c : Cal X.prog X.w X.K X.mg X.base CX x k ps sp) (hr : Room k X.A) (hx : Passes CX X E) (ha : PA X (e :: es) t) (hg : Gl X x := by rfl) (hdb : (x == ("__debug__" : Str)) = false := by decide)
    (he : starEach (e :: es) X.env = (false, eval e X.env) :: starEach es X.env := by rfl) (hpl : (backTo pos (starEach es X.env)).any (·.1) = false := by rfl) : PE X (.Call (.Name x p) (e :: es) [] pos) (tCall sp [] E t) := by
  obtain ⟨f, fd, F, hm, hk, hb⟩ := c.ex
  exact pe_call F hr hg hm hk hb .nil hx ha hdb he hpl
theorem pe_cal0 (c : Cal X.prog X.w X.K X.mg X.base CX x k ps sp) (hr : Room k X.A) (hx : Passes CX X E) (hg : Gl X x := by rfl) (hdb : (x == ("__debug__" : Str)) = false := by decide) :
    PE X (.Call (.Name x p) [] [] pos) (tCall sp [] E tNil) := by
  obtain ⟨f, fd, F, hm, hk, hb⟩ := c.ex
  exact pe_call0 F hr hg hm hk hb .nil hx hdb
end
end Cd

set_option Elab.async false
set_option linter.all false
set_option maxRecDepth 100000
set_option maxHeartbeats 4000000
namespace Cd
open PySem L2
section
variable {K : Fr} {Z H Z0 H0 Z' H' : Hp} {Q : VK}
/-! ### wishes handed on -/
theorem Tel.sc {α : Type} [Sc α] {m : α} (k : ∀ Z' H', Step Z H Z' H' → Q (Sc.emb m) H') : Tel K Z H Q m := fun v Z' H' st h => by
  obtain rfl := (show v = Sc.emb m from h)
  exact k Z' H' st
theorem Tel.gen {α : Type} [Py α] {m : α} (k : ∀ n, n = m → Tel K Z H Q n) : Tel K Z H Q m := k m rfl
theorem New.gen {α : Type} [Py α] {m : List α} (k : ∀ n, n = m → New K Z H Q n) : New K Z H Q m := k m rfl
theorem New.after {α : Type} [Py α] {m : List α} (c : Step Z0 H0 Z H) (k : New K Z0 H0 Q m) : New K Z H Q m := fun p xs Z' H' st hp hl hz pr => k p xs Z' H' (c.trans st) (c.hh.free hp) hl hz pr
theorem Own.ret {α : Type} [Py α] {p : Addr} {m : List α} (o : Own K H0 Z H p m) (c : Step Z0 H0 Z H) (k : New K Z0 H0 Q m) : Q (.ref p) H := by
  obtain ⟨⟨xs, hl, pr⟩, nz, n0⟩ := o
  exact k p xs Z H c n0 hl nz pr
theorem tgtP {α β : Type} [Py α] [Py β] {v : V} {p : α × β} {i j : Nat} {σ : St} {R : St → Hp → Prop} (zh : Same Z H) (h : Py.R K Z v p) (k : ∀ a, a = p.1 → ∀ b, b = p.2 → ∀ x y, Py.R K Z x a → Py.R K Z y b → R ((σ.set i (some x)).set j (some y)) H) :
    gTup K 2 (gCons (gName i) (gCons (gName j) gNil)) v σ H R := by
  obtain ⟨a, x, y, rfl, hz, hx, hy⟩ := h
  exact ⟨a, [x, y], rfl, SqT.of (zh _ _ hz), rfl, x, [y], rfl, y, [], rfl, rfl, k _ rfl _ rfl x y hx hy⟩
/-- readings that begin with a pair, so that what follows is seen at once -/
def tK (v : V) : TE := fun _ H Q => True ∧ Q v H
theorem pcK {X : Cx} {e : Expr} {v : V} (h : PE X e (tC v)) : PE X e (tK v) := ⟨fun pins s σ H Q I q => h.run pins s σ H Q I q.2⟩
def tNilK : TA := fun _ H Q => True ∧ Q [] H
theorem pnK {X : Cx} : PA X [] tNilK := ⟨fun p pins s σ H Q I q => pa_nil.run p pins s σ H Q I q.2⟩
def tU (t : TE) : TE := fun σ H Q => True ∧ t σ H Q
theorem puK {X : Cx} {e : Expr} {t : TE} (h : PE X e t) : PE X e (tU t) := ⟨fun pins s σ H Q I q => h.run pins s σ H Q I q.2⟩
def tUT (t : TT) : TT := fun σ H Q => True ∧ t σ H Q
theorem ptK {X : Cx} {e : Expr} {t : TT} (h : PT X e t) : PT X e (tUT t) := ⟨fun pins s σ H Q I q => h.run pins s σ H Q I q.2⟩
/-! ### None -/
def optB {α R : Type} (o : Option α) (n : R) (s : α → R) : R := match o with
  | none => n
  | some a => s a
/-- a value that is not None -/
class Nn (α : Type) [Py α] where
  nn : ∀ {K : Fr} {Z : Hp} {v : V} {a : α}, Py.R K Z v a → v ≠ .non
instance : Nn Int := ⟨fun h e => by cases (show _ = V.int _ from h); cases e⟩
instance : Nn Bool := ⟨fun h e => by cases (show _ = V.bl _ from h); cases e⟩
instance : Nn Str := ⟨fun h e => by cases (show _ = V.str _ from h); cases e⟩
instance {α : Type} [Py α] : Nn (List α) := ⟨fun h e => by obtain ⟨a, xs, e2, _⟩ := h; rw [e2] at e; cases e⟩
instance {α β : Type} [Py α] [Py β] : Nn (α × β) := ⟨fun h e => by obtain ⟨a, xs, y, e2, _⟩ := h; rw [e2] at e; cases e⟩
theorem k_notN {α : Type} [Py α] [Nn α] {v : V} {o : Option α} (h : Py.R K Z v o) (k : Q (.bl (!o.isNone)) H) : Q (.bl (!decide (v = .non))) H := by
  have e : decide (v = .non) = o.isNone := by
    cases o with
    | none => cases (show v = .non from h); rfl
    | some a => exact decide_eq_false (Nn.nn (a := a) h)
  rw [e]; exact k
/-! ### comparisons -/
def inS (a b : Str) : Bool := !(Builtin.Str.occurrences b a 0 b.length 1).isEmpty
/-- a list read: told, or one's own -/
def RO {α : Type} [Py α] (K : Fr) (Z H : Hp) (v : V) (l : List α) : Prop := ∃ a xs, v = .ref a ∧ H a = some (.lst xs) ∧ Paired (Py.R K Z) xs l
theorem RO.own {α : Type} [Py α] {p : Addr} {l : List α} (o : Own K H0 Z H p l) : RO K Z H (.ref p) l := let ⟨⟨xs, h, pr⟩, _, _⟩ := o; ⟨p, xs, rfl, h, pr⟩
theorem RO.tell {α : Type} [Py α] {v : V} {l : List α} (zh : Same Z H) (h : Py.R K Z v l) : RO K Z H v l := let ⟨a, xs, e, hz, pr⟩ := h; ⟨a, xs, e, zh _ _ hz, pr⟩
theorem inV_int {ns : List Int} {i : Int} : inV (.int i) (ns.map V.int) = decide (i ∈ ns) := by
  unfold inV
  induction ns with
  | nil => simp
  | cons n r ih =>
    rw [List.map_cons, List.any_cons, ih]
    show ((n == i) || decide (i ∈ r)) = decide (i ∈ n :: r)
    by_cases e : n = i
    · subst e; simp
    · have e2 : ¬ i = n := fun z => e z.symm
      simp [e, e2]
theorem inV_str {ns : List Str} {i : Str} : inV (.str i) (ns.map V.str) = decide (i ∈ ns) := by
  unfold inV
  induction ns with
  | nil => simp
  | cons n r ih =>
    rw [List.map_cons, List.any_cons, ih]
    show ((n == i) || decide (i ∈ r)) = decide (i ∈ n :: r)
    by_cases e : n = i
    · subst e; simp
    · have e2 : ¬ i = n := fun z => e z.symm
      simp [e, e2]
/-- values that stand in lists and are compared plainly -/
class Fl (α : Type) [Sc α] [DecidableEq α] where
  flat : ∀ a : α, flatV (Sc.emb a) = true
  isIn : ∀ (l : List α) (a : α), inV (Sc.emb a) (l.map Sc.emb) = decide (a ∈ l)
instance : Fl Int := ⟨fun _ => rfl, fun l a => inV_int⟩
instance : Fl Str := ⟨fun _ => rfl, fun l a => inV_str⟩
/-! ### == of data -/
class PyD (α : Type) [Py α] [DecidableEq α] where
  d : α → PyData
  dp : ∀ {K : Fr} {Z H : Hp} {v : V} {a : α}, Same Z H → Py.R K Z v a → Dp K H v (d a)
  eqv : ∀ a b : α, PyData.eqv (d a) (d b) = decide (a = b)
  dep : Nat
  depth : ∀ a : α, (d a).depth ≤ dep
instance : PyD Int := ⟨.int, fun _ h => by cases (show _ = V.int _ from h); exact .int _, fun a b => by simp [PyData.eqv]; rfl, 0, fun _ => by simp [PyData.depth]⟩
instance : PyD Bool := ⟨.bool, fun _ h => by cases (show _ = V.bl _ from h); exact .bl _, fun a b => by cases a <;> cases b <;> simp [PyData.eqv], 0, fun _ => by simp [PyData.depth]⟩
instance : PyD Str := ⟨.str, fun _ h => by cases (show _ = V.str _ from h); exact .str _, fun a b => by
  show (a == b) = decide (a = b)
  by_cases e : a = b
  · subst e; simp
  · simp [e], 0, fun _ => by simp [PyData.depth]⟩
theorem dpAll {α : Type} [Py α] [DecidableEq α] [PyD α] (zh : Same Z H) : ∀ {xs : List V} {l : List α}, Paired (Py.R K Z) xs l → DpAll K H xs (l.map PyD.d)
  | _, _, .nil => .nil
  | _, _, .cons r t => .cons (PyD.dp zh r) (dpAll zh t)
theorem eqvAll_map {α : Type} [Py α] [DecidableEq α] [PyD α] : ∀ l m : List α, PyData.eqvAll (l.map PyD.d) (m.map PyD.d) = decide (l = m)
  | [], [] => by simp [PyData.eqvAll]
  | [], _ :: _ => by simp [PyData.eqvAll]
  | _ :: _, [] => by simp [PyData.eqvAll]
  | a :: r, b :: s => by
    rw [List.map_cons, List.map_cons]
    show (PyData.eqv (PyD.d a) (PyD.d b) && PyData.eqvAll (r.map PyD.d) (s.map PyD.d)) = _
    rw [PyD.eqv, eqvAll_map r s]
    by_cases e : a = b
    · subst e; by_cases e2 : r = s
      · subst e2; simp
      · simp [e2]
    · simp [e]
theorem depthAll_map {α : Type} [Py α] [DecidableEq α] [PyD α] : ∀ l : List α, PyData.depthAll (l.map PyD.d) ≤ PyD.dep α
  | [] => Nat.zero_le _
  | a :: r => by
    rw [List.map_cons]
    show max (PyD.d a).depth (PyData.depthAll (r.map PyD.d)) ≤ _
    exact Nat.max_le.mpr ⟨PyD.depth a, depthAll_map r⟩
instance {α : Type} [Py α] [DecidableEq α] [PyD α] : PyD (List α) where
  d l := .list (l.map PyD.d)
  dp := fun zh h => by
    obtain ⟨a, xs, rfl, hz, p⟩ := h
    exact .lst (SqL.of (zh _ _ hz)) (dpAll zh p)
  eqv := fun l m => eqvAll_map l m
  dep := PyD.dep α + 1
  depth := fun l => Nat.succ_le_succ (depthAll_map l)
instance {α β : Type} [Py α] [DecidableEq α] [PyD α] [Py β] [DecidableEq β] [PyD β] : PyD (α × β) where
  d p := .tuple [PyD.d p.1, PyD.d p.2]
  dp := fun zh h => by
    obtain ⟨a, x, y, rfl, hz, hx, hy⟩ := h
    exact .tup (SqT.of (zh _ _ hz)) (.cons (PyD.dp zh hx) (.cons (PyD.dp zh hy) .nil))
  eqv := fun p q => by
    show (PyData.eqv (PyD.d p.1) (PyD.d q.1) && (PyData.eqv (PyD.d p.2) (PyD.d q.2) && PyData.eqvAll [] [])) = _
    rw [PyD.eqv, PyD.eqv]
    obtain ⟨a, b⟩ := p
    obtain ⟨a', b'⟩ := q
    by_cases e : a = a'
    · subst e; by_cases e2 : b = b'
      · subst e2; simp [PyData.eqvAll]
      · simp [e2]
    · simp [e]
  dep := max (PyD.dep α) (PyD.dep β) + 1
  depth := fun p => by
    show max (PyD.d p.1).depth (max (PyD.d p.2).depth 0) + 1 ≤ _
    have h1 := PyD.depth p.1
    have h2 := PyD.depth p.2
    omega
/-- a value that may be None, beside data that is never None -/
class PyN (α : Type) [Py α] [DecidableEq α] [PyD α] where
  n1 : ∀ a : α, PyData.eqv .none (PyD.d a) = false
  n2 : ∀ a : α, PyData.eqv (PyD.d a) .none = false
instance : PyN Int := ⟨fun _ => by simp [PyD.d, PyData.eqv], fun _ => by simp [PyD.d, PyData.eqv]⟩
instance : PyN Bool := ⟨fun _ => by simp [PyD.d, PyData.eqv], fun _ => by simp [PyD.d, PyData.eqv]⟩
instance : PyN Str := ⟨fun _ => by simp [PyD.d, PyData.eqv], fun _ => by simp [PyD.d, PyData.eqv]⟩
instance {α : Type} [Py α] [DecidableEq α] [PyD α] : PyN (List α) := ⟨fun _ => by simp [PyD.d, PyData.eqv], fun _ => by simp [PyD.d, PyData.eqv]⟩
instance {α β : Type} [Py α] [DecidableEq α] [PyD α] [Py β] [DecidableEq β] [PyD β] : PyN (α × β) := ⟨fun _ => by simp [PyD.d, PyData.eqv], fun _ => by simp [PyD.d, PyData.eqv]⟩
instance {α : Type} [Py α] [DecidableEq α] [PyD α] [PyN α] : PyD (Option α) where
  d o := match o with
    | none => .none
    | some a => PyD.d a
  dp := fun {K Z H v a} zh h => by
    cases a with
    | none => cases (show v = V.non from h); exact .non
    | some a => exact PyD.dp zh (show Py.R K Z v a from h)
  eqv := fun a b => by
    cases a with
    | none => cases b with
      | none => simp [PyData.eqv]
      | some b => simp [PyN.n1]
    | some a => cases b with
      | none => simp [PyN.n2]
      | some b => show PyData.eqv (PyD.d a) (PyD.d b) = _; rw [PyD.eqv]; simp
  dep := PyD.dep α
  depth := fun a => by
    cases a with
    | none => simp [PyData.depth]
    | some a => exact PyD.depth a
/-- x tells the data a -/
def Pd {α : Type} [Py α] [DecidableEq α] [PyD α] (K : Fr) (H : Hp) (x : V) (a : α) : Prop := Dp K H x (PyD.d a)
theorem Pd.ref {α : Type} [Py α] [DecidableEq α] [PyD α] {v : V} {a : α} (zh : Same Z H) (h : Py.R K Z v a) : Pd K H v a := PyD.dp zh h
theorem Pd.int (i : Int) : Pd K H (.int i) i := Dp.int i
theorem Pd.str (i : Str) : Pd K H (.str i) i := Dp.str i
theorem Pd.bl (i : Bool) : Pd K H (.bl i) i := Dp.bl i
theorem Pd.none {α : Type} [Py α] [DecidableEq α] [PyD α] [PyN α] : Pd K H .non (none : Option α) := .non
theorem Pd.some {α : Type} [Py α] [DecidableEq α] [PyD α] [PyN α] {v : V} {a : α} (h : Pd K H v a) : Pd K H v (some a) := h
theorem Pd.own {α : Type} [Py α] [DecidableEq α] [PyD α] {p : Addr} {l : List α} (c : Step Z0 H0 Z H) (o : Own K H0 Z H p l) : Pd K H (.ref p) l := by
  obtain ⟨⟨xs, h, pr⟩, _, _⟩ := o
  exact .lst (SqL.of h) (dpAll c.zh pr)
def okD {α : Type} [Py α] [DecidableEq α] [PyD α] (a : α) : Bool := (PyD.d a).canLay0
@[simp] theorem okD_int (i : Int) : okD i = true := by simp [okD, PyD.d, PyData.canLay0]
@[simp] theorem okD_bool (i : Bool) : okD i = true := by simp [okD, PyD.d, PyData.canLay0]
@[simp] theorem okD_none {α : Type} [Py α] [DecidableEq α] [PyD α] [PyN α] : okD (none : Option α) = true := by simp [okD, PyD.d, PyData.canLay0]
@[simp] theorem okD_some {α : Type} [Py α] [DecidableEq α] [PyD α] [PyN α] (a : α) : okD (some a) = okD a := rfl
/-! ### isinstance of a built-in class -/
inductive Pt (K : Fr) (H : Hp) : V → String → Prop where
  | of {v : V} {t : String} (h : TyX K H v (.type t)) : Pt K H v t
theorem Pt.int (i : Int) : Pt K H (.int i) "int" := .of (.base (.int i))
theorem Pt.bl (i : Bool) : Pt K H (.bl i) "bool" := .of (.base (.bl i))
theorem Pt.str (i : Str) : Pt K H (.str i) "str" := .of (.base (.str i))
theorem Pt.non (i : Unit) : Pt K H .non "NoneType" := .of (.base .non)
theorem Pt.own {α : Type} [Py α] {p : Addr} {l : List α} (o : Own K H0 Z H p l) : Pt K H (.ref p) "list" := let ⟨⟨_, h, _⟩, _, _⟩ := o; .of (.base (.lst h))
theorem Pt.list {α : Type} [Py α] {v : V} {l : List α} (zh : Same Z H) (h : Py.R K Z v l) : Pt K H v "list" := by
  obtain ⟨a, xs, rfl, hz, p⟩ := h
  exact .of (.base (.lst (zh _ _ hz)))
theorem Pt.tuple {α β : Type} [Py α] [Py β] {v : V} {l : α × β} (zh : Same Z H) (h : Py.R K Z v l) : Pt K H v "tuple" := by
  obtain ⟨a, x, y, rfl, hz, p⟩ := h
  exact .of (.base (.tup (zh _ _ hz)))
theorem k_isi {v : V} {t c : String} {b : Bool} (h : Pt K H v t) (hk : kitB t c = some b) (k : Q (.bl b) H) : rIsi K [v, .ty c] H Q := by
  obtain ⟨h⟩ := h
  exact ⟨v, .ty c, .type t, .type c, b, rfl, .ty c, h, kit_ty hk, k⟩
/-! ### relations by name -/
def rLenQ (K : Fr) : List V → Hp → VK → Prop := fun xs H Q => ∃ p ys, xs = [V.ref p] ∧ (SqL K H p ys ∨ SqT K H p ys) ∧ Q (.int ys.length) H
def rListQ (K : Fr) : List V → Hp → VK → Prop := fun xs H Q => ∃ p ys, xs = [V.ref p] ∧ (SqL K H p ys ∨ SqT K H p ys) ∧ ∀ l, H l = none → Q (.ref l) (upd H l (.lst ys))
def rIntQ : List V → Hp → VK → Prop := fun xs H Q => ∃ a n, xs = [V.str a] ∧ PySem.intText? a = some n ∧ a.length ≤ 640 ∧ Q (.int n) H
def rJoinQ (K : Fr) : V → List V → Hp → VK → Prop := fun x xs H Q => ∃ a p, ∃ ys : List Str, x = .str a ∧ xs = [.ref p] ∧ (SqL K H p (ys.map V.str) ∨ SqT K H p (ys.map V.str)) ∧ (ys.map (·.length)).sum + ys.length * a.length ≤ 16777216 ∧ Q (.str (Txt.join a ys)) H
def rLstQ : List V → Hp → VK → Prop := fun xs H Q => xs.length ≤ sizeLine ∧ ∀ p, H p = none → Q (.ref p) (upd H p (.lst xs))
def rTupQ : List V → Hp → VK → Prop := fun xs H Q => xs.length ≤ sizeLine ∧ ∀ p, H p = none → Q (.ref p) (upd H p (.tup xs))
def tLstQ (t : TA) : TE := fun σ H Q => t σ H fun xs H1 => rLstQ xs H1 Q
def tTupQ (t : TA) : TE := fun σ H Q => t σ H fun xs H1 => rTupQ xs H1 Q
section
variable {X : Cx} {es : List Expr} {t : TA} {pos : Pos}
theorem call_lenQ : CallR X (.builtin "len") (rLenQ X.K) := call_len_seq
theorem call_listQ : CallR X (.type "list") (rListQ X.K) := call_list_of
theorem pe_lstQ (h : PA X es t) : PE X (.List es pos) (tLstQ t) := pe_lst h
theorem pe_tupQ {x1} (h : PA X es t) : PE X (.Tuple es x1 pos) (tTupQ t) := pe_tup h
end
theorem k_lenQ {α : Type} [Py α] {v : V} {l : List α} (zh : Same Z H) (h : Py.R K Z v l) (k : Q (.int (l.length : Int)) H) : rLenQ K [v] H Q := k_len zh h k
theorem k_lenOQ {α : Type} [Py α] {p : Addr} {l : List α} (o : Own K H0 Z H p l) (k : Q (.int (l.length : Int)) H) : rLenQ K [.ref p] H Q := k_lenO o k
theorem k_lenRQ {v : V} {l : Scr} (zh : Same Z H) (h : Py.R K Z v l) (k : Q (.int (l.ns.length : Int)) H) : rLenQ K [v] H Q := k_lenR zh h k
theorem k_listQ {α : Type} [Py α] {v : V} {l : List α} (zh : Same Z H) (h : Py.R K Z v l) (k : New K Z H Q l) : rListQ K [v] H Q := k_listL zh h k
theorem k_lst {α : Type} [Py α] {xs : List V} {m : List α} (zh : Same Z H) (pr : Paired (Py.R K Z) xs m) (hs : xs.length ≤ sizeLine) (k : New K Z H Q m) : rLstQ xs H Q := k_list zh pr hs k
theorem k_tup {α β : Type} [Py α] [Py β] {x y : V} {a : α} {b : β} (zh : Same Z H) (hx : Py.R K Z x a) (hy : Py.R K Z y b) (k : Tel K Z H Q (a, b)) : rTupQ [x, y] H Q := k_pair zh hx hy k
/-! ### more operations -/
def min2 (i j : Int) : Int := if j < i then j else i
def max2 (i j : Int) : Int := if j > i then j else i
def intS (s : Str) : Int := (PySem.intText? s).getD 0
def toStr (i : Int) : Str := (toString i : String)
def insI {α : Type} (l : List α) (i : Int) (a : α) : List α := l.take i.toNat ++ [a] ++ l.drop i.toNat
end
/-! ### loops by their kinds -/
section
variable {K : Fr} {J : It} {tb : TS} {D : Ends} {σ : St} {H Z : Hp}
end
end Cd

set_option Elab.async false
set_option linter.all false
set_option maxRecDepth 100000
set_option maxHeartbeats 4000000
/-! ## Plain facts of texts, lists and loops -/
namespace Cd
open PySem L2
def codes (s : Str) : List Nat := s.cps.toList
def sg (c : Nat) : Str := ⟨#[c]⟩
def mk (l : List Nat) : Str := ⟨l.toArray⟩
theorem len_codes (s : Str) : s.length = (codes s).length := by simp [codes, Str.length]
theorem codes_app (a b : Str) : codes (a ++ b) = codes a ++ codes b := by
  show ((a.cps ++ b.cps).toList) = _
  simp [codes]
theorem codes_sg (c : Nat) : codes (sg c) = [c] := rfl
theorem len_app (a b : Str) : (a ++ b).length = a.length + b.length := Str.length_append a b
theorem len_sg (c : Nat) : (sg c).length = 1 := rfl
theorem len_chS (z : Str) (i : Int) : (chS z i).length = 1 := rfl
theorem sg_inj {a b : Nat} (h : sg a = sg b) : a = b := by
  have := congrArg codes h
  simpa [codes_sg] using this
/-! ### places -/
theorem atI_nat {α : Type} {l : List α} {i : Int} (h0 : 0 ≤ i) (h1 : i < l.length) : atI l i = l[i.toNat]? := by
  unfold atI ixN
  rw [if_pos h0, if_pos h1]
  rfl
theorem getI_nat {α : Type} [Inhabited α] {l : List α} {i : Int} (h0 : 0 ≤ i) (h1 : i < l.length) : getI l i = l[i.toNat]'(by omega) := by
  unfold getI
  rw [atI_nat h0 h1, List.getElem?_eq_getElem (by omega)]
  rfl
theorem getI_eq {α : Type} [Inhabited α] {l : List α} {i : Int} {a : α} (h0 : 0 ≤ i) (h : l[i.toNat]? = some a) : getI l i = a := by
  have h1 := (List.getElem?_eq_some_iff.mp h).1
  rw [getI_nat h0 (by omega)]
  exact (List.getElem?_eq_some_iff.mp h).2
theorem getI_mem {α : Type} [Inhabited α] {l : List α} {i : Int} (h : inR l.length i) : getI l i ∈ l := by
  have e := atI_get h
  unfold atI at e
  obtain ⟨j, hj, hl⟩ := ixN_some h
  rw [hj] at e
  exact List.mem_of_getElem? e
theorem chS_nat {z : Str} {i : Int} (h0 : 0 ≤ i) (h1 : i < (z.length : Int)) : chS z i = sg ((codes z)[i.toNat]'(by rw [← len_codes]; omega)) := by
  have h2 : i < ((codes z).length : Int) := by rw [← len_codes]; exact h1
  unfold chS sg
  rw [show z.cps.toList = codes z from rfl, atI_nat h0 h2, List.getElem?_eq_getElem (by omega)]
  rfl
theorem chS_mem {z : Str} {i : Int} (h0 : 0 ≤ i) (h1 : i < (z.length : Int)) : ∃ c ∈ codes z, chS z i = sg c := ⟨_, List.getElem_mem _, chS_nat h0 h1⟩
/-! ### pieces -/
theorem sIx_some {n d : Nat} {i : Int} (h : 0 ≤ i) : HT.sIx n d (some i) = min i.toNat n := by
  obtain ⟨k, rfl⟩ := Int.eq_ofNat_of_zero_le h
  rw [HT.sIx_nat]
  rfl
theorem codes_cut (z : Str) (lo hi : Option Int) : codes (cutS z lo hi) = cutL (codes z) lo hi := by
  unfold cutS cutL codes
  simp [Str.length]
theorem cutL_some {α : Type} {l : List α} {i j : Int} (hi : 0 ≤ i) (hj : 0 ≤ j) : cutL l (some i) (some j) = (l.take j.toNat).drop i.toNat := by
  unfold cutL
  rw [sIx_some hi, sIx_some hj]
  apply List.ext_getElem?
  intro k
  simp only [List.getElem?_take, List.getElem?_drop]
  by_cases h1 : i.toNat ≤ l.length
  · rw [Nat.min_eq_left h1]
    by_cases h2 : j.toNat ≤ l.length
    · rw [Nat.min_eq_left h2]
      by_cases h3 : k < j.toNat - i.toNat
      · rw [if_pos h3, if_pos (by omega)]
      · rw [if_neg h3, if_neg (by omega)]
    · rw [Nat.min_eq_right (by omega)]
      by_cases h3 : k < l.length - i.toNat
      · rw [if_pos h3, if_pos (by omega)]
      · rw [if_neg h3, List.getElem?_eq_none (show l.length ≤ i.toNat + k by omega)]
        simp
  · rw [Nat.min_eq_right (show l.length ≤ i.toNat by omega)]
    rw [List.getElem?_eq_none (show l.length ≤ l.length + k by omega), List.getElem?_eq_none (show l.length ≤ i.toNat + k by omega)]
    simp
theorem cutL_from {α : Type} {l : List α} {i : Int} (hi : 0 ≤ i) : cutL l (some i) none = l.drop i.toNat := by
  unfold cutL
  rw [sIx_some hi, HT.sIx_none]
  by_cases h1 : i.toNat ≤ l.length
  · rw [Nat.min_eq_left h1, List.take_of_length_le (by rw [List.length_drop]; exact Nat.le_refl _)]
  · rw [Nat.min_eq_right (by omega), List.drop_length, List.drop_eq_nil_of_le (by omega)]
    simp
theorem cutL_to {α : Type} {l : List α} {j : Int} (hj : 0 ≤ j) : cutL l none (some j) = l.take j.toNat := by
  unfold cutL
  rw [sIx_some hj, HT.sIx_none]
  show (l.drop 0).take (min j.toNat l.length - 0) = _
  rw [List.drop_zero, Nat.sub_zero]
  by_cases h1 : j.toNat ≤ l.length
  · rw [Nat.min_eq_left h1]
  · rw [Nat.min_eq_right (by omega), List.take_length, List.take_of_length_le (by omega)]
theorem cutL_len_le {α : Type} (l : List α) (lo hi : Option Int) : (cutL l lo hi).length ≤ l.length := by
  unfold cutL
  rw [List.length_take, List.length_drop]
  omega
theorem cutL_mem {α : Type} {l : List α} {lo hi : Option Int} {x : α} (h : x ∈ cutL l lo hi) : x ∈ l := List.mem_of_mem_drop (List.mem_of_mem_take h)
/-! ### one sign in a text -/
theorem inS_sg (c : Nat) (z : Str) : inS (sg c) z = decide (c ∈ codes z) := PySem.StrLaws.found_one z c
theorem idxOf_first {c : Nat} : ∀ {l : List Nat} {i : Nat}, l[i]? = some c → (∀ k, k < i → ¬ l[k]? = some c) → l.idxOf c = i
  | [], _, h, _ => by simp at h
  | a :: r, 0, h, _ => by
    have e : a = c := by simpa using h
    subst e
    exact List.idxOf_cons_self
  | a :: r, i + 1, h, hn => by
    have h0 : ¬ a = c := fun e => hn 0 (Nat.succ_pos i) (by simp [e])
    rw [List.idxOf_cons, show (a == c) = false by simpa using h0]
    show r.idxOf c + 1 = i + 1
    rw [idxOf_first (l := r) (i := i) (by simpa using h) fun k hk => by simpa using hn (k + 1) (Nat.succ_lt_succ hk)]
theorem find_sg (z : Str) (c : Nat) : Txt.find z (sg c) = if c ∈ codes z then (((codes z).idxOf c : Nat) : Int) else -1 := by
  have key : ∀ i, PySem.StrLaws.At z (sg c) z.length i ↔ (codes z)[i]? = some c := fun i => PySem.StrLaws.subAt_one z c i
  unfold Txt.find
  rcases PySem.StrLaws.occ_head z (sg c) 1 (Nat.le_refl 1) with ⟨h0, hn⟩ | ⟨i, r, h0, hi, hn⟩
  · rw [h0, if_neg]
    intro hm
    obtain ⟨k, hk⟩ := List.getElem?_of_mem hm
    exact hn k ((key k).mpr hk)
  · rw [h0]
    have hi2 := (key i).mp hi
    rw [if_pos (List.mem_of_getElem? hi2)]
    have hlt := (List.getElem?_eq_some_iff.mp hi2).1
    rw [idxOf_first hi2 fun k hk z => hn k hk ((key k).mpr z)]
/-! ### loops -/
theorem rangeL_succ (lo : Int) (n : Nat) : rangeL lo (n + 1) = lo :: rangeL (lo + 1) n := by
  unfold rangeL
  rw [List.range_succ_eq_map, List.map_cons, List.map_map]
  congr 1
  · omega
  · apply List.map_congr_left
    intro i _
    show lo + ((i + 1 : Nat) : Int) = lo + 1 + (i : Int)
    omega
theorem enumL_cons {α : Type} (k : Int) (a : α) (r : List α) : enumL k (a :: r) = (k, a) :: enumL (k + 1) r := by
  unfold enumL
  rw [List.length_cons, rangeL_succ]
  rfl
theorem enumL_nil {α : Type} (k : Int) : enumL k ([] : List α) = [] := rfl
theorem enumL_len {α : Type} (k : Int) (l : List α) : (enumL k l).length = l.length := by
  unfold enumL
  rw [List.length_zip, rangeL_len]
  omega
end Cd

set_option Elab.async false
set_option linter.all false
set_option maxRecDepth 100000
set_option maxHeartbeats 4000000
/-! ## Comprehensions by their kinds, more operations -/
namespace Cd
open PySem L2 PyProof.Rows
def lcRest (J : It) (g : TG) (tt : TT) (te : TE) (vs : List Nat) (Q : VK) (σ : L2.St) (H1 : Hp) : Prop := ∀ D, H1 D = none → ∃ W : Nat → Nat → Hp → Prop, (∃ m, W 0 m (upd H1 D (.lst []))) ∧ ∀ i m H, W i m H →
  (J.stop i H ∧ Q (.ref D) H) ∨ (J.go i H ∧ ∃ Nx : Hp → Prop, (∀ H', Nx H' → ∃ m', m' < m ∧ W (i + 1) m' H') ∧ ∀ x H', J.yld i H x H' → g x (wipe σ vs) H' fun σ2 H2 => wipe σ2 vs = wipe σ vs ∧ tt σ2 H2 fun b H3 =>
    if b = true then te σ2 H3 fun y H4 => ∃ acc, H4 D = some (.lst acc) ∧ acc.length < sizeLine ∧ Nx (upd H4 D (.lst (acc ++ [y]))) else Nx H3)
def tLcQ (wi : TI) (g : TG) (tt : TT) (te : TE) (vs : List Nat) : TE := fun σ H Q => wi σ H fun J H1 => lcRest J g tt te vs Q σ H1
section
variable {X : Cx}
theorem pe_lcQ {elt tg iter : Expr} {ifs : List Expr} {scope : Scope} {own : List (Str × Nat)} {pos : Pos} {wi : TI} {g : TG} {tt : TT} {te : TE} (hc : X.calm = true) (hN : X.N.Nodup) (hi : PI X tg iter wi) (ok : BlkOk X.N X.env.scope scope own)
    (hg : ∀ (s : Shared) (H : Hp) (C : Addr) (cl : List (Str × Addr)) (fp : List Addr), PG (X.blk s H scope (compEnvC scope cl C X.env) fp) tg g) (ht : ∀ (s : Shared) (H : Hp) (C : Addr) (cl : List (Str × Addr)) (fp : List Addr), PTs (X.blk s H scope (compEnvC scope cl C X.env) fp) ifs tt)
    (he : ∀ (s : Shared) (H : Hp) (C : Addr) (cl : List (Str × Addr)) (fp : List Addr), PE (X.blk s H scope (compEnvC scope cl C X.env) fp) elt te) (hs : ∀ x, foldedSetIterable iter X.env x = pure x := by intro _; rfl) :
    PE X (.ListComp elt [⟨tg, iter, ifs, 0⟩] scope pos) (tLcQ wi g tt te (own.map (·.2))) := pe_lc hc hN hi ok hg ht he hs
theorem ps_setLcQ {i : Nat} {y : Str} {py : Pos} {elt tg iter : Expr} {ifs : List Expr} {scope : Scope} {own : List (Str × Nat)} {pos spos : Pos} {wi : TI} {g : TG} {tt : TT} {te : TE} (hc : X.calm = true) (hN : X.N.Nodup) (hy : X.N[i]? = some y) (hyl : X.env.scope.names.lookup y = some .local)
    (hsw : swapsWith (.ListComp elt [⟨tg, iter, ifs, 0⟩] scope pos) (some (.Name y py)) spos.line X.env = pure true) (hi : PI X tg iter wi) (ok : BlkOk X.N X.env.scope scope own)
    (hg : ∀ (s : Shared) (H : Hp) (C : Addr) (cl : List (Str × Addr)) (fp : List Addr), PG (X.blk s H scope (compEnvC scope cl C X.env) fp) tg g) (ht : ∀ (s : Shared) (H : Hp) (C : Addr) (cl : List (Str × Addr)) (fp : List Addr), PTs (X.blk s H scope (compEnvC scope cl C X.env) fp) ifs tt)
    (he : ∀ (s : Shared) (H : Hp) (C : Addr) (cl : List (Str × Addr)) (fp : List Addr), PE (X.blk s H scope (compEnvC scope cl C X.env) fp) elt te) (hs : ∀ x, foldedSetIterable iter X.env x = pure x := by intro _; rfl) :
    PS X (.Assign [.Name y py] (.ListComp elt [⟨tg, iter, ifs, 0⟩] scope pos) spos) (tAsg (tLcQ wi g tt te (own.map (·.2))) (gName i)) := ps_setLc hc hN hy hyl hsw hi ok hg ht he hs
end
section
variable {K : Fr} {J : It} {tt : TT} {te : TE} {σ : L2.St} {H Z : Hp} {vs : List Nat} {Q : VK}
theorem New.all {γ β : Type} [Py β] {L : List γ} {f : γ → β} (k : New K Z H Q (L.map f)) : New K Z H Q ((L.filter fun _ => true).map f) := by
  rw [show (L.filter fun _ => true) = L from List.filter_eq_self.mpr fun _ _ => rfl]
  exact k
end
section
variable {K : Fr} {Z H Z0 H0 : Hp} {Q : VK}
theorem yesK {te : TE} {σ : L2.St} {H : Hp} {C : VK} {N : Hp → Prop} (h : te σ H C) : tYes σ H fun b H4 => if b = true then te σ H4 C else N H4 := by
  show (if true = true then te σ H C else N H)
  rw [if_pos rfl]
  exact h
theorem setI_nat {α : Type} {l : List α} {i : Int} {a : α} (h0 : 0 ≤ i) (h1 : i < l.length) : setI l i a = l.set i.toNat a := by
  unfold setI ixN
  rw [if_pos h0, if_pos h1]
/-! ### join -/
/-! ### xs[::-1] -/
def rRevQ (K : Fr) : V → Hp → VK → Prop := fun x H Q => ∃ a xs, x = .ref a ∧ SqL K H a xs ∧ ∀ p, H p = none → Q (.ref p) (upd H p (.lst xs.reverse))
def tRevQ (K : Fr) (te : TE) : TE := fun σ H Q => te σ H fun x H1 => rRevQ K x H1 Q
/-! ### divmod -/
def rDmQ : List V → Hp → VK → Prop := fun xs H Q => ∃ i j, xs = [.int i, .int j] ∧ CDiv i j ∧ ∀ p, H p = none → Q (.ref p) (upd H p (.tup [.int (i / j), .int (i % j)]))
/-! ### str(n) -/
def rStrQ : List V → Hp → VK → Prop := fun xs H Q => ∃ i, xs = [V.int i] ∧ i.natAbs.log2 < 1920 ∧ Q (.str (toStr i)) H
theorem call_strQ {X : Cx} : CallR X (.type "str") rStrQ := call_str_int
theorem toStr_codes (m : Nat) : codes (toStr (m : Int)) = (Nat.toDigits 10 m).map Char.toNat := PySem.W.KIN.signs_num m
theorem toStr_small {i : Int} (h0 : 0 ≤ i) (h1 : i < 10) : codes (toStr i) = [48 + i.toNat] := by
  have : i = 0 ∨ i = 1 ∨ i = 2 ∨ i = 3 ∨ i = 4 ∨ i = 5 ∨ i = 6 ∨ i = 7 ∨ i = 8 ∨ i = 9 := by omega
  rcases this with rfl | rfl | rfl | rfl | rfl | rfl | rfl | rfl | rfl | rfl <;> decide +kernel
theorem toDigits_len : ∀ (k m : Nat), m < 10 ^ (k + 1) → (Nat.toDigits 10 m).length ≤ k + 1 := fun k m h => by
  rw [Nat.length_toDigits_le_iff (by decide) (Nat.succ_pos k)]
  exact h
theorem toStr_len {i : Int} (k : Nat) (h0 : 0 ≤ i) (h1 : i < 10 ^ (k + 1)) : (toStr i).length ≤ k + 1 := by
  obtain ⟨m, rfl⟩ := Int.eq_ofNat_of_zero_le h0
  rw [len_codes, toStr_codes, List.length_map]
  exact toDigits_len k m (by
    have : ((10 ^ (k + 1) : Nat) : Int) = (10 : Int) ^ (k + 1) := by simp
    omega)
theorem toStr_lenp (i : Int) : 0 ≤ i → ((i < 10 → (toStr i).length = 1) ∧ (i < 10000 → (toStr i).length ≤ 4) ∧ (i < 10 ^ 20 → (toStr i).length ≤ 20)) := fun h0 => by
  refine ⟨fun h => ?_, fun h => ?_, fun h => ?_⟩
  · rw [len_codes, toStr_small h0 h]; rfl
  · exact toStr_len 3 h0 (by omega)
  · exact toStr_len 19 h0 (by omega)
/-! ### great numbers -/
/-! ### [x] * n -/
def repL {α : Type} (l : List α) (n : Int) : List α := (List.replicate n.toNat l).flatten
theorem Paired.rep {α β : Type} {F : α → β → Prop} {l : List α} {m : List β} (p : Paired F l m) : ∀ n : Nat, Paired F (List.replicate n l).flatten (List.replicate n m).flatten
  | 0 => .nil
  | n + 1 => by
    rw [List.replicate_succ, List.replicate_succ, List.flatten_cons, List.flatten_cons]
    exact p.pApp (Paired.rep p n)
theorem k_rep {α : Type} [Py α] {v : V} {l : List α} {n : Int} (zh : Same Z H) (h : RO K Z H v l) (h0 : -(2 ^ 63) ≤ n) (h1 : n < 2 ^ 63) (hs : l.length * n.toNat ≤ sizeLine) (k : New K Z H Q (repL l n)) : rRep v (.int n) H Q := by
  obtain ⟨a, xs, rfl, hl, pr⟩ := h
  exact ⟨a, n, xs, rfl, rfl, hl, h0, h1, by rw [pr.pLen]; exact hs, New.lay zh (Paired.rep pr _) k⟩
theorem repL_one {α : Type} (a : α) (n : Int) : repL [a] n = List.replicate n.toNat a := by
  unfold repL
  induction n.toNat with
  | zero => rfl
  | succ m ih => rw [List.replicate_succ, List.flatten_cons, ih, List.replicate_succ]; rfl
/-! ### insert, pop, l[i] += x -/
theorem k_insert {α : Type} [Py α] {q : Addr} {v : V} {l : List α} {i : Int} {a : α} (o : Own K H0 Z H q l) (h : Py.R K Z v a) (hs : l.length < sizeLine) (hi : 0 ≤ i ∧ i < 2 ^ 63) (k : ∀ u, Own K H0 Z (upd H q u) q (insI l i a) → Q .non (upd H q u)) :
    (fun (x : V) vs H (Q : VK) => ∃ (l : Addr) (xs : List V) (i : Int) (y : V), x = .ref l ∧ vs = [.int i, y] ∧ H l = some (.lst xs) ∧ xs.length < sizeLine ∧ 0 ≤ i ∧ i < 2 ^ 63 ∧ Q .non (upd H l (.lst (xs.take i.toNat ++ [y] ++ xs.drop i.toNat)))) (.ref q) [.int i, v] H Q := by
  obtain ⟨⟨xs, hz, pr⟩, nz, n0⟩ := o
  exact ⟨q, xs, i, v, rfl, rfl, hz, by rw [pr.pLen]; exact hs, hi.1, hi.2, k _ ⟨⟨_, upd_same, ((pr.pTake _).pApp (.cons h .nil)).pApp (pr.pDrop _)⟩, nz, n0⟩⟩
end
/-! ### while -/
/-- the mirror's while: n bounds the turns -/
def whileS {S : Type} (c : S → Bool) (f : S → S) : Nat → S → S
  | 0, s => s
  | n + 1, s => if c s = true then whileS c f n (f s) else s
def whRest (c : TT) (tb : TS) (D : Ends) (σ : L2.St) (H : Hp) : Prop := ∃ W : Nat → L2.St → Hp → Prop, (∃ m, W m σ H) ∧ ∀ m σ H, W m σ H →
  c σ H fun b H1 => if b = true then ∃ N : L2.St → Hp → Prop, (∀ σ' H', N σ' H' → ∃ m', m' < m ∧ W m' σ' H') ∧ tb { D with nx := N, ct := N, bk := D.nx } σ H1 else D.nx σ H1
end Cd
namespace Cd
open PySem L2 PyProof.Rows
section
variable {K : Fr} {J : It} {tb : TS} {D : Ends} {σ : L2.St} {H Z : Hp}
end
section
variable {K : Fr} {J : It} {tt : TT} {te : TE} {σ : L2.St} {H Z : Hp} {vs : List Nat} {Q : VK}
end
end Cd
namespace Cd
open PySem L2
end Cd

set_option Elab.async false
set_option linter.all false
set_option maxRecDepth 100000
set_option maxHeartbeats 4000000
namespace Cd
open PySem L2 PyProof.Rows
/-! ### times -/
theorem op_mulC {X : Cx} : OpR X (binaryOp .Mult) (rI IntMulOk fun i j => .int (i * j)) := opI fun _ _ _ _ _ _ _ hc q => mul_int q hc
theorem mulL {i j : Int} (h : -(2 ^ 64) < i ∧ i < 2 ^ 64) : IntMulOk i j := CMul.ok (.inl h)
theorem mulR {i j : Int} (h : -(2 ^ 64) < j ∧ j < 2 ^ 64) : IntMulOk i j := CMul.ok (.inr h)
/-- a text times a number -/
def rMulS : R2 := fun x y H Q => ∃ (a : Str) (n : Int), x = .str a ∧ y = .int n ∧ -(2 ^ 31) ≤ n ∧ n < 2 ^ 31 ∧ a.length * n.toNat ≤ 16777216 ∧ Q (.str (Txt.mul a n)) H
/-! ### int(true) -/
def b2i (b : Bool) : Int := if b then 1 else 0
def rIntB : List V → Hp → VK → Prop := fun xs H Q => ∃ k, xs = [.bl k] ∧ Q (.int (b2i k)) H
theorem call_intB {X : Cx} : CallR X (.type "int") rIntB := by
  intro pins s σ H xs us Q I r h
  obtain ⟨k, e, q⟩ := h
  exact call_int1 pins s σ H xs us Q I r (.inr ⟨k, e, q⟩)
section
variable {K : Fr} {Z H Z0 H0 : Hp} {Q : VK}
/-! ### pop -/
def delI {α : Type} (l : List α) (i : Int) : List α := match ixN l.length i with | some j => l.eraseIdx j | none => l
end
end Cd
namespace PySem
open L2 Cd
end PySem
namespace Cd
open PySem L2 PyProof.Rows
section
variable {K : Fr} {Z H Z0 H0 : Hp} {Q : VK}
theorem insI_len {α : Type} (l : List α) (i : Int) (a : α) : (insI l i a).length = l.length + 1 := by
  unfold insI
  rw [List.length_append, List.length_append, List.length_take, List.length_drop, List.length_singleton]
  omega
end
/-! ### tuples of three and four -/
structure T3 (α β γ : Type) where
  x1 : α
  x2 : β
  x3 : γ
deriving DecidableEq, Inhabited
structure T4 (α β γ δ : Type) where
  x1 : α
  x2 : β
  x3 : γ
  x4 : δ
deriving DecidableEq, Inhabited
instance {α β γ : Type} [Py α] [Py β] [Py γ] : Py (T3 α β γ) where
  R K Z v p := ∃ a x y z, v = .ref a ∧ Z a = some (.tup [x, y, z]) ∧ Py.R K Z x p.x1 ∧ Py.R K Z y p.x2 ∧ Py.R K Z z p.x3
  mono := fun {K Z Z' v l} s h => by
    obtain ⟨a, x, y, z, e, hz, p, q, r⟩ := h
    exact ⟨a, x, y, z, e, s _ _ hz, Py.mono s p, Py.mono s q, Py.mono s r⟩
instance {α β γ δ : Type} [Py α] [Py β] [Py γ] [Py δ] : Py (T4 α β γ δ) where
  R K Z v p := ∃ a x y z w, v = .ref a ∧ Z a = some (.tup [x, y, z, w]) ∧ Py.R K Z x p.x1 ∧ Py.R K Z y p.x2 ∧ Py.R K Z z p.x3 ∧ Py.R K Z w p.x4
  mono := fun {K Z Z' v l} s h => by
    obtain ⟨a, x, y, z, w, e, hz, p, q, r, t⟩ := h
    exact ⟨a, x, y, z, w, e, s _ _ hz, Py.mono s p, Py.mono s q, Py.mono s r, Py.mono s t⟩
/-- a pick or a deal: the third item may be lacking -/
structure TO (α β γ : Type) where
  x1 : α
  x2 : β
  x3 : Option γ
deriving DecidableEq, Inhabited
instance {α β γ : Type} [Py α] [Py β] [Py γ] : Py (TO α β γ) where
  R K Z v p := ∃ a x y, v = .ref a ∧ Py.R K Z x p.x1 ∧ Py.R K Z y p.x2 ∧ match p.x3 with
    | none => Z a = some (.tup [x, y])
    | some c => ∃ z, Z a = some (.tup [x, y, z]) ∧ Py.R K Z z c
  mono := fun {K Z Z' v l} s h => by
    obtain ⟨x1, x2, x3⟩ := l
    obtain ⟨a, x, y, e, p, q, r⟩ := h
    refine ⟨a, x, y, e, Py.mono s p, Py.mono s q, ?_⟩
    cases x3 with
    | none => exact s _ _ r
    | some c =>
      obtain ⟨z, hz, h⟩ := r
      exact ⟨z, s _ _ hz, Py.mono s h⟩
section
variable {K : Fr} {Z H Z0 H0 : Hp} {Q : VK} {α β γ δ : Type} [Py α] [Py β] [Py γ] [Py δ]
end
/-! ### data equality of these -/
theorem Pt.t3 {K : Fr} {Z H : Hp} {α β γ : Type} [Py α] [Py β] [Py γ] {v : V} {l : T3 α β γ} (zh : Same Z H) (h : Py.R K Z v l) : Pt K H v "tuple" := by
  obtain ⟨a, x, y, z, rfl, hz, p⟩ := h
  exact .of (.base (.tup (zh _ _ hz)))
theorem Pt.t4 {K : Fr} {Z H : Hp} {α β γ δ : Type} [Py α] [Py β] [Py γ] [Py δ] {v : V} {l : T4 α β γ δ} (zh : Same Z H) (h : Py.R K Z v l) : Pt K H v "tuple" := by
  obtain ⟨a, x, y, z, w, rfl, hz, p⟩ := h
  exact .of (.base (.tup (zh _ _ hz)))
section
variable {α β γ δ : Type} [Py α] [DecidableEq α] [PyD α] [Py β] [DecidableEq β] [PyD β] [Py γ] [DecidableEq γ] [PyD γ] [Py δ] [DecidableEq δ] [PyD δ]
theorem andD {a b : Prop} [Decidable a] [Decidable b] : (decide a && decide b) = decide (a ∧ b) := by simp
instance : PyD (T3 α β γ) where
  d p := .tuple [PyD.d p.x1, PyD.d p.x2, PyD.d p.x3]
  dp := fun zh h => by
    obtain ⟨a, x, y, z, rfl, hz, hx, hy, hw⟩ := h
    exact .tup (SqT.of (zh _ _ hz)) (.cons (PyD.dp zh hx) (.cons (PyD.dp zh hy) (.cons (PyD.dp zh hw) .nil)))
  eqv := fun p q => by
    show (PyData.eqv (PyD.d p.x1) (PyD.d q.x1) && (PyData.eqv (PyD.d p.x2) (PyD.d q.x2) && (PyData.eqv (PyD.d p.x3) (PyD.d q.x3) && PyData.eqvAll [] []))) = _
    rw [PyD.eqv, PyD.eqv, PyD.eqv, show PyData.eqvAll [] [] = true by simp [PyData.eqvAll], Bool.and_true, andD, andD]
    obtain ⟨a, b, c⟩ := p
    obtain ⟨a', b', c'⟩ := q
    simp
  dep := max (PyD.dep α) (max (PyD.dep β) (PyD.dep γ)) + 1
  depth := fun p => by
    show max (PyD.d p.x1).depth (max (PyD.d p.x2).depth (max (PyD.d p.x3).depth 0)) + 1 ≤ _
    have h1 := PyD.depth p.x1
    have h2 := PyD.depth p.x2
    have h3 := PyD.depth p.x3
    omega
instance : PyD (T4 α β γ δ) where
  d p := .tuple [PyD.d p.x1, PyD.d p.x2, PyD.d p.x3, PyD.d p.x4]
  dp := fun zh h => by
    obtain ⟨a, x, y, z, w, rfl, hz, hx, hy, hw, hv⟩ := h
    exact .tup (SqT.of (zh _ _ hz)) (.cons (PyD.dp zh hx) (.cons (PyD.dp zh hy) (.cons (PyD.dp zh hw) (.cons (PyD.dp zh hv) .nil))))
  eqv := fun p q => by
    show (PyData.eqv (PyD.d p.x1) (PyD.d q.x1) && (PyData.eqv (PyD.d p.x2) (PyD.d q.x2) && (PyData.eqv (PyD.d p.x3) (PyD.d q.x3) && (PyData.eqv (PyD.d p.x4) (PyD.d q.x4) && PyData.eqvAll [] [])))) = _
    rw [PyD.eqv, PyD.eqv, PyD.eqv, PyD.eqv, show PyData.eqvAll [] [] = true by simp [PyData.eqvAll], Bool.and_true, andD, andD, andD]
    obtain ⟨a, b, c⟩ := p
    obtain ⟨a', b', c'⟩ := q
    simp
  dep := max (PyD.dep α) (max (PyD.dep β) (max (PyD.dep γ) (PyD.dep δ))) + 1
  depth := fun p => by
    show max (PyD.d p.x1).depth (max (PyD.d p.x2).depth (max (PyD.d p.x3).depth (max (PyD.d p.x4).depth 0))) + 1 ≤ _
    have h1 := PyD.depth p.x1
    have h2 := PyD.depth p.x2
    have h3 := PyD.depth p.x3
    have h4 := PyD.depth p.x4
    omega
instance : PyD (TO α β γ) where
  d p := .tuple (PyD.d p.x1 :: PyD.d p.x2 :: (match p.x3 with | none => [] | some c => [PyD.d c]))
  dp := fun {K Z H v p} zh h => by
    obtain ⟨x1, x2, x3⟩ := p
    obtain ⟨a, x, y, rfl, hx, hy, h3⟩ := h
    cases x3 with
    | none => exact .tup (SqT.of (zh _ _ h3)) (.cons (PyD.dp zh hx) (.cons (PyD.dp zh hy) .nil))
    | some c =>
      obtain ⟨z, hz, hw⟩ := h3
      exact .tup (SqT.of (zh _ _ hz)) (.cons (PyD.dp zh hx) (.cons (PyD.dp zh hy) (.cons (PyD.dp zh hw) .nil)))
  eqv := fun p q => by
    obtain ⟨a, b, c⟩ := p
    obtain ⟨a', b', c'⟩ := q
    cases c with
    | none => cases c' with
      | none =>
        show (PyData.eqv (PyD.d a) (PyD.d a') && (PyData.eqv (PyD.d b) (PyD.d b') && PyData.eqvAll [] [])) = _
        rw [PyD.eqv, PyD.eqv, show PyData.eqvAll [] [] = true by simp [PyData.eqvAll], Bool.and_true, andD]
        simp
      | some c' =>
        show (PyData.eqv (PyD.d a) (PyD.d a') && (PyData.eqv (PyD.d b) (PyD.d b') && PyData.eqvAll [] [PyD.d c'])) = _
        simp [PyData.eqvAll]
    | some c => cases c' with
      | none =>
        show (PyData.eqv (PyD.d a) (PyD.d a') && (PyData.eqv (PyD.d b) (PyD.d b') && PyData.eqvAll [PyD.d c] [])) = _
        simp [PyData.eqvAll]
      | some c' =>
        show (PyData.eqv (PyD.d a) (PyD.d a') && (PyData.eqv (PyD.d b) (PyD.d b') && (PyData.eqv (PyD.d c) (PyD.d c') && PyData.eqvAll [] []))) = _
        rw [PyD.eqv, PyD.eqv, PyD.eqv, show PyData.eqvAll [] [] = true by simp [PyData.eqvAll], Bool.and_true, andD, andD]
        simp
  dep := max (PyD.dep α) (max (PyD.dep β) (PyD.dep γ)) + 1
  depth := fun p => by
    obtain ⟨a, b, c⟩ := p
    have h1 := PyD.depth a
    have h2 := PyD.depth b
    cases c with
    | none =>
      show max (PyD.d a).depth (max (PyD.d b).depth 0) + 1 ≤ _
      omega
    | some c =>
      have h3 := PyD.depth c
      show max (PyD.d a).depth (max (PyD.d b).depth (max (PyD.d c).depth 0)) + 1 ≤ _
      omega
instance : PyN (T3 α β γ) := ⟨fun _ => by simp [PyD.d, PyData.eqv], fun _ => by simp [PyD.d, PyData.eqv]⟩
instance : PyN (T4 α β γ δ) := ⟨fun _ => by simp [PyD.d, PyData.eqv], fun _ => by simp [PyD.d, PyData.eqv]⟩
instance : PyN (TO α β γ) := ⟨fun _ => by simp [PyD.d, PyData.eqv], fun _ => by simp [PyD.d, PyData.eqv]⟩
end
section
variable {K : Fr} {Z H : Hp} {α β γ δ : Type} [Py α] [Py β] [Py γ] [Py δ]
end
end Cd

set_option Elab.async false
set_option linter.all false
set_option maxRecDepth 100000
set_option maxHeartbeats 4000000
namespace Cd
open PySem L2 PyProof.Rows
/-! ### texts that may be laid -/
end Cd
namespace Cd
open PySem L2
/-! ### own lists lent to a call -/
class NoZ (α : Type) [Py α] : Prop where
  back : ∀ {K : Fr} {Z Z' : Hp} {v : V} {a : α}, Py.R K Z v a → Py.R K Z' v a
instance (priority := low) {α : Type} [Sc α] : NoZ α := ⟨fun h => h⟩
instance {α : Type} [Py α] [NoZ α] : NoZ (Option α) := ⟨fun {K Z Z' v a} h => by
  cases a with
  | none => exact h
  | some a => exact NoZ.back (α := α) (Z := Z) h⟩
section
variable {K : Fr} {Z H Zb Z2 H2 : Hp} {Q : VK}
theorem Step.bor (zh : Same Z H) (s : Same Z Zb) (st : Step Zb H Z2 H2) : Step Z H Z H2 := ⟨st.hh, Same.refl _, s.trans (st.zz.trans st.zh), fun _ _ _ => rfl⟩
theorem Tel.bor {α : Type} [Py α] [NoZ α] {m : α} (s : Same Z Zb) (zh : Same Zb H) (k : Tel K Z H Q m) : Tel K Zb H Q m := fun v Z' H' st h =>
  k v Z H' (Step.bor (s.trans zh) s st) (NoZ.back h)
theorem New.bor {α : Type} [Py α] [NoZ α] {m : List α} (s : Same Z Zb) (zh : Same Zb H) (k : New K Z H Q m) : New K Zb H Q m := fun p xs Z' H' st hp hl hz pr =>
  k p xs Z H' (Step.bor (s.trans zh) s st) hp hl ((s.trans zh).free hp) (Paired.pImp (fun _ _ r => NoZ.back r) pr)
end
end Cd
namespace Cd
open PySem L2
section
variable {K : Fr} {Z H : Hp} {Q : VK}
def rIsNQ : R2 := fun x y H Q => y = .non ∧ Q (.bl (decide (x = .non))) H
def rNotNQ : R2 := fun x y H Q => y = .non ∧ Q (.bl (!decide (x = .non))) H
theorem op_isNQ {X : Cx} : OpR X (compareOp .Is) rIsNQ := op_isN
theorem op_notNQ {X : Cx} : OpR X (compareOp .IsNot) rNotNQ := op_notN
theorem k_notNQ {α : Type} [Py α] [Nn α] {v : V} {o : Option α} (h : Py.R K Z v o) (k : Q (.bl (!o.isNone)) H) : rNotNQ v .non H Q := ⟨rfl, k_notN h k⟩
end
end Cd
namespace Cd
open PySem L2
def rInsQ : V → List V → Hp → VK → Prop := fun x vs H Q => ∃ (l : Addr) (xs : List V) (i : Int) (y : V), x = .ref l ∧ vs = [.int i, y] ∧ H l = some (.lst xs) ∧ xs.length < sizeLine ∧ 0 ≤ i ∧ i < 2 ^ 63 ∧ Q .non (upd H l (.lst (xs.take i.toNat ++ [y] ++ xs.drop i.toNat)))
theorem mt_insertQ {X : Cx} : MtR X "list.insert" rInsQ := mt_insert
theorem k_insertQ {K : Fr} {Z H H0 : Hp} {Q : VK} {α : Type} [Py α] {q : Addr} {v : V} {l : List α} {i : Int} {a : α} (o : Own K H0 Z H q l) (h : Py.R K Z v a) (hs : l.length < sizeLine) (hi : 0 ≤ i ∧ i < 2 ^ 63) (k : ∀ u, Own K H0 Z (upd H q u) q (insI l i a) → Q .non (upd H q u)) : rInsQ (.ref q) [.int i, v] H Q := k_insert o h hs hi k
end Cd
namespace Cd
open PySem L2
class PtT (α : Type) [Py α] where
  t : String
  pt : ∀ {K : Fr} {Z H : Hp} {v : V} {a : α}, Same Z H → Py.R K Z v a → Pt K H v t
instance : PtT Int := ⟨"int", fun _ h => by cases (show _ = V.int _ from h); exact Pt.int _⟩
instance : PtT Bool := ⟨"bool", fun _ h => by cases (show _ = V.bl _ from h); exact Pt.bl _⟩
instance : PtT Str := ⟨"str", fun _ h => by cases (show _ = V.str _ from h); exact Pt.str _⟩
instance {α : Type} [Py α] : PtT (List α) := ⟨"list", fun zh h => Pt.list zh h⟩
instance {α β : Type} [Py α] [Py β] : PtT (α × β) := ⟨"tuple", fun zh h => Pt.tuple zh h⟩
instance {α β γ : Type} [Py α] [Py β] [Py γ] : PtT (T3 α β γ) := ⟨"tuple", fun zh h => Pt.t3 zh h⟩
instance {α β γ δ : Type} [Py α] [Py β] [Py γ] [Py δ] : PtT (T4 α β γ δ) := ⟨"tuple", fun zh h => Pt.t4 zh h⟩
section
variable {K : Fr} {Z H : Hp} {Q : VK}
end
end Cd
namespace Cd
end Cd

set_option Elab.async false
set_option linter.all false
set_option maxRecDepth 100000
set_option maxHeartbeats 4000000
namespace Cd
open PySem L2 PyProof.Rows
section
variable {K : Fr} {Z H Z' H' Z2 H2 Z0 H0 : Hp} {Q : VK}
/-- a list of lists of one's own -/
structure OwnN {α : Type} [Py α] (K : Fr) (H0 Z H : Hp) (p : Addr) (ps : List Addr) (m : List (List α)) : Prop where
  top : H p = some (.lst (ps.map V.ref))
  inn : Paired (fun a l => ∃ xs, H a = some (.lst xs) ∧ Paired (Py.R K Z) xs l) ps m
  nd : (p :: ps).Nodup
  nz : ∀ a ∈ p :: ps, Z a = none
  n0 : ∀ a ∈ p :: ps, H0 a = none
theorem OwnN.stands {α : Type} [Py α] {p : Addr} {ps : List Addr} {m : List (List α)} (o : OwnN K H0 Z H p ps m) : ∀ a ∈ p :: ps, ∃ u, H a = some u := by
  intro a ha
  rcases List.mem_cons.mp ha with rfl | ha
  · exact ⟨_, o.top⟩
  · have key : ∀ {ps : List Addr} {m : List (List α)}, Paired (fun a l => ∃ xs, H a = some (.lst xs) ∧ Paired (Py.R K Z) xs l) ps m → ∀ a ∈ ps, ∃ u, H a = some u := by
      intro ps m h
      induction h with
      | nil => intro a ha; cases ha
      | cons r t ih =>
        intro a ha
        rcases List.mem_cons.mp ha with rfl | ha
        · obtain ⟨xs, hx, _⟩ := r; exact ⟨_, hx⟩
        · exact ih a ha
    exact key o.inn a ha
theorem OwnN.step {α : Type} [Py α] {p : Addr} {ps : List Addr} {m : List (List α)} (o : OwnN K H0 Z H p ps m) (st : Step Z H Z' H') : OwnN K H0 Z' H' p ps m :=
  ⟨st.hh _ _ o.top, Paired.pImp (fun a l ⟨xs, h, pr⟩ => ⟨xs, st.hh _ _ h, Paired.pImp (fun _ _ r => Py.mono st.zz r) pr⟩) o.inn, o.nd,
   fun a ha => let ⟨u, hu⟩ := o.stands a ha; (st.fr _ _ hu).trans (o.nz a ha), o.n0⟩
theorem pairFar {α : Type} [Py α] {q : Addr} {u : HO} : ∀ {ps : List Addr} {m : List (List α)}, (∀ a ∈ ps, a ≠ q) → Paired (fun a l => ∃ xs, H a = some (.lst xs) ∧ Paired (Py.R K Z) xs l) ps m → Paired (fun a l => ∃ xs, upd H q u a = some (.lst xs) ∧ Paired (Py.R K Z) xs l) ps m
  | _, _, _, .nil => .nil
  | _, _, h, .cons ⟨xs, h1, h2⟩ t => .cons ⟨xs, by rw [upd_ne (h _ List.mem_cons_self)]; exact h1, h2⟩ (pairFar (fun a ha => h a (List.mem_cons_of_mem _ ha)) t)
theorem OwnN.far {α : Type} [Py α] {p q : Addr} {ps : List Addr} {u : HO} {m : List (List α)} (o : OwnN K H0 Z H p ps m) (ne : ∀ a ∈ p :: ps, a ≠ q) : OwnN K H0 Z (upd H q u) p ps m :=
  ⟨by rw [upd_ne (ne p List.mem_cons_self)]; exact o.top, pairFar (fun a ha => ne a (List.mem_cons_of_mem _ ha)) o.inn, o.nd, o.nz, o.n0⟩
theorem OwnN.len {α : Type} [Py α] {p : Addr} {ps : List Addr} {m : List (List α)} (o : OwnN K H0 Z H p ps m) : ps.length = m.length := o.inn.pLen
theorem pairSet {α : Type} [Py α] {a : Addr} {u : HO} {l' : List α} (hl : ∃ xs, upd H a u a = some (.lst xs) ∧ Paired (Py.R K Z) xs l') : ∀ (ps : List Addr) (m : List (List α)) (j : Nat), ps.Nodup → ps[j]? = some a → Paired (fun a l => ∃ xs, H a = some (.lst xs) ∧ Paired (Py.R K Z) xs l) ps m → Paired (fun b l => ∃ xs, upd H a u b = some (.lst xs) ∧ Paired (Py.R K Z) xs l) ps (m.set j l')
  | _, _, _, _, _, .nil => .nil
  | b :: r, l :: n, 0, hn, hj, .cons h t => by
    have e : b = a := by simpa using hj
    subst e
    exact .cons hl (pairFar (fun c hb e => (List.nodup_cons.mp hn).1 (e ▸ hb)) t)
  | b :: r, l :: n, j + 1, hn, hj, .cons h t => by
    have hj2 : r[j]? = some a := by simpa using hj
    have ne : b ≠ a := fun e => (List.nodup_cons.mp hn).1 (e ▸ List.mem_of_getElem? hj2)
    obtain ⟨xs, h1, h2⟩ := h
    exact .cons ⟨xs, by rw [upd_ne ne]; exact h1, h2⟩ (pairSet hl r n j (List.nodup_cons.mp hn).2 hj2 t)
theorem OwnN.at {α : Type} [Py α] {p : Addr} {ps : List Addr} {m : List (List α)} {i : Int} (o : OwnN K H0 Z H p ps m) (hi : inR m.length i) :
    ∃ a, a ∈ ps ∧ atI (ps.map V.ref) i = some (.ref a) ∧ Own K H0 Z H a (getI m i) ∧ ∀ u l', Own K H0 Z (upd H a u) a l' → OwnN K H0 Z (upd H a u) p ps (setI m i l') := by
  obtain ⟨j, hj, hl⟩ := ixN_some hi
  have hps : j < ps.length := by rw [o.len]; exact hl
  have e1 : ps[j]? = some ps[j] := List.getElem?_eq_getElem hps
  have em : m[j]? = some (getI m i) := by
    have h := atI_get hi
    unfold atI at h
    rw [hj] at h
    exact h
  refine ⟨ps[j], List.getElem_mem hps, ?_, ?_, fun u l' ow => ?_⟩
  · unfold atI
    rw [List.length_map, o.len, hj]
    show (ps.map V.ref)[j]? = _
    rw [List.getElem?_map, e1]
    rfl
  · obtain ⟨b, hb, xs, h1, h2⟩ := o.inn.pAt em
    rw [e1] at hb
    cases hb
    exact ⟨⟨xs, h1, h2⟩, o.nz _ (List.mem_cons_of_mem _ (List.getElem_mem hps)), o.n0 _ (List.mem_cons_of_mem _ (List.getElem_mem hps))⟩
  · have hn := List.nodup_cons.mp o.nd
    have e2 : setI m i l' = m.set j l' := by unfold setI; rw [hj]
    rw [e2]
    exact ⟨by rw [upd_ne (fun e => hn.1 (by rw [e]; exact List.getElem_mem hps))]; exact o.top, pairSet ow.ex ps m j hn.2 e1 o.inn, o.nd, o.nz, o.n0⟩
/-- the inner lists told, the outer one's own -/
def tellL (Z H : Hp) (ps : List Addr) : Hp := fun q => if q ∈ ps then H q else Z q
theorem tellL_same {ps : List Addr} (h : ∀ a ∈ ps, Z a = none) : Same Z (tellL Z H ps) := fun b u e => by
  unfold tellL
  rw [if_neg (fun hb => by rw [h b hb] at e; cases e)]
  exact e
theorem tellL_step {ps : List Addr} (c : Step Z0 H0 Z H) (h : ∀ a ∈ ps, Z a = none) (h0 : ∀ a ∈ ps, H0 a = none) : Step Z0 H0 (tellL Z H ps) H :=
  ⟨c.hh, c.zz.trans (tellL_same h), fun b u e => by
    unfold tellL at e
    split at e
    · exact e
    · exact c.zh b u e, fun a o e => by
    unfold tellL
    rw [if_neg (fun ha => by rw [h0 a ha] at e; cases e)]
    exact c.fr a o e⟩
theorem pairTell {α : Type} [Py α] {qs : List Addr} (s : Same Z (tellL Z H qs)) : ∀ {ps : List Addr} {m : List (List α)}, (∀ a ∈ ps, a ∈ qs) → Paired (fun a l => ∃ xs, H a = some (.lst xs) ∧ Paired (Py.R K Z) xs l) ps m → Paired (Py.R K (tellL Z H qs)) (ps.map V.ref) m
  | _, _, _, .nil => .nil
  | a :: _, _, h, .cons ⟨xs, h1, h2⟩ t => .cons ⟨a, xs, rfl, by unfold tellL; rw [if_pos (h a List.mem_cons_self)]; exact h1, Paired.pImp (fun _ _ r => Py.mono s r) h2⟩ (pairTell s (fun b hb => h b (List.mem_cons_of_mem _ hb)) t)
theorem OwnN.own {α : Type} [Py α] {p : Addr} {ps : List Addr} {m : List (List α)} (o : OwnN K H0 Z H p ps m) (c : Step Z0 H0 Z H) : ∃ Z', Step Z0 H0 Z' H ∧ Same Z Z' ∧ Own K H0 Z' H p m ∧ ∀ q, q ∉ ps → Z' q = Z q := by
  have hz : ∀ a ∈ ps, Z a = none := fun a ha => o.nz a (List.mem_cons_of_mem _ ha)
  have s := tellL_same (H := H) hz
  refine ⟨tellL Z H ps, tellL_step c hz (fun a ha => o.n0 a (List.mem_cons_of_mem _ ha)), s, ⟨⟨_, o.top, pairTell s (fun _ h => h) o.inn⟩, ?_, o.n0 p List.mem_cons_self⟩, fun q hq => ?_⟩
  · unfold tellL
    rw [if_neg (List.nodup_cons.mp o.nd).1]
    exact o.nz p List.mem_cons_self
  · unfold tellL
    rw [if_neg hq]
theorem OwnN.tell {α : Type} [Py α] {p : Addr} {ps : List Addr} {m : List (List α)} (o : OwnN K H0 Z H p ps m) (c : Step Z0 H0 Z H) : ∃ Z', Step Z0 H0 Z' H ∧ Same Z Z' ∧ Py.R K Z' (.ref p) m ∧ ∀ q, q ∉ p :: ps → Z' q = Z q := by
  obtain ⟨Z1, c1, s1, o1, f1⟩ := o.own c
  obtain ⟨Z2, c2, s2, r, f2⟩ := o1.tell c1
  refine ⟨Z2, c2, s1.trans s2, r, fun q hq => ?_⟩
  rw [List.mem_cons, not_or] at hq
  rw [f2 q hq.1, f1 q hq.2]
theorem OwnN.ret {α : Type} [Py α] {p : Addr} {ps : List Addr} {m : List (List α)} (o : OwnN K H0 Z H p ps m) (c : Step Z0 H0 Z H) (k : New K Z0 H0 Q m) : Q (.ref p) H := by
  obtain ⟨Z1, c1, s1, o1, f1⟩ := o.own c
  exact o1.ret c1 k
/-- a new list of new lists comes -/
def NewN {α : Type} [Py α] (K : Fr) (Z H : Hp) (Q : VK) (m : List (List α)) : Prop :=
  ∀ p ps Z' H', Step Z H Z' H' → (∀ a ∈ p :: ps, H a = none) → OwnN K H Z' H' p ps m → Q (.ref p) H'
theorem NewN.own {α : Type} [Py α] {m : List (List α)} (c : Step Z0 H0 Z H) (k : ∀ p ps Z' H', Step Z H Z' H' → (∀ a ∈ p :: ps, H a = none) → OwnN K H0 Z' H' p ps m → Q (.ref p) H') : NewN K Z H Q m := fun p ps Z' H' st hn o =>
  k p ps Z' H' st hn ⟨o.top, o.inn, o.nd, o.nz, fun a ha => c.hh.free (hn a ha)⟩
theorem NewN.new {α : Type} [Py α] {m : List (List α)} (zh : Same Z H) (k : New K Z H Q m) : NewN K Z H Q m := fun p ps Z' H' st hn o => o.ret st k
theorem NewN.gen {α : Type} [Py α] {m : List (List α)} (k : ∀ n, n = m → NewN K Z H Q n) : NewN K Z H Q m := k m rfl
theorem NewN.after {α : Type} [Py α] {m : List (List α)} (c : Step Z0 H0 Z H) (k : NewN K Z0 H0 Q m) : NewN K Z H Q m := fun p ps Z' H' st hn o =>
  k p ps Z' H' (c.trans st) (fun a ha => c.hh.free (hn a ha)) ⟨o.top, o.inn, o.nd, o.nz, fun a ha => c.hh.free (hn a ha)⟩
theorem OwnN.ne_old {α : Type} [Py α] {p q : Addr} {ps : List Addr} {m : List (List α)} {u : HO} (o : OwnN K H0 Z H p ps m) (h : H q = none) : ∀ a ∈ p :: ps, a ≠ q := fun a ha e => by
  obtain ⟨u, hu⟩ := o.stands a ha
  rw [e, h] at hu; cases hu
end
/-! ### [[] for ..] : a comprehension of new lists -/
section
variable {γ β : Type} [Py β] {K : Fr} {J : It} {g : TG} {te : TE} {σ : L2.St} {H Z : Hp} {L : List γ} {Y : γ → V → Hp → Hp → Prop} {vs : List Nat} {Q : VK}
end
end Cd
namespace Cd
open PySem L2
theorem OwnN.zfar {K : Fr} {Z H Z' H0 : Hp} {α : Type} [Py α] {p : Addr} {ps : List Addr} {m : List (List α)} (o : OwnN K H0 Z H p ps m) (s : Same Z Z') (hz : ∀ a ∈ p :: ps, Z' a = Z a) : OwnN K H0 Z' H p ps m :=
  ⟨o.top, Paired.pImp (fun a l ⟨xs, h, pr⟩ => ⟨xs, h, Paired.pImp (fun _ _ r => Py.mono s r) pr⟩) o.inn, o.nd, fun a ha => (hz a ha).trans (o.nz a ha), o.n0⟩
end Cd

set_option Elab.async false
set_option linter.all false
set_option maxRecDepth 100000
set_option maxHeartbeats 4000000
namespace Cd
open PySem L2

/-! ### stable sorting -/
theorem list_irr (a : List Nat) : ¬ a < a := List.lt_irrefl a
section
variable {α : Type} (key : α → List Nat)
def Srt (l : List α) : Prop := l.Pairwise (fun a b => ¬ key b < key a)
def cls (k : List Nat) (l : List α) : List α := l.filter (fun z => decide (key z = k))
end


end Cd
namespace Cd
open PySem L2
section
variable {X : Cx} {K : Fr}
theorem ix_listK (e : X.K = K) : IxR X (rIxL K) := by subst e; exact ix_list
theorem ix_tupK (e : X.K = K) : IxR X (rIxT K) := by subst e; exact ix_tup
theorem call_lenK (e : X.K = K) : CallR X (.builtin "len") (rLenQ K) := by subst e; exact call_lenQ
theorem call_listK (e : X.K = K) : CallR X (.type "list") (rListQ K) := by subst e; exact call_listQ
end
end Cd
namespace Cd
open PySem L2
end Cd
namespace Cd
open PySem L2
def tNoK : L2.TO := fun _ H Q => True ∧ Q none H
theorem po_noK {X : Cx} : PO X none tNoK := ⟨fun pins s σ H Q I h => po_none.run pins s σ H Q I h.2⟩
end Cd
namespace Cd
open PySem L2 PyProof.Rows
/-! ### bits -/
def bitsOk (s : Scr) : Prop := ∀ z ∈ s.ns, Builtin.Int.intBits z ≤ 1048576
theorem log_lt {i : Int} {k : Nat} (h : i.natAbs < 2 ^ k) (hk : k ≤ 1920) (h0 : 0 < k) : i.natAbs.log2 < 1920 := by
  by_cases e : i.natAbs = 0
  · rw [e]; decide
  · have := (Nat.log2_lt e).mpr h
    omega
end Cd
namespace Cd
end Cd
namespace Cd
open PySem L2 PyProof.Rows
/-! ### // by a divisor of any small length -/
def CDivC (_ j : Int) : Prop := 0 < j ∧ j.natAbs.log2 < 9000
end Cd

set_option Elab.async false
set_option linter.all false
set_option maxRecDepth 100000
set_option maxHeartbeats 4000000
namespace Cd
open PySem L2 PyProof.Rows
/-! ### sorted pairs of whole numbers -/
def leP (p q : Int × Int) : Bool := decide (p.1 < q.1 ∨ (p.1 = q.1 ∧ p.2 ≤ q.2))
def sortP (l : List (Int × Int)) : List (Int × Int) := l.mergeSort leP
section
variable {K : Fr} {Z H : Hp} {Q : VK}
open Classical in
/-- what a pair stands for -/
noncomputable def kOf (K : Fr) (Z : Hp) (v : V) : Int × Int := if h : ∃ p : Int × Int, Py.R K Z v p then h.choose else (0, 0)
end
end Cd

set_option Elab.async false
set_option linter.all false
set_option maxRecDepth 100000
set_option maxHeartbeats 4000000
namespace Cd
open PySem L2 PyProof.Rows
/-! ### lists of a written length whose items are of unlike kinds -/
structure HL2 (α β : Type) where
  x1 : α
  x2 : β
deriving DecidableEq, Inhabited
instance {α β : Type} [Py α] [Py β] : Py (HL2 α β) where
  R K Z v p := ∃ a y1 y2, v = .ref a ∧ Z a = some (.lst [y1, y2]) ∧ Py.R K Z y1 p.x1 ∧ Py.R K Z y2 p.x2
  mono := fun {K Z Z' v l} s h => by
    obtain ⟨a, y1, y2, e, hz, h1, h2⟩ := h
    exact ⟨a, y1, y2, e, s _ _ hz, Py.mono s h1, Py.mono s h2⟩
section
variable {K : Fr} {Z H : Hp} {Q : VK} {α β : Type} [Py α] [Py β]
theorem Pt.hl2 {v : V} {l : HL2 α β} (zh : Same Z H) (h : Py.R K Z v l) : Pt K H v "list" := by
  obtain ⟨a, y1, y2, rfl, hz, _⟩ := h
  exact .of (.base (.lst (zh _ _ hz)))
end
section
variable {α β : Type} [Py α] [DecidableEq α] [PyD α] [Py β] [DecidableEq β] [PyD β]
instance : PyD (HL2 α β) where
  d p := .list [PyD.d p.x1, PyD.d p.x2]
  dp := fun zh h => by
    obtain ⟨a, y1, y2, rfl, hz, h1, h2⟩ := h
    exact .lst (SqL.of (zh _ _ hz)) (.cons (PyD.dp zh h1) (.cons (PyD.dp zh h2) .nil))
  eqv := fun p q => by
    show (PyData.eqv (PyD.d p.x1) (PyD.d q.x1) && (PyData.eqv (PyD.d p.x2) (PyD.d q.x2) && PyData.eqvAll [] [])) = _
    rw [PyD.eqv, PyD.eqv, show PyData.eqvAll [] [] = true by simp [PyData.eqvAll], Bool.and_true, andD]
    obtain ⟨c0, c1⟩ := p
    obtain ⟨e0, e1⟩ := q
    simp
  dep := (max (PyD.dep α) (PyD.dep β)) + 1
  depth := fun p => by
    show (max (PyD.d p.x1).depth (max (PyD.d p.x2).depth 0)) + 1 ≤ _
    have h1 := PyD.depth p.x1
    have h2 := PyD.depth p.x2
    omega
instance : PyN (HL2 α β) := ⟨fun _ => by simp [PyD.d, PyData.eqv], fun _ => by simp [PyD.d, PyData.eqv]⟩
end
instance {α β : Type} [Py α] [Py β] : PtT (HL2 α β) := ⟨"list", fun zh h => Pt.hl2 zh h⟩
structure HL3 (α β γ : Type) where
  x1 : α
  x2 : β
  x3 : γ
deriving DecidableEq, Inhabited
instance {α β γ : Type} [Py α] [Py β] [Py γ] : Py (HL3 α β γ) where
  R K Z v p := ∃ a y1 y2 y3, v = .ref a ∧ Z a = some (.lst [y1, y2, y3]) ∧ Py.R K Z y1 p.x1 ∧ Py.R K Z y2 p.x2 ∧ Py.R K Z y3 p.x3
  mono := fun {K Z Z' v l} s h => by
    obtain ⟨a, y1, y2, y3, e, hz, h1, h2, h3⟩ := h
    exact ⟨a, y1, y2, y3, e, s _ _ hz, Py.mono s h1, Py.mono s h2, Py.mono s h3⟩
section
variable {K : Fr} {Z H : Hp} {Q : VK} {α β γ : Type} [Py α] [Py β] [Py γ]
theorem Pt.hl3 {v : V} {l : HL3 α β γ} (zh : Same Z H) (h : Py.R K Z v l) : Pt K H v "list" := by
  obtain ⟨a, y1, y2, y3, rfl, hz, _⟩ := h
  exact .of (.base (.lst (zh _ _ hz)))
end
section
variable {α β γ : Type} [Py α] [DecidableEq α] [PyD α] [Py β] [DecidableEq β] [PyD β] [Py γ] [DecidableEq γ] [PyD γ]
instance : PyD (HL3 α β γ) where
  d p := .list [PyD.d p.x1, PyD.d p.x2, PyD.d p.x3]
  dp := fun zh h => by
    obtain ⟨a, y1, y2, y3, rfl, hz, h1, h2, h3⟩ := h
    exact .lst (SqL.of (zh _ _ hz)) (.cons (PyD.dp zh h1) (.cons (PyD.dp zh h2) (.cons (PyD.dp zh h3) .nil)))
  eqv := fun p q => by
    show (PyData.eqv (PyD.d p.x1) (PyD.d q.x1) && (PyData.eqv (PyD.d p.x2) (PyD.d q.x2) && (PyData.eqv (PyD.d p.x3) (PyD.d q.x3) && PyData.eqvAll [] []))) = _
    rw [PyD.eqv, PyD.eqv, PyD.eqv, show PyData.eqvAll [] [] = true by simp [PyData.eqvAll], Bool.and_true, andD, andD]
    obtain ⟨c0, c1, c2⟩ := p
    obtain ⟨e0, e1, e2⟩ := q
    simp
  dep := (max (PyD.dep α) (max (PyD.dep β) (PyD.dep γ))) + 1
  depth := fun p => by
    show (max (PyD.d p.x1).depth (max (PyD.d p.x2).depth (max (PyD.d p.x3).depth 0))) + 1 ≤ _
    have h1 := PyD.depth p.x1
    have h2 := PyD.depth p.x2
    have h3 := PyD.depth p.x3
    omega
instance : PyN (HL3 α β γ) := ⟨fun _ => by simp [PyD.d, PyData.eqv], fun _ => by simp [PyD.d, PyData.eqv]⟩
end
instance {α β γ : Type} [Py α] [Py β] [Py γ] : PtT (HL3 α β γ) := ⟨"list", fun zh h => Pt.hl3 zh h⟩
structure HL4 (α β γ δ : Type) where
  x1 : α
  x2 : β
  x3 : γ
  x4 : δ
deriving DecidableEq, Inhabited
instance {α β γ δ : Type} [Py α] [Py β] [Py γ] [Py δ] : Py (HL4 α β γ δ) where
  R K Z v p := ∃ a y1 y2 y3 y4, v = .ref a ∧ Z a = some (.lst [y1, y2, y3, y4]) ∧ Py.R K Z y1 p.x1 ∧ Py.R K Z y2 p.x2 ∧ Py.R K Z y3 p.x3 ∧ Py.R K Z y4 p.x4
  mono := fun {K Z Z' v l} s h => by
    obtain ⟨a, y1, y2, y3, y4, e, hz, h1, h2, h3, h4⟩ := h
    exact ⟨a, y1, y2, y3, y4, e, s _ _ hz, Py.mono s h1, Py.mono s h2, Py.mono s h3, Py.mono s h4⟩
section
variable {K : Fr} {Z H : Hp} {Q : VK} {α β γ δ : Type} [Py α] [Py β] [Py γ] [Py δ]
theorem Pt.hl4 {v : V} {l : HL4 α β γ δ} (zh : Same Z H) (h : Py.R K Z v l) : Pt K H v "list" := by
  obtain ⟨a, y1, y2, y3, y4, rfl, hz, _⟩ := h
  exact .of (.base (.lst (zh _ _ hz)))
end
section
variable {α β γ δ : Type} [Py α] [DecidableEq α] [PyD α] [Py β] [DecidableEq β] [PyD β] [Py γ] [DecidableEq γ] [PyD γ] [Py δ] [DecidableEq δ] [PyD δ]
instance : PyD (HL4 α β γ δ) where
  d p := .list [PyD.d p.x1, PyD.d p.x2, PyD.d p.x3, PyD.d p.x4]
  dp := fun zh h => by
    obtain ⟨a, y1, y2, y3, y4, rfl, hz, h1, h2, h3, h4⟩ := h
    exact .lst (SqL.of (zh _ _ hz)) (.cons (PyD.dp zh h1) (.cons (PyD.dp zh h2) (.cons (PyD.dp zh h3) (.cons (PyD.dp zh h4) .nil))))
  eqv := fun p q => by
    show (PyData.eqv (PyD.d p.x1) (PyD.d q.x1) && (PyData.eqv (PyD.d p.x2) (PyD.d q.x2) && (PyData.eqv (PyD.d p.x3) (PyD.d q.x3) && (PyData.eqv (PyD.d p.x4) (PyD.d q.x4) && PyData.eqvAll [] [])))) = _
    rw [PyD.eqv, PyD.eqv, PyD.eqv, PyD.eqv, show PyData.eqvAll [] [] = true by simp [PyData.eqvAll], Bool.and_true, andD, andD, andD]
    obtain ⟨c0, c1, c2, c3⟩ := p
    obtain ⟨e0, e1, e2, e3⟩ := q
    simp
  dep := (max (PyD.dep α) (max (PyD.dep β) (max (PyD.dep γ) (PyD.dep δ)))) + 1
  depth := fun p => by
    show (max (PyD.d p.x1).depth (max (PyD.d p.x2).depth (max (PyD.d p.x3).depth (max (PyD.d p.x4).depth 0)))) + 1 ≤ _
    have h1 := PyD.depth p.x1
    have h2 := PyD.depth p.x2
    have h3 := PyD.depth p.x3
    have h4 := PyD.depth p.x4
    omega
instance : PyN (HL4 α β γ δ) := ⟨fun _ => by simp [PyD.d, PyData.eqv], fun _ => by simp [PyD.d, PyData.eqv]⟩
end
instance {α β γ δ : Type} [Py α] [Py β] [Py γ] [Py δ] : PtT (HL4 α β γ δ) := ⟨"list", fun zh h => Pt.hl4 zh h⟩
structure HL5 (α β γ δ ε : Type) where
  x1 : α
  x2 : β
  x3 : γ
  x4 : δ
  x5 : ε
deriving DecidableEq, Inhabited
instance {α β γ δ ε : Type} [Py α] [Py β] [Py γ] [Py δ] [Py ε] : Py (HL5 α β γ δ ε) where
  R K Z v p := ∃ a y1 y2 y3 y4 y5, v = .ref a ∧ Z a = some (.lst [y1, y2, y3, y4, y5]) ∧ Py.R K Z y1 p.x1 ∧ Py.R K Z y2 p.x2 ∧ Py.R K Z y3 p.x3 ∧ Py.R K Z y4 p.x4 ∧ Py.R K Z y5 p.x5
  mono := fun {K Z Z' v l} s h => by
    obtain ⟨a, y1, y2, y3, y4, y5, e, hz, h1, h2, h3, h4, h5⟩ := h
    exact ⟨a, y1, y2, y3, y4, y5, e, s _ _ hz, Py.mono s h1, Py.mono s h2, Py.mono s h3, Py.mono s h4, Py.mono s h5⟩
section
variable {K : Fr} {Z H : Hp} {Q : VK} {α β γ δ ε : Type} [Py α] [Py β] [Py γ] [Py δ] [Py ε]
theorem Pt.hl5 {v : V} {l : HL5 α β γ δ ε} (zh : Same Z H) (h : Py.R K Z v l) : Pt K H v "list" := by
  obtain ⟨a, y1, y2, y3, y4, y5, rfl, hz, _⟩ := h
  exact .of (.base (.lst (zh _ _ hz)))
end
section
variable {α β γ δ ε : Type} [Py α] [DecidableEq α] [PyD α] [Py β] [DecidableEq β] [PyD β] [Py γ] [DecidableEq γ] [PyD γ] [Py δ] [DecidableEq δ] [PyD δ] [Py ε] [DecidableEq ε] [PyD ε]
instance : PyD (HL5 α β γ δ ε) where
  d p := .list [PyD.d p.x1, PyD.d p.x2, PyD.d p.x3, PyD.d p.x4, PyD.d p.x5]
  dp := fun zh h => by
    obtain ⟨a, y1, y2, y3, y4, y5, rfl, hz, h1, h2, h3, h4, h5⟩ := h
    exact .lst (SqL.of (zh _ _ hz)) (.cons (PyD.dp zh h1) (.cons (PyD.dp zh h2) (.cons (PyD.dp zh h3) (.cons (PyD.dp zh h4) (.cons (PyD.dp zh h5) .nil)))))
  eqv := fun p q => by
    show (PyData.eqv (PyD.d p.x1) (PyD.d q.x1) && (PyData.eqv (PyD.d p.x2) (PyD.d q.x2) && (PyData.eqv (PyD.d p.x3) (PyD.d q.x3) && (PyData.eqv (PyD.d p.x4) (PyD.d q.x4) && (PyData.eqv (PyD.d p.x5) (PyD.d q.x5) && PyData.eqvAll [] []))))) = _
    rw [PyD.eqv, PyD.eqv, PyD.eqv, PyD.eqv, PyD.eqv, show PyData.eqvAll [] [] = true by simp [PyData.eqvAll], Bool.and_true, andD, andD, andD, andD]
    obtain ⟨c0, c1, c2, c3, c4⟩ := p
    obtain ⟨e0, e1, e2, e3, e4⟩ := q
    simp
  dep := (max (PyD.dep α) (max (PyD.dep β) (max (PyD.dep γ) (max (PyD.dep δ) (PyD.dep ε))))) + 1
  depth := fun p => by
    show (max (PyD.d p.x1).depth (max (PyD.d p.x2).depth (max (PyD.d p.x3).depth (max (PyD.d p.x4).depth (max (PyD.d p.x5).depth 0))))) + 1 ≤ _
    have h1 := PyD.depth p.x1
    have h2 := PyD.depth p.x2
    have h3 := PyD.depth p.x3
    have h4 := PyD.depth p.x4
    have h5 := PyD.depth p.x5
    omega
instance : PyN (HL5 α β γ δ ε) := ⟨fun _ => by simp [PyD.d, PyData.eqv], fun _ => by simp [PyD.d, PyData.eqv]⟩
end
instance {α β γ δ ε : Type} [Py α] [Py β] [Py γ] [Py δ] [Py ε] : PtT (HL5 α β γ δ ε) := ⟨"list", fun zh h => Pt.hl5 zh h⟩
end Cd

set_option Elab.async false
set_option linter.all false
set_option maxRecDepth 100000
set_option maxHeartbeats 4000000
namespace Cd
open PySem L2 PyProof.Rows
/-! ### walks over one's own list (the body leaves it) -/
section
variable {K : Fr} {tb : TS} {D : Ends} {σ : L2.St} {H Z H0 : Hp}
end
end Cd

set_option Elab.async false
set_option linter.all false
set_option maxRecDepth 100000
set_option maxHeartbeats 4000000
namespace Cd
open PySem L2 PyProof.Rows
/-! ### dicts: keys are whole numbers or texts -/
section
variable {κ α : Type} [DecidableEq κ]
def dGet (m : List (κ × α)) (k : κ) : Option α := (m.find? fun p => decide (p.1 = k)).map (·.2)
def dPut (m : List (κ × α)) (k : κ) (a : α) : List (κ × α) := if (m.any fun p => decide (p.1 = k)) = true then m.map (fun p => if p.1 = k then (p.1, a) else p) else m ++ [(k, a)]
def dDrop (m : List (κ × α)) (k : κ) : List (κ × α) := m.filter fun p => decide (p.1 ≠ k)
theorem dGet_pos {p : κ × α} {r : List (κ × α)} {k : κ} (e : p.1 = k) : dGet (p :: r) k = some p.2 := by simp [dGet, List.find?_cons, e]
theorem dGet_neg {p : κ × α} {r : List (κ × α)} {k : κ} (e : ¬ p.1 = k) : dGet (p :: r) k = dGet r k := by simp [dGet, List.find?_cons, e]
theorem dGet_any (k : κ) : ∀ m : List (κ × α), (m.any fun p => decide (p.1 = k)) = (dGet m k).isSome
  | [] => rfl
  | p :: r => by
    rw [List.any_cons]
    by_cases e : p.1 = k
    · simp only [dGet_pos e, decide_eq_true e, Bool.true_or, Option.isSome_some]
    · rw [dGet_neg e, decide_eq_false e, Bool.false_or]; exact dGet_any k r
theorem dGet_isSome (m : List (κ × α)) (k : κ) : (dGet m k).isSome = decide (k ∈ m.map (·.1)) := by
  induction m with
  | nil => simp [dGet]
  | cons p r ih =>
    by_cases e : p.1 = k
    · rw [dGet_pos e]; simp [e]
    · rw [dGet_neg e, ih]
      have e2 : ¬ k = p.1 := fun z => e z.symm
      simp [e2]
theorem dPut_len (m : List (κ × α)) (k : κ) (a : α) : (dPut m k a).length ≤ m.length + 1 := by
  unfold dPut
  split
  · rw [List.length_map]; omega
  · rw [List.length_append]; exact Nat.le_refl _
theorem dPut_keys (m : List (κ × α)) (k : κ) (a : α) : (dPut m k a).map (·.1) = if k ∈ m.map (·.1) then m.map (·.1) else m.map (·.1) ++ [k] := by
  unfold dPut
  rw [dGet_any, dGet_isSome]
  by_cases h : k ∈ m.map (·.1)
  · rw [if_pos (decide_eq_true h), if_pos h, List.map_map]
    apply List.map_congr_left
    intro p _
    show (if p.1 = k then (p.1, a) else p).1 = p.1
    split <;> rfl
  · rw [if_neg (by simpa using h), if_neg h, List.map_append]
    rfl
theorem dPut_nodup {m : List (κ × α)} {k : κ} {a : α} (h : (m.map (·.1)).Nodup) : ((dPut m k a).map (·.1)).Nodup := by
  rw [dPut_keys]
  split
  · exact h
  · rename_i hk
    rw [List.nodup_append]
    refine ⟨h, by simp, fun x hx y hy => ?_⟩
    rw [List.mem_singleton] at hy
    subst hy
    exact fun e => hk (e ▸ hx)
/-- a dict, its entries by their coming -/
structure Dct (κ α : Type) where
  kv : List (κ × α)
deriving DecidableEq, Inhabited
end
class Kt (κ : Type) [Sc κ] where
  key : κ → Key
  inj : ∀ {a b : κ}, key a = key b → a = b
  emb_is : ∀ k : κ, kV (key k) = Sc.emb k
instance : Kt Int := { key := Sum.inl, inj := fun h => Sum.inl.inj h, emb_is := fun _ => rfl }
instance : Kt Str := { key := Sum.inr, inj := fun h => Sum.inr.inj h, emb_is := fun _ => rfl }
section
variable {κ α : Type} [Sc κ] [DecidableEq κ] [Kt κ] [Py α]
def EntK (K : Fr) (Z : Hp) (p : Key × V) (q : κ × α) : Prop := p.1 = Kt.key q.1 ∧ Py.R K Z p.2 q.2
theorem EntK.mono {K : Fr} {Z Z' : Hp} (s : Same Z Z') {p : Key × V} {q : κ × α} (h : EntK K Z p q) : EntK K Z' p q := ⟨h.1, Py.mono s h.2⟩
instance : Py (Dct κ α) where
  R K Z v d := ∃ a kvs, v = .ref a ∧ Z a = some (.dK kvs) ∧ Paired (EntK K Z) kvs d.kv
  mono := fun {K Z Z' v l} s h => by
    obtain ⟨a, xs, e, hz, p⟩ := h
    exact ⟨a, xs, e, s _ _ hz, Paired.pImp (fun _ _ r => r.mono s) p⟩
theorem ent_get {K : Fr} {Z : Hp} : ∀ {kvs : List (Key × V)} {m : List (κ × α)} (k : κ), Paired (EntK K Z) kvs m → (valV kvs (Kt.key k) = none ∧ dGet m k = none) ∨ ∃ v a, valV kvs (Kt.key k) = some v ∧ dGet m k = some a ∧ Py.R K Z v a
  | _, _, k, .nil => .inl ⟨rfl, rfl⟩
  | p :: _, q :: _, k, .cons r t => by
    by_cases e : q.1 = k
    · exact .inr ⟨p.2, q.2, valV_pos (r.1.trans (by rw [e])), dGet_pos e, r.2⟩
    · rw [valV_neg (fun h => e (Kt.inj (r.1.symm.trans h))), dGet_neg e]
      exact ent_get k t
theorem ent_isSome {K : Fr} {Z : Hp} {kvs : List (Key × V)} {m : List (κ × α)} (k : κ) (p : Paired (EntK K Z) kvs m) : (valV kvs (Kt.key k)).isSome = (dGet m k).isSome := by
  rcases ent_get k p with ⟨h1, h2⟩ | ⟨v, a, h1, h2, _⟩ <;> rw [h1, h2] <;> rfl
theorem ent_set {K : Fr} {Z : Hp} {k : κ} {v : V} {a : α} (hv : Py.R K Z v a) : ∀ {kvs : List (Key × V)} {m : List (κ × α)}, Paired (EntK K Z) kvs m → Paired (EntK K Z) (kvs.map fun p => if p.1 = Kt.key k then (p.1, v) else p) (m.map fun p => if p.1 = k then (p.1, a) else p)
  | _, _, .nil => .nil
  | p :: _, q :: _, .cons r t => by
    rw [List.map_cons, List.map_cons]
    refine .cons ?_ (ent_set hv t)
    by_cases e : q.1 = k
    · rw [if_pos e, if_pos (r.1.trans (by rw [e]))]
      exact ⟨r.1, hv⟩
    · rw [if_neg e, if_neg (fun h => e (Kt.inj (r.1.symm.trans h)))]
      exact r
theorem ent_put {K : Fr} {Z : Hp} {kvs : List (Key × V)} {m : List (κ × α)} {k : κ} {v : V} {a : α} (p : Paired (EntK K Z) kvs m) (hv : Py.R K Z v a) : Paired (EntK K Z) (putK kvs (Kt.key k) v) (dPut m k a) := by
  unfold putK dPut
  rw [valV_any, dGet_any, ent_isSome k p]
  split
  · exact ent_set hv p
  · exact p.pApp (.cons ⟨rfl, hv⟩ .nil)
theorem ent_keys {K : Fr} {Z : Hp} : ∀ {kvs : List (Key × V)} {m : List (κ × α)}, Paired (EntK K Z) kvs m → kvs.map (·.1) = m.map fun q => Kt.key q.1
  | _, _, .nil => rfl
  | _, _, .cons r t => by rw [List.map_cons, List.map_cons, r.1, ent_keys t]
end
/-! ### a dict of one's own -/
section
variable {κ α : Type} [Sc κ] [DecidableEq κ] [Kt κ] [Py α] {K : Fr} {Z H Z0 H0 Z' H' : Hp} {Q : VK}
structure OwnD (K : Fr) (H0 Z H : Hp) (l : Addr) (m : Dct κ α) : Prop where
  ex : ∃ kvs, H l = some (.dK kvs) ∧ Paired (EntK K Z) kvs m.kv
  nz : Z l = none
  n0 : H0 l = none
theorem OwnD.step {l : Addr} {m : Dct κ α} (o : OwnD K H0 Z H l m) (st : Step Z H Z' H') : OwnD K H0 Z' H' l m := by
  obtain ⟨⟨xs, h, p⟩, nz, n0⟩ := o
  exact ⟨⟨xs, st.hh _ _ h, Paired.pImp (fun _ _ r => r.mono st.zz) p⟩, (st.fr _ _ h).trans nz, n0⟩
theorem OwnD.far {l q : Addr} {u : HO} {m : Dct κ α} (o : OwnD K H0 Z H l m) (ne : l ≠ q) : OwnD K H0 Z (upd H q u) l m := by
  obtain ⟨⟨xs, h, p⟩, nz, n0⟩ := o
  exact ⟨⟨xs, by rw [upd_ne ne]; exact h, p⟩, nz, n0⟩
theorem OwnD.tell {l : Addr} {m : Dct κ α} (o : OwnD K H0 Z H l m) (c : Step Z0 H0 Z H) : ∃ Z', Step Z0 H0 Z' H ∧ Same Z Z' ∧ Py.R K Z' (.ref l) m ∧ ∀ q, q ≠ l → Z' q = Z q := by
  obtain ⟨⟨xs, h, p⟩, nz, n0⟩ := o
  obtain ⟨c', s⟩ := c.tell h nz n0
  exact ⟨_, c', s, ⟨l, xs, rfl, upd_same, Paired.pImp (fun _ _ r => r.mono s) p⟩, fun q hq => upd_ne hq⟩
theorem OwnD.zfar {l : Addr} {m : Dct κ α} (o : OwnD K H0 Z H l m) (s : Same Z Z') (hz : Z' l = Z l) : OwnD K H0 Z' H l m := by
  obtain ⟨⟨xs, h, p⟩, nz, n0⟩ := o
  exact ⟨⟨xs, h, Paired.pImp (fun _ _ r => r.mono s) p⟩, hz.trans nz, n0⟩
theorem OwnD.at {l : Addr} {m : Dct κ α} (o : OwnD K H0 Z H l m) : ∃ u, H l = some u := let ⟨⟨_, h, _⟩, _, _⟩ := o; ⟨_, h⟩
theorem OwnD.ne_new {l p : Addr} {m : Dct κ α} (o : OwnD K H0 Z H l m) (h : H p = none) : l ≠ p := let ⟨_, h1⟩ := o.at; ne_of_none h1 h
/-- a new dict comes -/
def NewD (K : Fr) (Z H : Hp) (Q : VK) (m : Dct κ α) : Prop :=
  ∀ p xs Z' H', Step Z H Z' H' → H p = none → H' p = some (.dK xs) → Z' p = none → Paired (EntK K Z') xs m.kv → Q (.ref p) H'
theorem NewD.tel {m : Dct κ α} (k : Tel K Z H Q m) : NewD K Z H Q m := fun p xs Z' H' st hp hl hz pr => by
  obtain ⟨c', s⟩ := st.tell hl hz hp
  exact k _ _ _ c' ⟨p, xs, rfl, upd_same, Paired.pImp (fun _ _ r => r.mono s) pr⟩
theorem NewD.own {m : Dct κ α} (c : Step Z0 H0 Z H) (k : ∀ p Z' H', Step Z H Z' H' → H p = none → OwnD K H0 Z' H' p m → Q (.ref p) H') : NewD K Z H Q m := fun p xs Z' H' st hp hl hz pr =>
  k p Z' H' st hp ⟨⟨xs, hl, pr⟩, hz, c.hh.free hp⟩
theorem NewD.gen {m : Dct κ α} (k : ∀ n, n = m → NewD K Z H Q n) : NewD K Z H Q m := k m rfl
theorem NewD.after {m : Dct κ α} (c : Step Z0 H0 Z H) (k : NewD K Z0 H0 Q m) : NewD K Z H Q m := fun p xs Z' H' st hp hl hz pr => k p xs Z' H' (c.trans st) (c.hh.free hp) hl hz pr
theorem NewD.lay {m : Dct κ α} {xs : List (Key × V)} (s : Same Z H) (pr : Paired (EntK K Z) xs m.kv) (k : NewD K Z H Q m) : ∀ p, H p = none → Q (.ref p) (upd H p (.dK xs)) := fun p hp =>
  k p xs Z _ (Step.own s hp) hp upd_same (s.free hp) pr
theorem OwnD.ret {p : Addr} {m : Dct κ α} (o : OwnD K H0 Z H p m) (c : Step Z0 H0 Z H) (k : NewD K Z0 H0 Q m) : Q (.ref p) H := by
  obtain ⟨⟨xs, hl, pr⟩, nz, n0⟩ := o
  exact k p xs Z H c n0 hl nz pr
/-- a dict read: told, or one's own -/
theorem DGet.r {H : Hp} {a : Addr} {kvs : List (Key × V)} {k : Key} (e : Rd H a (.dK kvs)) : DGet H a (kV k) (valV kvs k) := .inl ⟨kvs, k, e, rfl, rfl⟩
def RD (K : Fr) (Z H : Hp) (v : V) (m : Dct κ α) : Prop := ∃ a kvs, v = .ref a ∧ Rd H a (.dK kvs) ∧ Paired (EntK K Z) kvs m.kv
def RDx (K : Fr) (Z H : Hp) (v : V) (m : Dct κ α) : Prop := ∃ a kvs, v = .ref a ∧ H a = some (.dK kvs) ∧ Paired (EntK K Z) kvs m.kv
theorem RDx.own {p : Addr} {m : Dct κ α} (o : OwnD K H0 Z H p m) : RDx K Z H (.ref p) m := let ⟨⟨xs, h, pr⟩, _, _⟩ := o; ⟨p, xs, rfl, h, pr⟩
theorem RDx.tell {v : V} {m : Dct κ α} (zh : Same Z H) (h : Py.R K Z v m) : RDx K Z H v m := let ⟨a, xs, e, hz, pr⟩ := h; ⟨a, xs, e, zh _ _ hz, pr⟩
theorem RD.own {p : Addr} {m : Dct κ α} (o : OwnD K H0 Z H p m) : RD K Z H (.ref p) m := let ⟨⟨xs, h, pr⟩, _, _⟩ := o; ⟨p, xs, rfl, .inl h, pr⟩
theorem RD.tell {v : V} {m : Dct κ α} (zh : Same Z H) (h : Py.R K Z v m) : RD K Z H v m := let ⟨a, xs, e, hz, pr⟩ := h; ⟨a, xs, e, .inl (zh _ _ hz), pr⟩
/-! what the operations ask -/
def rDNewQ : Hp → VK → Prop := fun H Q => ∀ p, H p = none → Q (.ref p) (upd H p (.dK []))
def tDNewQ : TE := fun _ H Q => rDNewQ H Q
theorem pe_dnewQ {X : Cx} {pos : Pos} : PE X (.Dict [] [] pos) tDNewQ := pe_dnewK
theorem k_dnew (zh : Same Z H) (k : NewD K Z H Q (⟨[]⟩ : Dct κ α)) : rDNewQ H Q := NewD.lay zh .nil k
def rDInQ (neg : Bool) : V → V → Hp → VK → Prop := fun y x H Q => ∃ a o, x = .ref a ∧ DGet H a y o ∧ Q (.bl (if neg = true then !o.isSome else o.isSome)) H
def tDInQ (neg : Bool) (ty td : TE) : TE := fun σ H Q => ty σ H fun y H1 => td σ H1 fun x H2 => rDInQ neg y x H2 Q
theorem pc_dinQ {X : Cx} {i o : Expr} {ty td : TE} (hu : X.A.units + 1 < cLine) (hi : PE X i ty) (ho : PE X o td) : PC X .In i o (tDInQ false ty td) := pc_din hu hi ho
theorem pc_dninQ {X : Cx} {i o : Expr} {ty td : TE} (hu : X.A.units + 1 < cLine) (hi : PE X i ty) (ho : PE X o td) : PC X .NotIn i o (tDInQ true ty td) := pc_dnotin hu hi ho
theorem k_din {m : Dct κ α} {v : V} {k0 : κ} (h : RD K Z H v m) (k : Q (.bl (decide (k0 ∈ m.kv.map (·.1)))) H) : rDInQ false (Sc.emb k0) v H Q := by
  obtain ⟨a, kvs, rfl, hl, pr⟩ := h
  refine ⟨a, valV kvs (Kt.key k0), rfl, by rw [← Kt.emb_is]; exact DGet.r hl, ?_⟩
  rw [if_neg (by decide), ent_isSome k0 pr, dGet_isSome]
  exact k
theorem k_dnin {m : Dct κ α} {v : V} {k0 : κ} (h : RD K Z H v m) (k : Q (.bl (!decide (k0 ∈ m.kv.map (·.1)))) H) : rDInQ true (Sc.emb k0) v H Q := by
  obtain ⟨a, kvs, rfl, hl, pr⟩ := h
  refine ⟨a, valV kvs (Kt.key k0), rfl, by rw [← Kt.emb_is]; exact DGet.r hl, ?_⟩
  rw [if_pos rfl, ent_isSome k0 pr, dGet_isSome]
  exact k
def rDGetQ : V → V → Hp → VK → Prop := fun x y H Q => ∃ a v, x = .ref a ∧ DGet H a y (some v) ∧ Q v H
def tDGetQ (td ty : TE) : TE := fun σ H Q => td σ H fun x H1 => ty σ H1 fun y H2 => rDGetQ x y H2 Q
theorem pe_dgetQ {X : Cx} {o i : Expr} {td ty : TE} {pos : Pos} (hu : X.A.units + 1 < cLine) (ho : PE X o td) (hi : PE X i ty) (hs : NoSl i) : PE X (.Subscript o i pos) (tDGetQ td ty) := pe_dget hu ho hi hs
/-- the value at a key that is there -/
def dAt [Inhabited α] (m : Dct κ α) (k : κ) : α := (dGet m.kv k).getD default
theorem k_dget [Inhabited α] {m : Dct κ α} {v : V} {k0 : κ} (h : RD K Z H v m) (hk : k0 ∈ m.kv.map (·.1)) (k : ∀ y, Py.R K Z y (dAt m k0) → Q y H) : rDGetQ v (Sc.emb k0) H Q := by
  obtain ⟨a, kvs, rfl, hl, pr⟩ := h
  have hs : (dGet m.kv k0).isSome = true := by rw [dGet_isSome]; exact decide_eq_true hk
  rcases ent_get k0 pr with ⟨h1, h2⟩ | ⟨w, b, h1, h2, h3⟩
  · rw [h2] at hs; cases hs
  · refine ⟨a, w, rfl, by rw [← Kt.emb_is, ← h1]; exact DGet.r hl, k w ?_⟩
    unfold dAt
    rw [h2]
    exact h3
def rIsD (x : V) (H : Hp) (R : Addr → Prop) : Prop := ∃ a, x = .ref a ∧ IsD H a ∧ R a
def rDGet2Q (a : Addr) : V → V → Hp → VK → Prop := fun y z H Q => ∃ o, DGet H a y o ∧ Q (o.getD z) H
def tDGet2Q (td ty tx : TE) : TE := fun σ H Q => td σ H fun x H1 => rIsD x H1 fun a => ty σ H1 fun y H2 => tx σ H2 fun z H3 => rDGet2Q a y z H3 Q
/-! stores -/
def rDPutQ : V → V → V → Hp → (Hp → Prop) → Prop := fun v x y H R => ∃ a H4, x = .ref a ∧ DPut H a y v H4 ∧ R H4
def sDPutQ (td ty tv : TE) : TS := fun D σ H => tv σ H fun v H1 => td σ H1 fun x H2 => ty σ H2 fun y H3 => rDPutQ v x y H3 fun H4 => D.nx σ H4
theorem ps_dputQ {X : Cx} {o i value : Expr} {td ty tv : TE} {pos' pos : Pos} (hu : X.A.units + 1 < cLine) (ho : PE X o td) (hi : PE X i ty) (hv : PE X value tv) (hs : swapsWith value (some (.Subscript o i pos')) pos.line X.env = pure false) : PS X (.Assign [.Subscript o i pos'] value pos) (sDPutQ td ty tv) := ps_dput hu ho hi hv hs
theorem k_dput {m : Dct κ α} {q : Addr} {v : V} {k0 : κ} {a : α} {R : Hp → Prop} (o : OwnD K H0 Z H q m) (h : Py.R K Z v a) (hs : m.kv.length < sizeLine) (k : ∀ u, OwnD K H0 Z (upd H q u) q (⟨dPut m.kv k0 a⟩ : Dct κ α) → R (upd H q u)) : rDPutQ v (.ref q) (Sc.emb k0) H R := by
  obtain ⟨⟨xs, hz, pr⟩, nz, n0⟩ := o
  exact ⟨q, _, rfl, by rw [← Kt.emb_is]; exact DPut.k hz (by rw [pr.pLen]; exact hs), k _ ⟨⟨_, upd_same, ent_put pr h⟩, nz, n0⟩⟩
def rDSetQ (a : Addr) : V → V → Hp → VK → Prop := fun y z H Q => ∃ (kvs : List (Key × V)) (k : Key), H a = some (.dK kvs) ∧ y = kV k ∧ kvs.length < sizeLine ∧ (∀ v, valV kvs k = some v → Q v H) ∧ (valV kvs k = none → Q z (upd H a (.dK (putK kvs k z))))
def tDSetQ (td ty tx : TE) : TE := fun σ H Q => td σ H fun x H1 => rIsD x H1 fun a => ty σ H1 fun y H2 => tx σ H2 fun z H3 => rDSetQ a y z H3 Q
/-- d.setdefault(k, b): the dict behind it -/
def dSet (m : List (κ × α)) (k : κ) (b : α) : List (κ × α) := if k ∈ m.map (·.1) then m else dPut m k b
/-! len, copies, sorted -/
def rDLenQ : List V → Hp → VK → Prop := fun xs H Q => ∃ a kvs, xs = [V.ref a] ∧ H a = some (.dK kvs) ∧ Q (.int kvs.length) H
def rDCopyQ : List V → Hp → VK → Prop := fun xs H Q => ∃ (a : Addr) (kvs : List (Key × V)), xs = [.ref a] ∧ Rd H a (.dK kvs) ∧ ∀ p, H p = none → Q (.ref p) (upd H p (.dK kvs))
theorem Pt.dct {v : V} {m : Dct κ α} (zh : Same Z H) (h : Py.R K Z v m) : Pt K H v "dict" := by
  obtain ⟨a, xs, rfl, hz, p⟩ := h
  exact .of (.base (.dK (zh _ _ hz)))
instance : PtT (Dct κ α) := ⟨"dict", fun zh h => Pt.dct zh h⟩
instance : Nn (Dct κ α) := ⟨fun h e => by obtain ⟨a, xs, e2, _⟩ := h; rw [e2] at e; cases e⟩
end
/-! sorted(d), keys whole numbers -/
section
variable {α : Type} [Py α] {K : Fr} {Z H Z0 H0 : Hp} {Q : VK}
def sortI (l : List Int) : List Int := l.mergeSort (fun a b => decide (a ≤ b))
def rSortDIQ : List V → Hp → VK → Prop := fun xs H Q => ∃ (a : Addr) (kvs : List (Key × V)) (ks : List Int), xs = [.ref a] ∧ Rd H a (.dK kvs) ∧ kvs.map (·.1) = ks.map Sum.inl ∧ ks.length < 64 ∧ ∀ (ys : List Int) (p : Addr), ys.Perm ks → ys.Pairwise (· ≤ ·) → H p = none → Q (.ref p) (upd H p (.lst (ys.map V.int)))
def rSortIQ (K : Fr) : List V → Hp → VK → Prop := fun vs H Q => ∃ (a : Addr) (ns : List Int), vs = [V.ref a] ∧ SqL K H a (ns.map V.int) ∧ ∀ (ns' : List Int) (p : Addr), ns'.Perm ns → ns'.Pairwise (· ≤ ·) → H p = none → Q (.ref p) (upd H p (.lst (ns'.map V.int)))
end
end Cd

set_option Elab.async false
set_option linter.all false
set_option maxRecDepth 100000
set_option maxHeartbeats 4000000
namespace Cd
open PySem L2 PyProof.Rows
/-! ### own lists and dicts lent to a call: what comes back holds no list and no dict -/
def BrO (Z : Hp) (p : Addr) : Prop := (∃ xs, Z p = some (.lst xs)) ∨ ∃ kvs, Z p = some (.dK kvs)
def delL (Z : Hp) (ps : List Addr) : Hp := fun q => if q ∈ ps then none else Z q
class NL (α : Type) [Py α] : Prop where
  back : ∀ {K : Fr} {Z : Hp} {v : V} {a : α} {ps : List Addr}, (∀ p ∈ ps, BrO Z p) → Py.R K Z v a → Py.R K (delL Z ps) v a
instance (priority := low) {α : Type} [Py α] [NoZ α] : NL α := ⟨fun _ h => NoZ.back h⟩
theorem delL_tup {Z : Hp} {ps : List Addr} {a : Addr} {xs : List V} (h : ∀ p ∈ ps, BrO Z p) (e : Z a = some (.tup xs)) : delL Z ps a = some (.tup xs) := by
  unfold delL
  rw [if_neg]
  · exact e
  · intro hm
    rcases h a hm with ⟨x, h⟩ | ⟨x, h⟩ <;> rw [h] at e <;> cases e
instance {α β : Type} [Py α] [Py β] [NL α] [NL β] : NL (α × β) := ⟨fun h r => by
  obtain ⟨a, x, y, e, hz, h1, h2⟩ := r
  exact ⟨a, x, y, e, delL_tup h hz, NL.back h h1, NL.back h h2⟩⟩
instance {α β γ : Type} [Py α] [Py β] [Py γ] [NL α] [NL β] [NL γ] : NL (T3 α β γ) := ⟨fun h r => by
  obtain ⟨a, x, y, z, e, hz, h1, h2, h3⟩ := r
  exact ⟨a, x, y, z, e, delL_tup h hz, NL.back h h1, NL.back h h2, NL.back h h3⟩⟩
instance {α β γ δ : Type} [Py α] [Py β] [Py γ] [Py δ] [NL α] [NL β] [NL γ] [NL δ] : NL (T4 α β γ δ) := ⟨fun h r => by
  obtain ⟨a, x, y, z, w, e, hz, h1, h2, h3, h4⟩ := r
  exact ⟨a, x, y, z, w, e, delL_tup h hz, NL.back h h1, NL.back h h2, NL.back h h3, NL.back h h4⟩⟩
instance {α β γ : Type} [Py α] [Py β] [Py γ] [NL α] [NL β] [NL γ] : NL (TO α β γ) := ⟨fun {K Z v p ps} h r => by
  obtain ⟨x1, x2, x3⟩ := p
  obtain ⟨a, x, y, e, h1, h2, h3⟩ := r
  refine ⟨a, x, y, e, NL.back h h1, NL.back h h2, ?_⟩
  cases x3 with
  | none => exact delL_tup h h3
  | some c =>
    obtain ⟨z, hz, h4⟩ := h3
    exact ⟨z, delL_tup h hz, NL.back h h4⟩⟩
instance {α : Type} [Py α] [NL α] : NL (Option α) := ⟨fun {K Z v a ps} h r => by
  cases a with
  | none => exact r
  | some a => exact NL.back (α := α) h r⟩
structure Brw (Z Zb : Hp) (ps : List Addr) : Prop where
  s : Same Z Zb
  zf : ∀ q, q ∉ ps → Zb q = Z q
  hl : ∀ p ∈ ps, BrO Zb p
  hz : ∀ p ∈ ps, Z p = none
theorem Brw.nil (Z : Hp) : Brw Z Z [] := ⟨Same.refl _, fun _ _ => rfl, (fun _ h => nomatch h), (fun _ h => nomatch h)⟩
section
variable {K : Fr} {Z Zb Zc H H0 Z2 H2 : Hp} {Q : VK} {ps : List Addr}
theorem BrO.mono {p : Addr} (s : Same Zb Zc) (h : BrO Zb p) : BrO Zc p := by
  rcases h with ⟨x, h⟩ | ⟨x, h⟩
  · exact .inl ⟨x, s _ _ h⟩
  · exact .inr ⟨x, s _ _ h⟩
theorem BrO.lst {α : Type} [Py α] {p : Addr} {m : List α} (h : Py.R K Zc (.ref p) m) : BrO Zc p := by
  obtain ⟨a, xs, e, hz, _⟩ := h
  cases e
  exact .inl ⟨xs, hz⟩
theorem BrO.dct {κ α : Type} [Sc κ] [DecidableEq κ] [Kt κ] [Py α] {p : Addr} {m : Dct κ α} (h : Py.R K Zc (.ref p) m) : BrO Zc p := by
  obtain ⟨a, xs, e, hz, _⟩ := h
  cases e
  exact .inr ⟨xs, hz⟩
theorem Brw.step (b : Brw Z Zb ps) (zh : Same Z H) (st : Step Zb H Z2 H2) : Step Z H (delL Z2 ps) H2 := by
  refine ⟨st.hh, fun q u e => ?_, fun q u e => ?_, fun q u e => ?_⟩
  · unfold delL
    rw [if_neg (fun hm => by rw [b.hz q hm] at e; cases e)]
    exact st.zz _ _ (b.s _ _ e)
  · unfold delL at e
    split at e
    · cases e
    · exact st.zh _ _ e
  · unfold delL
    by_cases hm : q ∈ ps
    · rw [if_pos hm, b.hz q hm]
    · rw [if_neg hm, st.fr q u e, b.zf q hm]
theorem Brw.after (b : Brw Z Zb ps) (st : Step Zb H Z2 H2) : Brw (delL Z2 ps) Z2 ps := by
  refine ⟨fun q u e => ?_, fun q hq => ?_, fun q hq => (b.hl q hq).mono st.zz, fun q hq => ?_⟩
  · unfold delL at e
    split at e
    · cases e
    · exact e
  · unfold delL
    rw [if_neg hq]
  · unfold delL
    rw [if_pos hq]
theorem Brw.fin (b : Brw Z Zb ps) (zh : Same Z H) (st : Step Zb H Z2 H2) : ∃ Z3, Step Z H Z3 H2 ∧ Brw Z3 Z2 ps := ⟨delL Z2 ps, b.step zh st, b.after st⟩
theorem Tel.brw {α : Type} [Py α] [NL α] {m : α} (b : Brw Z Zb ps) (zh : Same Z H) (k : Tel K Z H Q m) : Tel K Zb H Q m := fun v Z' H' st h =>
  k v _ H' (b.step zh st) (NL.back (fun p hp => (b.hl p hp).mono st.zz) h)
theorem New.brw {α : Type} [Py α] [NL α] {m : List α} (b : Brw Z Zb ps) (zh : Same Z H) (k : New K Z H Q m) : New K Zb H Q m := fun p xs Z' H' st hp hl hz pr =>
  k p xs _ H' (b.step zh st) hp hl (by unfold delL; split; rfl; exact hz) (Paired.pImp (fun _ _ r => NL.back (fun q hq => (b.hl q hq).mono st.zz) r) pr)
theorem NewD.brw {κ α : Type} [Sc κ] [DecidableEq κ] [Kt κ] [Py α] [NL α] {m : Dct κ α} (b : Brw Z Zb ps) (zh : Same Z H) (k : NewD K Z H Q m) : NewD K Zb H Q m := fun p xs Z' H' st hp hl hz pr =>
  k p xs _ H' (b.step zh st) hp hl (by unfold delL; split; rfl; exact hz) (Paired.pImp (fun _ _ r => ⟨r.1, NL.back (fun q hq => (b.hl q hq).mono st.zz) r.2⟩) pr)
end
end Cd

set_option Elab.async false
set_option linter.all false
set_option maxRecDepth 100000
set_option maxHeartbeats 4000000
namespace Cd
open PySem L2 PyProof.Rows
/-! ### sorted(..) of data of one shape, of any length -/
def leD {α : Type} [Py α] [DecidableEq α] [PyD α] : α → α → Bool := PySem.W.dataLe false PyD.d
def sortD {α : Type} [Py α] [DecidableEq α] [PyD α] (l : List α) : List α := l.mergeSort leD
/-- data of one shape that can be put in order -/
class SrtD (α : Type) [Py α] [DecidableEq α] [PyD α] : Prop where
  alike : ∀ a b : α, PySem.W.alike (PyD.d a) (PyD.d b) = true
  sortable : ∀ l : List α, PySem.W.Sortable (l.map PyD.d)
instance : SrtD Int := ⟨fun a b => by simp [PyD.d, PySem.W.alike], fun l => PySem.W.Sortable.others fun b => by simp [PyD.d]⟩
instance : SrtD Str := ⟨fun a b => by simp [PyD.d, PySem.W.alike], fun l => PySem.W.Sortable.others fun b => by simp [PyD.d]⟩
instance {α β : Type} [Py α] [DecidableEq α] [PyD α] [Py β] [DecidableEq β] [PyD β] [SrtD α] [SrtD β] : SrtD (α × β) := ⟨fun a b => by
  show PySem.W.alikeAll [PyD.d a.1, PyD.d a.2] [PyD.d b.1, PyD.d b.2] = true
  simp [PySem.W.alikeAll, SrtD.alike], fun l => PySem.W.Sortable.tuples fun b => ⟨_, _, rfl⟩⟩
instance {α β γ : Type} [Py α] [DecidableEq α] [PyD α] [Py β] [DecidableEq β] [PyD β] [Py γ] [DecidableEq γ] [PyD γ] [SrtD α] [SrtD β] [SrtD γ] : SrtD (T3 α β γ) := ⟨fun a b => by
  show PySem.W.alikeAll [PyD.d a.x1, PyD.d a.x2, PyD.d a.x3] [PyD.d b.x1, PyD.d b.x2, PyD.d b.x3] = true
  simp [PySem.W.alikeAll, SrtD.alike], fun l => PySem.W.Sortable.tuples fun b => ⟨_, _, rfl⟩⟩
def rSortDQ (K : Fr) (α : Type) [Py α] [DecidableEq α] [PyD α] : List V → Hp → VK → Prop := fun vs H Q => ∃ (a : Addr) (xs : List V) (l : List α), vs = [V.ref a] ∧ SqL K H a xs ∧ Paired (fun x b => Dp K H x (PyD.d b)) xs l ∧
  ∀ (zs : List (V × α)) (p : Addr), zs = (xs.zip l).mergeSort (PySem.W.dataLe false fun z => PyD.d z.2) → H p = none → Q (.ref p) (upd H p (.lst (zs.map (·.1))))
/-! the order in plain words -/
theorem leD_int (a b : Int) : leD a b = decide (a ≤ b) := by
  show (!PySem.W.dataLt (.int b) (.int a)) = _
  rw [PySem.W.dataLt_int, PySem.W.not_lt_int]
theorem leD_str (a b : Str) : leD a b = decide (a.cps.toList ≤ b.cps.toList) := by
  show (!PySem.W.dataLt (.str b) (.str a)) = _
  rw [PySem.W.dataLt_str, PySem.W.not_lt_str]
theorem leD_refl {α : Type} [Py α] [DecidableEq α] [PyD α] (a : α) : leD a a = true := by
  show (!PySem.W.dataLt (PyD.d a) (PyD.d a)) = true
  unfold PySem.W.dataLt
  rw [PyProof.Rows.lex_irrefl]
  rfl
theorem leD_pair {α β : Type} [Py α] [DecidableEq α] [PyD α] [Py β] [DecidableEq β] [PyD β] [SrtD α] [SrtD β] (p q : α × β) : leD p q = if p.1 = q.1 then leD p.2 q.2 else leD p.1 q.1 := by
  show (!PySem.W.dataLt (.tuple [PyD.d q.1, PyD.d q.2]) (.tuple [PyD.d p.1, PyD.d p.2])) = _
  rw [PySem.W.dataLt_pair (SrtD.alike _ _) (SrtD.alike _ _), PyD.eqv, PyD.eqv]
  by_cases h : q.1 = p.1
  · rw [if_pos (decide_eq_true h), if_pos h.symm]
    by_cases h2 : q.2 = p.2
    · rw [if_pos (decide_eq_true h2), h2, leD_refl]
      rfl
    · rw [if_neg (by simpa using h2)]
      rfl
  · rw [if_neg (by simpa using h), if_neg (fun e => h e.symm)]
    rfl
/-- a total order -/
class OrdD (α : Type) [Py α] [DecidableEq α] [PyD α] : Prop where
  tr : ∀ a b c : α, leD a b = true → leD b c = true → leD a c = true
  tot : ∀ a b : α, leD a b = true ∨ leD b a = true
  anti : ∀ a b : α, leD a b = true → leD b a = true → a = b
instance : OrdD Int := ⟨fun a b c h1 h2 => by rw [leD_int, decide_eq_true_eq] at *; omega, fun a b => by rw [leD_int, leD_int, decide_eq_true_eq, decide_eq_true_eq]; omega, fun a b h1 h2 => by rw [leD_int, decide_eq_true_eq] at *; omega⟩
instance : OrdD Str := ⟨fun a b c h1 h2 => by rw [leD_str, decide_eq_true_eq] at *; exact List.le_trans h1 h2, fun a b => by rw [leD_str, leD_str, decide_eq_true_eq, decide_eq_true_eq]; exact List.le_total _ _, fun a b h1 h2 => by
  rw [leD_str, decide_eq_true_eq] at *
  exact PySem.W.str_of_cps (List.le_antisymm h1 h2)⟩
instance {α β : Type} [Py α] [DecidableEq α] [PyD α] [Py β] [DecidableEq β] [PyD β] [SrtD α] [SrtD β] [OrdD α] [OrdD β] : OrdD (α × β) := ⟨fun a b c h1 h2 => by
  rw [leD_pair] at *
  by_cases q1 : a.1 = b.1
  · rw [if_pos q1] at h1
    by_cases q2 : b.1 = c.1
    · rw [if_pos q2] at h2
      rw [if_pos (q1.trans q2)]
      exact OrdD.tr _ _ _ h1 h2
    · rw [if_neg q2] at h2
      rw [if_neg (fun e => q2 (q1.symm.trans e)), q1]
      exact h2
  · rw [if_neg q1] at h1
    by_cases q2 : b.1 = c.1
    · rw [if_pos q2] at h2
      rw [if_neg (fun e => q1 (e.trans q2.symm)), ← q2]
      exact h1
    · rw [if_neg q2] at h2
      have h3 := OrdD.tr _ _ _ h1 h2
      rw [if_neg (fun e => q1 (OrdD.anti _ _ h1 (by rw [e]; exact h2)))]
      exact h3, fun a b => by
  rw [leD_pair, leD_pair]
  by_cases q : a.1 = b.1
  · rw [if_pos q, if_pos q.symm]
    exact OrdD.tot _ _
  · rw [if_neg q, if_neg (fun e => q e.symm)]
    exact OrdD.tot _ _, fun a b h1 h2 => by
  rw [leD_pair] at *
  by_cases q : a.1 = b.1
  · rw [if_pos q] at h1
    rw [if_pos q.symm] at h2
    exact Prod.ext q (OrdD.anti _ _ h1 h2)
  · rw [if_neg q] at h1
    rw [if_neg (fun e => q e.symm)] at h2
    exact absurd (OrdD.anti _ _ h1 h2) q⟩
end Cd

set_option Elab.async false
set_option linter.all false
set_option maxRecDepth 100000
set_option maxHeartbeats 4000000
namespace Cd
open PySem L2 PyProof.Rows
/-! ### methods of built-ins within a comprehension: K is given -/
theorem pe_bmK {X : Cx} {K : Fr} (eK : X.K = K) {T : String} {name : Str} {id : String} {r : V → List V → Hp → VK → Prop} {o e : Expr} {es : List Expr} {to : TE} {t : TA} {apos cpos : Pos} (pa : PlainAttrs T) (slot : Slot T name id) (hty : typeOf (.builtin id) = pure (.type "method_descriptor")) (hm : MtR X id r) (ho : PE X o to) (ha : PA X (e :: es) t)
    (hbase : attributeBase o name X.env (eval o X.env) = eval o X.env := by rfl)
    (hfew : ((backTo cpos (starEach (e :: es) X.env)).all (fun x => !x.1) && (backToKw cpos (keywordEach [] X.env)).all (fun x => x.1.isSome)
      && decide ((e :: es).length + ([] : List Keyword).length + (if ([] : List Keyword).isEmpty then 0 else 1) < 30)) = true := by rfl)
    (hline : (apos.endLine == cpos.line) = true := by rfl) (hs : starEach (e :: es) X.env = (false, eval e X.env) :: starEach es X.env := by rfl) (hplain : (backTo cpos (starEach es X.env)).any (·.1) = false := by rfl) :
    PE X (.Call (.Attribute o name apos) (e :: es) [] cpos) (tBM K T r to t) := by
  subst eK
  exact pe_bm pa slot hty hm ho ha hbase hfew hline hs hplain
end Cd

set_option Elab.async false
set_option linter.all false
set_option maxRecDepth 100000
set_option maxHeartbeats 4000000
namespace Cd
open PySem L2 PyProof.Rows
/-! ### refusals -/
inductive Er where
  | ShopError | NoCard | NoField | NoOrder (d p : Int) | NoBoard | Meet (a b : Int × Int) | NoAsking | NoTray | NoPlan | NoRow
deriving DecidableEq, Inhabited
structure CA where
  (ShopError NoCard NoField NoOrder NoBoard Meet NoAsking NoTray NoPlan NoRow : Addr)
def exB {α R : Type} (x : Except Er α) (f : Er → R) (g : α → R) : R := match x with
  | .error e => f e
  | .ok a => g a
def exV {α : Type} [Inhabited α] (x : Except Er α) : α := match x with
  | .error _ => default
  | .ok a => a
def exOk {α : Type} (x : Except Er α) : Bool := match x with
  | .error _ => false
  | .ok _ => true
theorem ok_of {α : Type} [Inhabited α] {x : Except Er α} (h : exOk x = true) : x = .ok (exV x) := by
  cases x with
  | error e => cases h
  | ok a => rfl
instance {S R : Type} [Inhabited R] : Inhabited (LR S R) := ⟨.ret default⟩
section
variable {X : Cx} {CX : CXT} {x : Str} {k : Nat} {ps : List Str} {sp : Sp} {E : XK} {t : TA} {e : Expr} {es : List Expr} {p pos : Pos}
/-- a call in a try -/
theorem pe_calS {E : L2.St → XK} (c : Cal X.prog X.w X.K X.mg X.base CX x k ps sp) (hr : Room k X.A) (hx : ∀ σ, PassesAt CX X σ (E σ)) (ha : PA X (e :: es) t) (hg : Gl X x := by rfl) (hdb : (x == ("__debug__" : Str)) = false := by decide)
    (he : starEach (e :: es) X.env = (false, eval e X.env) :: starEach es X.env := by rfl) (hpl : (backTo pos (starEach es X.env)).any (·.1) = false := by rfl) : PE X (.Call (.Name x p) (e :: es) [] pos) (tCallS sp E t) := by
  obtain ⟨f, fd, F, hm, hk, hb⟩ := c.ex
  exact pe_callS F hr hg hm hk hb hx ha hdb he hpl
end
/-! ### isinstance of the refusal that an except suite holds -/
def rIsEu (K : Fr) (cls : Value) (d : Option Addr) (a : Addr) : List V → Hp → VK → Prop := fun xs H Q => ∃ (D : Addr) (c : V) (cv : Value) (b : Bool), cls = .ref D ∧ d = none ∧ ExcC K D ∧ xs = [.ref a, c] ∧ (∀ u, RelV c u → u = cv) ∧ PySem.W.kitOne K (.ref D) cv = some b ∧ Q (.bl b) H
theorem kit_cl {K : Fr} {D C : Addr} {b : Bool} (hd : PySem.W.hasDictIn K C = true) (ht : PySem.W.typeIn K (.ref C) = some (.type "type")) (hs : PySem.W.subIn K (.ref C) (.ref C) = some true) (h : PySem.W.subIn K (.ref D) (.ref C) = some b) : PySem.W.kitOne K (.ref D) (.ref C) = some b := by
  obtain ⟨cd, hc, _⟩ := PySem.W.any_some hd
  have e2 : ((PySem.W.clsIn K C).isSome && PySem.W.typeIn K (.ref C) == some (.type "type")) = true := by rw [hc, ht] <;> rfl
  unfold PySem.W.kitOne
  by_cases q : ((Value.ref D) == Value.ref C) = true
  · rw [if_pos q]
    have e : D = C := Value.ref.inj (beq_iff_eq.mp q)
    subst e
    rw [hs] at h
    exact h
  · rw [if_neg q]
    show (if _ then _ else _) = _
    rw [if_pos e2]
    exact h
theorem kit_tp {K : Fr} {D : Addr} {T : String} {b : Bool} (hm : PySem.W.kitMeta T = true) (h : PySem.W.subIn K (.ref D) (.type T) = some b) : PySem.W.kitOne K (.ref D) (.type T) = some b := by
  unfold PySem.W.kitOne
  rw [if_neg (by intro q; cases beq_iff_eq.mp q)]
  show (if _ then _ else _) = _
  rw [if_pos hm]
  exact h
/-! ### a walk over signs that ends early -/
/-! ### a raise within what is mirrored -/
end Cd

set_option Elab.async false
set_option linter.all false
set_option maxRecDepth 100000
set_option maxHeartbeats 4000000
namespace Cd
open PySem L2 PyProof.Rows
/-! ### defs that an except suite calls with the refusal that it holds -/
abbrev Pn := Addr × Obj
/-- such a def's promise: p is the refusal and its object -/
structure FnE (P : Program) (w : World) (K : Fr) (mg : Str → Option Value) (base : Heap) (k : Nat) (f : Addr) (fd : FuncData) (ps : List Str) (sp : Pn → Sp) : Prop where
  len : ∀ p vs H Q E, sp p vs H Q E → vs.length = ps.length
  run : ∀ (p : Pn) (A : Around) (out : List Env) (s : Shared) (H : Hp) (gs : Args) (us : List Value) (vs : List V) (Q : VK) (E : XK), sp p vs H Q E → Vals vs us → BindsTo s fd gs (ps.zip us) → L2H.RoomH k A → L2H.PinOk out H s p → Env0 P w K mg base A out s H →
    codeAny (model P w) A (.call (.ref f) gs) (CR CX0 out P w H s Q E) s
section
variable {P : Program} {w : World} {K : Fr} {mg : Str → Option Value} {base : Heap}
theorem par_kind {N ps : List Str} {sc : Scope} {us : List Value} {n : Nat} (S : FnScope N ps sc) : ∀ z ∈ ps.zip us, sc.names.lookup z.1 = some .local ∨ (sc.names.lookup z.1 = some .cell ∧ ((cellsFrom n sc.names []).lookup z.1).isSome = true) := by
  rintro ⟨y, u⟩ hz
  cases S.par y (List.of_mem_zip hz).1 with
  | inl a => exact .inl a
  | inr a => exact .inr ⟨a, PySem.W.cellsFrom_some _ _ _ (.inl a)⟩
structure CalE (P : Program) (w : World) (K : Fr) (mg : Str → Option Value) (base : Heap) (x : Str) (k : Nat) (ps : List Str) (sp : Pn → Sp) : Prop where
  ex : ∃ f fd, FnE P w K mg base k f fd ps sp ∧ mg x = some (.ref f) ∧ PySem.W.keepIn K (.ref f) = true ∧ Binds K fd ps []
end
/-- what the refusal at a is: its class and its own dict -/
def Rf (cls : Value) (d : Option Addr) (a : Addr) (p : Pn) : Prop := p.1 = a ∧ Zc cls d p.2 ∧ ∃ vs, p.2.data = .fields vs
def tCallE (a : Addr) (cls : Value) (d : Option Addr) (sp : Pn → Sp) (t : TA) : TE := fun σ H Q => t σ H fun vs H1 => ∀ p, Rf cls d a p → sp p vs H1 Q E0
section
variable {X : Cx} {a : Addr} {oe : Obj} {cls : Value} {d : Option Addr} {pn : List Pn} {k : Nat} {x : Str} {ps : List Str} {sp : Pn → Sp} {e : Expr} {es : List Expr} {t : TA} {q pos : Pos}
end
end Cd

set_option Elab.async false
set_option linter.all false
set_option maxRecDepth 100000
set_option maxHeartbeats 4000000
namespace Cd
open PySem L2
/-! ### enumerate and zip over lists and texts alike -/
/-- an iterator at `it` that walks something of a length told by the heap -/
structure Dx (P : Program) (w : World) (K : Fr) (it : Addr) (fx : List Addr) (stt : Nat → Heap → Prop) (len : Hp → Nat → Prop) (yv : Nat → Hp → V → Prop) : Prop where
  obj : ∀ i h, stt i h → ∃ o, h.get? it = some o ∧ ∀ v, o.data ≠ .cell v
  keep : ∀ i h h', stt i h → (∀ o, h.get? it = some o → h'.get? it = some o) → stt i h'
  draw : ∀ (X : Cx), X.prog = P → X.w = w → X.K = K → X.calm = true → ∀ (i n : Nat) (pins : List (Addr × Obj)) (s : Shared) (σ : St) (H : Hp), Inv X pins σ H s → stt i s.heap → len H n →
    ∃ Pv St, Draws P w X.A.in1 it (it :: fx) n Pv St ∧ St i s.heap ∧ (∀ x, Pv i x → ∃ v, RelV v x ∧ yv i H v) ∧ ∀ j h, St j h → stt j h
section
variable {P : Program} {w : World} {K : Fr} {elts : List Expr} {kk : Nat} {tpos : Pos}
/-- enumerate: counts from k -/
def Iteg (k : Int) (len : Hp → Nat → Prop) (yv : Nat → Hp → V → Prop) : It :=
  ⟨fun i H => ∃ n, len H n ∧ i < n, fun i H v H' => ∃ T x, v = .ref T ∧ H T = none ∧ H' = upd H T (.tup [.int (k + (i : Nat)), x]) ∧ yv i H x, fun i H => len H i⟩
/-- zip of two -/
def Itzg (len len2 : Hp → Nat → Prop) (yv yv2 : Nat → Hp → V → Prop) : It :=
  ⟨fun i H => ∃ n m, len H n ∧ len2 H m ∧ i < n ∧ i < m, fun i H v H' => ∃ T x y, v = .ref T ∧ H T = none ∧ H' = upd H T (.tup [x, y]) ∧ yv i H x ∧ yv2 i H y, fun i H => ∃ n m, len H n ∧ len2 H m ∧ i ≤ n ∧ i ≤ m ∧ (i = n ∨ i = m)⟩
structure Apt (z TI TO i1 i2 : Addr) (fx fx2 : List Addr) : Prop where
  a1 : TI ≠ z
  a2 : TO ≠ z
  a3 : TI ≠ TO
  a4 : TI ≠ i1
  a5 : TI ≠ i2
  a6 : z ≠ i1
  a7 : z ≠ i2
  a8 : TO ≠ i1
  a9 : TO ≠ i2
  b1 : i1 ≠ i2
  c1 : z ∉ fx
  c2 : TO ∉ fx
  c3 : i2 ∉ fx
  d1 : z ∉ fx2
  d2 : TO ∉ fx2
  d3 : i1 ∉ fx2
end
section
variable {X : Cx} {elts : List Expr} {kk : Nat} {tpos : Pos}
/-- enumerate(text) -/
def iEnS (ta : TA) : TI := fun σ H R => ta σ H fun vs H1 => ∃ x, vs = [.str x] ∧ R (Iteg 0 (fun _ n => n = x.cps.size) (fun i _ v => ∃ c, x.cps[i]? = some c ∧ v = .str ⟨#[c]⟩)) H1
/-- zip(list, text) -/
def iZiS (K : Fr) (ta : TA) : TI := fun σ H R => ta σ H fun vs H1 => ∃ a x xs, vs = [.ref a, .str x] ∧ SqL K H1 a xs ∧
  R (Itzg (fun H n => ∃ xs, SqL K H a xs ∧ xs.length = n) (fun _ n => n = x.cps.size) (fun i H v => ∀ xs, SqL K H a xs → xs[i]? = some v) (fun i _ v => ∃ c, x.cps[i]? = some c ∧ v = .str ⟨#[c]⟩)) H1
end
/-! ### their sources -/
section
variable {K : Fr} {Z : Hp}
end
end Cd

set_option Elab.async false
set_option linter.all false
set_option maxRecDepth 100000
set_option maxHeartbeats 4000000
namespace Cd
open PySem L2 PyProof.Rows
/-! ### a < b < c < d -/
def tCh3 (r1 r2 r3 : R2) (ta tb tc td : TE) : TE := fun σ H Q => ta σ H fun x H1 => tb σ H1 fun y H2 => r1 x y H2 fun z H3 => ∃ k, z = .bl k ∧
  (if k = true then (tc σ H3 fun w H4 => r2 y w H4 fun z2 H5 => ∃ k2, z2 = .bl k2 ∧ (if k2 = true then (td σ H5 fun w2 H6 => r3 w w2 H6 Q) else Q (.bl false) H5)) else Q (.bl false) H3)
end Cd
namespace Cd
open PySem L2
/-! ### list(range(..)) -/
theorem rg_ok {a b : Int} (h1 : -1000000 ≤ a) (h2 : a ≤ 1000000) (h3 : -1000000 ≤ b) (h4 : b ≤ 1000000) : RgOk a b := ⟨by omega, by omega, by omega, by omega, by omega⟩
theorem prd_sc {K : Fr} {Z : Hp} : ∀ (l : List Int), Paired (Py.R K Z) (l.map V.int) l
  | [] => .nil
  | x :: r => .cons rfl (prd_sc r)
theorem rgV_rangeL (a b : Int) : rgV a b = (rangeL a (b - a).toNat).map V.int := by
  unfold rgV rangeL
  rw [List.map_map]
  rfl
theorem k_listRg {K : Fr} {Z H : Hp} {Q : VK} {a b : Int} (zh : Same Z H) (ok : RgOk a b) (k : New K Z H Q (rangeL a (b - a).toNat)) : RgOk a b ∧ ∀ q, H q = none → Q (.ref q) (upd H q (.lst (rgV a b))) := by
  refine ⟨ok, ?_⟩
  rw [rgV_rangeL]
  refine (k_list zh (prd_sc _) ?_ k).2
  have h5 : (b - a).toNat ≤ 2 ^ 24 := ok.2.2.2.2
  have h6 : sizeLine = 2 ^ 27 ∨ 2 ^ 24 ≤ sizeLine := by right; decide
  rw [List.length_map, rangeL_len]
  rcases h6 with h | h
  · rw [h]; omega
  · omega
end Cd
namespace Cd
open PySem L2
/-! ### len of a tuple -/
section
variable {K : Fr} {Z H : Hp} {Q : VK} {v : V}
end
end Cd
namespace Cd
open PySem L2
end Cd
namespace Cd
open PySem L2
section
variable {ta tb tc td : TE} {σ : L2.St} {H : Hp} {Q : VK} {i j k l : Int} {p1 p2 p3 : Int → Int → Bool}
abbrev rC (p : Int → Int → Bool) : R2 := rI0 fun i j => .bl (p i j)
end
end Cd

set_option Elab.async false
set_option linter.all false
set_option maxRecDepth 100000
set_option maxHeartbeats 4000000
namespace Cd
open PySem L2
/-! ### partition and split -/
def partS (z d : Str) : T3 Str Str Str := ⟨(Txt.partition z d).1, (Txt.partition z d).2.1, (Txt.partition z d).2.2⟩
def rPartQ : V → List V → Hp → VK → Prop := fun x xs H Q => ∃ a b, x = .str a ∧ xs = [.str b] ∧ (b.length == 0) = false ∧ a.length ≤ sizeLine ∧
    ∀ p, H p = none → Q (.ref p) (upd H p (.tup [.str (Txt.partition a b).1, .str (Txt.partition a b).2.1, .str (Txt.partition a b).2.2]))
def rSplitQ : V → List V → Hp → VK → Prop := fun x xs H Q => ∃ a b, x = .str a ∧ xs = [.str b] ∧ (b.length == 0) = false ∧ a.length + 2 ≤ sizeLine ∧ rNewStrs (Txt.split a b) H Q
section
variable {X : Cx}
end
section
variable {K : Fr} {Z H : Hp} {Q : VK}
end
/-! ### their laws, for a separator of one sign -/
def tilC (c : Nat) : List Nat → List Nat
  | [] => []
  | x :: r => if x = c then [] else x :: tilC c r
def pastC (c : Nat) : List Nat → List Nat
  | [] => []
  | x :: r => if x = c then r else pastC c r
def splC (c : Nat) : List Nat → List (List Nat)
  | [] => [[]]
  | x :: r => if x = c then [] :: splC c r else match splC c r with
    | h :: t => (x :: h) :: t
    | [] => [[x]]
end Cd
namespace Cd
open PySem L2
end Cd

set_option Elab.async false
set_option linter.all false
set_option maxRecDepth 100000
set_option maxHeartbeats 4000000
namespace Cd
open PySem L2 PyProof.Rows
/-! ### for q in xs: q.append(b), xs a list of lists of one's own -/
theorem Own.keep {α : Type} [Py α] {K : Fr} {H0 Z H H' : Hp} {q : Addr} {l : List α} (o : Own K H0 Z H q l) (h : H' q = H q) : Own K H0 Z H' q l := by
  obtain ⟨⟨xs, h1, p⟩, nz, n0⟩ := o
  exact ⟨⟨xs, h.trans h1, p⟩, nz, n0⟩
theorem pairKeep {α : Type} [Py α] {K : Fr} {Z H H' : Hp} : ∀ {ps : List Addr} {m : List (List α)}, (∀ a ∈ ps, H' a = H a) → Paired (fun a l => ∃ xs, H a = some (.lst xs) ∧ Paired (Py.R K Z) xs l) ps m → Paired (fun a l => ∃ xs, H' a = some (.lst xs) ∧ Paired (Py.R K Z) xs l) ps m
  | _, _, _, .nil => .nil
  | _, _, h, .cons ⟨xs, h1, h2⟩ t => .cons ⟨xs, (h _ List.mem_cons_self).trans h1, h2⟩ (pairKeep (fun a ha => h a (List.mem_cons_of_mem _ ha)) t)
theorem OwnN.keep {α : Type} [Py α] {K : Fr} {H0 Z H H' : Hp} {p : Addr} {ps : List Addr} {m : List (List α)} (o : OwnN K H0 Z H p ps m) (h : ∀ a ∈ p :: ps, H' a = H a) : OwnN K H0 Z H' p ps m :=
  ⟨(h p List.mem_cons_self).trans o.top, pairKeep (fun a ha => h a (List.mem_cons_of_mem _ ha)) o.inn, o.nd, o.nz, o.n0⟩
section
variable {K : Fr} {tb : TS} {D : Ends} {σ : L2.St} {H Z H0 : Hp}
theorem setI_natK {α : Type} {l : List α} {j : Nat} {a : α} (h : j < l.length) : setI l (j : Int) a = l.set j a := by
  unfold setI ixN
  rw [if_pos (show (0 : Int) ≤ (j : Int) by omega), if_pos (show (j : Int) < ((l.length : Nat) : Int) by omega)]
  rfl
end
end Cd

set_option Elab.async false
set_option linter.all false
set_option maxRecDepth 100000
set_option maxHeartbeats 4000000
namespace Cd
open PySem L2 PyProof.Rows
/-! ### xs[i] += v -/
def rGetL (K : Fr) : V → V → Hp → VK → Prop := fun o i H Q => ∃ p xs k v, o = .ref p ∧ i = .int k ∧ SqL K H p xs ∧ 0 ≤ k ∧ k < 2 ^ 63 ∧ xs[k.toNat]? = some v ∧ Q v H
theorem get_listK {X : Cx} {K : Fr} (e : X.K = K) : PGet X (rGetL K) := by
  subst e
  intro pins s σ H o i ov iv Q I ro ri h
  obtain ⟨p, xs, k, v, rfl, rfl, hq, h0, h1, hx, q⟩ := h
  cases ro
  obtain ⟨t, rfl⟩ := ri
  obtain ⟨its, r, pl, hz⟩ := I.list hq
  obtain ⟨w, ew, rw'⟩ := r.get hx
  exact wpAny_getItem_list pl.isList h0 h1 (by simpa using ew) ⟨v, H, I, rw', q⟩
theorem k_getO {K : Fr} {Z H H0 : Hp} {Q : VK} {p : Addr} {l : List Int} {i : Int} (o : Own K H0 Z H p l) (h0 : 0 ≤ i) (h1 : i < l.length) (hs : l.length < sizeLine) (k : Q (.int (getI l i)) H) : rGetL K (.ref p) (.int i) H Q := by
  obtain ⟨⟨xs, hz, pr⟩, _, _⟩ := o
  have e : l[i.toNat]? = some (getI l i) := by rw [getI_nat h0 h1]; exact List.getElem?_eq_getElem _
  obtain ⟨x, hx, hr⟩ := pr.pAt e
  obtain rfl := (show x = .int (getI l i) from hr)
  rw [sizeLine_eq] at hs
  exact ⟨p, xs, i, _, rfl, rfl, SqL.of hz, h0, by omega, hx, k⟩
/-- xs[i][j], xs a list of lists of one's own -/
theorem OwnN.el {α : Type} [Py α] {K : Fr} {Z H H0 : Hp} {p : Addr} {ps : List Addr} {m : List (List α)} {i : Int} (o : OwnN K H0 Z H p ps m) (hi : inR m.length i) : ∃ a, atI (ps.map V.ref) i = some (.ref a) ∧ Own K H0 Z H a (getI m i) := by
  obtain ⟨a, _, h, oa, _⟩ := o.at hi
  exact ⟨a, h, oa⟩
end Cd
namespace Cd
open PySem L2
end Cd
namespace Cd
open PySem L2
theorem NewN.brw {α : Type} [Py α] [NL α] {K : Fr} {Z Zb H : Hp} {Q : VK} {ps : List Addr} {m : List (List α)} (b : Brw Z Zb ps) (zh : Same Z H) (k : NewN K Z H Q m) : NewN K Zb H Q m := fun p qs Z' H' st hn o =>
  k p qs _ H' (b.step zh st) hn ⟨o.top, Paired.pImp (fun a l ⟨xs, h, pr⟩ => ⟨xs, h, Paired.pImp (fun _ _ r => NL.back (fun q hq => (b.hl q hq).mono st.zz) r) pr⟩) o.inn, o.nd, fun a ha => by unfold delL; split; rfl; exact o.nz a ha, o.n0⟩
end Cd

set_option Elab.async false
set_option linter.all false
set_option maxRecDepth 100000
set_option maxHeartbeats 4000000
namespace Cd
open PySem L2
/-! ### shapes: what stands at a value, with all that is one's own below it -/
structure Sh (α : Type) where
  R : Fr → Hp → Hp → V → List Addr → α → Prop
  keep : ∀ {K : Fr} {Z Z' H H' : Hp} {v : V} {ps : List Addr} {a : α}, Same Z Z' → (∀ q ∈ ps, H' q = H q) → R K Z H v ps a → R K Z' H' v ps a
  stands : ∀ {K : Fr} {Z H : Hp} {v : V} {ps : List Addr} {a : α}, R K Z H v ps a → ∀ q ∈ ps, ∃ u, H q = some u
/-- the same of a row of values -/
structure ShL (β : Type) where
  R : Fr → Hp → Hp → List V → List Addr → β → Prop
  keep : ∀ {K : Fr} {Z Z' H H' : Hp} {vs : List V} {ps : List Addr} {a : β}, Same Z Z' → (∀ q ∈ ps, H' q = H q) → R K Z H vs ps a → R K Z' H' vs ps a
  stands : ∀ {K : Fr} {Z H : Hp} {vs : List V} {ps : List Addr} {a : β}, R K Z H vs ps a → ∀ q ∈ ps, ∃ u, H q = some u
/-- told data, or a scalar -/
def Sh.told {α : Type} [Py α] : Sh α where
  R := fun K Z _ v ps a => ps = [] ∧ Py.R K Z v a
  keep := fun s _ ⟨e, h⟩ => ⟨e, Py.mono s h⟩
  stands := fun ⟨e, _⟩ q hq => by rw [e] at hq; cases hq
/-- None, or a thing -/
def ShL.nil : ShL Unit where
  R := fun _ _ _ vs ps _ => vs = [] ∧ ps = []
  keep := fun _ _ h => h
  stands := fun ⟨_, e⟩ q hq => by rw [e] at hq; cases hq
def ShL.cons {α β : Type} (S : Sh α) (T : ShL β) : ShL (α × β) where
  R := fun K Z H vs ps p => ∃ v ws qs rs, vs = v :: ws ∧ ps = qs ++ rs ∧ S.R K Z H v qs p.1 ∧ T.R K Z H ws rs p.2
  keep := fun s h ⟨v, ws, qs, rs, e1, e2, h1, h2⟩ => ⟨v, ws, qs, rs, e1, e2, S.keep s (fun q hq => h q (by rw [e2]; exact List.mem_append_left _ hq)) h1, T.keep s (fun q hq => h q (by rw [e2]; exact List.mem_append_right _ hq)) h2⟩
  stands := fun ⟨v, ws, qs, rs, e1, e2, h1, h2⟩ q hq => by
    rw [e2] at hq
    exact (List.mem_append.mp hq).elim (S.stands h1 q) (T.stands h2 q)
def allR {α : Type} (S : Sh α) (K : Fr) (Z H : Hp) : List V → List Addr → List α → Prop
  | vs, ps, [] => vs = [] ∧ ps = []
  | vs, ps, a :: r => ∃ v ws qs rs, vs = v :: ws ∧ ps = qs ++ rs ∧ S.R K Z H v qs a ∧ allR S K Z H ws rs r
theorem allR_keep {α : Type} {S : Sh α} {K : Fr} {Z Z' H H' : Hp} (s : Same Z Z') : ∀ {l : List α} {vs : List V} {ps : List Addr}, (∀ q ∈ ps, H' q = H q) → allR S K Z H vs ps l → allR S K Z' H' vs ps l
  | [], _, _, _, h => h
  | a :: r, _, _, h, ⟨v, ws, qs, rs, e1, e2, h1, h2⟩ => ⟨v, ws, qs, rs, e1, e2, S.keep s (fun q hq => h q (by rw [e2]; exact List.mem_append_left _ hq)) h1, allR_keep s (fun q hq => h q (by rw [e2]; exact List.mem_append_right _ hq)) h2⟩
theorem allR_stands {α : Type} {S : Sh α} {K : Fr} {Z H : Hp} : ∀ {l : List α} {vs : List V} {ps : List Addr}, allR S K Z H vs ps l → ∀ q ∈ ps, ∃ u, H q = some u
  | [], _, _, ⟨_, e⟩, q, hq => by rw [e] at hq; cases hq
  | a :: r, _, _, ⟨v, ws, qs, rs, e1, e2, h1, h2⟩, q, hq => by
    rw [e2] at hq
    exact (List.mem_append.mp hq).elim (S.stands h1 q) (allR_stands h2 q)
theorem allR_len {α : Type} {S : Sh α} {K : Fr} {Z H : Hp} : ∀ {l : List α} {vs : List V} {ps : List Addr}, allR S K Z H vs ps l → vs.length = l.length
  | [], _, _, ⟨e, _⟩ => by rw [e]; rfl
  | a :: r, _, _, ⟨v, ws, qs, rs, e1, e2, h1, h2⟩ => by rw [e1, List.length_cons, List.length_cons, allR_len h2]
/-- any number of things of one kind -/
def ShL.all {α : Type} (S : Sh α) : ShL (List α) where
  R := allR S
  keep := fun s h r => allR_keep s h r
  stands := allR_stands
def Sh.lst {β : Type} (T : ShL β) : Sh β where
  R := fun K Z H v ps b => ∃ p xs qs, v = .ref p ∧ ps = p :: qs ∧ H p = some (.lst xs) ∧ T.R K Z H xs qs b
  keep := fun s h ⟨p, xs, qs, e1, e2, h1, h2⟩ => ⟨p, xs, qs, e1, e2, (h p (by rw [e2]; exact List.mem_cons_self)).trans h1, T.keep s (fun q hq => h q (by rw [e2]; exact List.mem_cons_of_mem _ hq)) h2⟩
  stands := fun ⟨p, xs, qs, e1, e2, h1, h2⟩ q hq => by
    rw [e2] at hq
    rcases List.mem_cons.mp hq with rfl | hq
    · exact ⟨_, h1⟩
    · exact T.stands h2 q hq
def Sh.tup {β : Type} (T : ShL β) : Sh β where
  R := fun K Z H v ps b => ∃ p xs qs, v = .ref p ∧ ps = p :: qs ∧ H p = some (.tup xs) ∧ T.R K Z H xs qs b
  keep := fun s h ⟨p, xs, qs, e1, e2, h1, h2⟩ => ⟨p, xs, qs, e1, e2, (h p (by rw [e2]; exact List.mem_cons_self)).trans h1, T.keep s (fun q hq => h q (by rw [e2]; exact List.mem_cons_of_mem _ hq)) h2⟩
  stands := fun ⟨p, xs, qs, e1, e2, h1, h2⟩ q hq => by
    rw [e2] at hq
    rcases List.mem_cons.mp hq with rfl | hq
    · exact ⟨_, h1⟩
    · exact T.stands h2 q hq
/-- an instance of the class at C: its attributes in their order -/
def Sh.ins {β : Type} (C : Addr) (ns : List Str) (T : ShL β) : Sh β where
  R := fun K Z H v ps b => ∃ p dx xs qs, v = .ref p ∧ ps = p :: dx :: qs ∧ H p = some (.ins C dx (ns.zip xs)) ∧ H dx = some (.own p) ∧ xs.length = ns.length ∧ T.R K Z H xs qs b
  keep := fun s h ⟨p, dx, xs, qs, e1, e2, h1, h2, hl, h3⟩ => ⟨p, dx, xs, qs, e1, e2, (h p (by rw [e2]; exact List.mem_cons_self)).trans h1, (h dx (by rw [e2]; exact List.mem_cons_of_mem _ List.mem_cons_self)).trans h2, hl,
    T.keep s (fun q hq => h q (by rw [e2]; exact List.mem_cons_of_mem _ (List.mem_cons_of_mem _ hq))) h3⟩
  stands := fun ⟨p, dx, xs, qs, e1, e2, h1, h2, hl, h3⟩ q hq => by
    rw [e2] at hq
    rcases List.mem_cons.mp hq with rfl | hq
    · exact ⟨_, h1⟩
    · rcases List.mem_cons.mp hq with rfl | hq
      · exact ⟨_, h2⟩
      · exact T.stands h3 q hq
/-- the same, seen as another type -/
def Sh.via {α β : Type} (S : Sh β) (f : α → β) : Sh α where
  R := fun K Z H v ps a => S.R K Z H v ps (f a)
  keep := fun s h r => S.keep s h r
  stands := fun r => S.stands r
/-! ### owned -/
structure OwnO {α : Type} (S : Sh α) (K : Fr) (H0 Z H : Hp) (v : V) (ps : List Addr) (a : α) : Prop where
  r : S.R K Z H v ps a
  nd : ps.Nodup
  nz : ∀ q ∈ ps, Z q = none
  n0 : ∀ q ∈ ps, H0 q = none
section
variable {α β : Type} {S : Sh α} {SO : Sh β} {K : Fr} {Z H Z' H' Z0 H0 Z2 H2 : Hp} {v u : V} {ps qs : List Addr} {a x : α} {b : β} {put : α → β}
theorem OwnO.stands (o : OwnO S K H0 Z H v ps a) : ∀ q ∈ ps, ∃ w, H q = some w := S.stands o.r
/-- the heap grows, or what is not ours is changed -/
theorem OwnO.keep (o : OwnO S K H0 Z H v ps a) (s : Same Z Z') (h : ∀ q ∈ ps, H' q = H q) (hz : ∀ q ∈ ps, Z' q = Z q) : OwnO S K H0 Z' H' v ps a :=
  ⟨S.keep s h o.r, o.nd, fun q hq => (hz q hq).trans (o.nz q hq), o.n0⟩
theorem OwnO.step (o : OwnO S K H0 Z H v ps a) (st : Step Z H Z' H') : OwnO S K H0 Z' H' v ps a :=
  o.keep st.zz (fun q hq => by obtain ⟨w, hw⟩ := o.stands q hq; rw [hw]; exact st.hh _ _ hw) (fun q hq => by obtain ⟨w, hw⟩ := o.stands q hq; exact st.fr _ _ hw)
theorem OwnO.far {q : Addr} {u : HO} (o : OwnO S K H0 Z H v ps a) (ne : ∀ a ∈ ps, a ≠ q) : OwnO S K H0 Z (upd H q u) v ps a := o.keep (Same.refl _) (fun a ha => upd_ne (ne a ha)) fun _ _ => rfl
theorem OwnO.zfar (o : OwnO S K H0 Z H v ps a) (s : Same Z Z') (hz : ∀ q ∈ ps, Z' q = Z q) : OwnO S K H0 Z' H v ps a := o.keep s (fun _ _ => rfl) hz
/-- a thing within a thing: it may be put in again, changed -/
structure Within (S : Sh α) (SO : Sh β) (K : Fr) (Z H : Hp) (v : V) (ps : List Addr) (u : V) (qs : List Addr) (x : α) (put : α → β) : Prop where
  r : S.R K Z H u qs x
  ex : ∃ ls rs, ps = ls ++ qs ++ rs ∧ ∀ Z' H' qs' x', Same Z Z' → (∀ q ∈ ls ++ rs, H' q = H q) → S.R K Z' H' u qs' x' → SO.R K Z' H' v (ls ++ qs' ++ rs) (put x')
theorem OwnO.sub (o : OwnO SO K H0 Z H v ps b) (w : Within S SO K Z H v ps u qs x put) : OwnO S K H0 Z H u qs x := by
  obtain ⟨r, ls, rs, e, _⟩ := w
  have hs : ∀ q ∈ qs, q ∈ ps := fun q hq => by rw [e]; exact List.mem_append_left _ (List.mem_append_right _ hq)
  refine ⟨r, ?_, fun q hq => o.nz q (hs q hq), fun q hq => o.n0 q (hs q hq)⟩
  have := o.nd
  rw [e] at this
  exact (List.nodup_append.mp (List.nodup_append.mp this).1).2.1
theorem Within.refl (h : SO.R K Z H v ps b) : Within SO SO K Z H v ps v ps b id :=
  ⟨h, [], [], by simp, fun Z' H' qs' x' _ _ r => by simpa using r⟩
end
/-- within a thing within a thing -/
theorem Within.trans {α β γ : Type} {S : Sh α} {M : Sh β} {SO : Sh γ} {K : Fr} {Z H : Hp} {v u t : V} {ps qs rs : List Addr} {x : α} {y : β} {put : α → β} {put2 : β → γ}
    (w : Within M SO K Z H v ps u qs y put2) (w2 : Within S M K Z H u qs t rs x put) : Within S SO K Z H v ps t rs x (fun z => put2 (put z)) := by
  obtain ⟨r, l1, r1, e1, b1⟩ := w
  obtain ⟨r2, l2, r3, e2, b2⟩ := w2
  refine ⟨r2, l1 ++ l2, r3 ++ r1, by rw [e1, e2]; simp, fun Z' H' qs' x' s h hr => ?_⟩
  have h1 := b2 Z' H' qs' x' s (fun q hq => h q (by simp only [List.mem_append] at hq ⊢; rcases hq with hq | hq <;> simp [hq])) hr
  have h2 := b1 Z' H' _ _ s (fun q hq => h q (by simp only [List.mem_append] at hq ⊢; rcases hq with hq | hq <;> simp [hq])) h1
  have e : l1 ++ (l2 ++ qs' ++ r3) ++ r1 = l1 ++ l2 ++ qs' ++ (r3 ++ r1) := by simp
  rw [← e]
  exact h2
/-- the item at a place of a list -/
theorem allR_at {α : Type} {S : Sh α} {K : Fr} {Z H : Hp} : ∀ {l : List α} {vs : List V} {ps : List Addr} {i : Nat} {x : α}, allR S K Z H vs ps l → l[i]? = some x →
    ∃ v qs ls rs, vs[i]? = some v ∧ ps = ls ++ qs ++ rs ∧ S.R K Z H v qs x ∧ ∀ Z' H' qs' x', Same Z Z' → (∀ q ∈ ls ++ rs, H' q = H q) → S.R K Z' H' v qs' x' → allR S K Z' H' vs (ls ++ qs' ++ rs) (l.set i x')
  | a :: r, _, _, 0, x, ⟨v, ws, qs, rs, e1, e2, h1, h2⟩, e => by
    have e' : a = x := by simpa using e
    subst e'
    refine ⟨v, qs, [], rs, by rw [e1]; rfl, by rw [e2]; rfl, h1, fun Z' H' qs' x' s h hr => ⟨v, ws, qs', rs, e1, by simp, hr, allR_keep s (fun q hq => h q (by simpa using hq)) h2⟩⟩
  | a :: r, _, _, i + 1, x, ⟨v, ws, qs, rs, e1, e2, h1, h2⟩, e => by
    obtain ⟨v2, qs2, ls2, rs2, g1, g2, g3, g4⟩ := allR_at h2 (by simpa using e : r[i]? = some x)
    refine ⟨v2, qs2, qs ++ ls2, rs2, by rw [e1]; simpa using g1, by rw [e2, g2]; simp, g3, fun Z' H' qs' x' s h hr => ?_⟩
    refine ⟨v, ws, qs, ls2 ++ qs' ++ rs2, e1, by simp, S.keep s (fun q hq => h q (by simp [hq])) h1, ?_⟩
    exact g4 Z' H' qs' x' s (fun q hq => h q (by simp only [List.mem_append] at hq ⊢; rcases hq with hq | hq <;> simp [hq])) hr
theorem Within.item {α : Type} {S : Sh α} {K : Fr} {Z H : Hp} {v : V} {ps : List Addr} {l : List α} {i : Nat} {x : α} (h : (Sh.lst (ShL.all S)).R K Z H v ps l) (e : l[i]? = some x) :
    ∃ p xs u qs, v = .ref p ∧ H p = some (.lst xs) ∧ xs[i]? = some u ∧ xs.length = l.length ∧ Within S (Sh.lst (ShL.all S)) K Z H v ps u qs x (fun z => l.set i z) := by
  obtain ⟨p, xs, qs, e1, e2, h1, h2⟩ := h
  obtain ⟨u, qs2, ls, rs, g1, g2, g3, g4⟩ := allR_at h2 e
  refine ⟨p, xs, u, qs2, e1, h1, g1, allR_len h2, g3, p :: ls, rs, by rw [e2, g2]; simp, fun Z' H' qs' x' s hk hr => ?_⟩
  refine ⟨p, xs, ls ++ qs' ++ rs, e1, by simp, (hk p (by simp)).trans h1, g4 Z' H' qs' x' s (fun q hq => hk q (by simp only [List.mem_append] at hq; rcases hq with hq | hq <;> simp [hq])) hr⟩
end Cd

set_option Elab.async false
set_option linter.all false
set_option maxRecDepth 100000
set_option maxHeartbeats 4000000
namespace Cd
open PySem L2
/-! ### a def that changes what is its caller's own: ps are the places handed over -/
theorem delL_out {H : Hp} {ps : List Addr} {q : Addr} (h : q ∉ ps) : delL H ps q = H q := by unfold delL; rw [if_neg h]
theorem delL_in {H : Hp} {ps : List Addr} {q : Addr} (h : q ∈ ps) : delL H ps q = none := by unfold delL; rw [if_pos h]
theorem delL_same {H : Hp} {ps : List Addr} : Same (delL H ps) H := fun b u e => by
  by_cases h : b ∈ ps
  · rw [delL_in h] at e; cases e
  · rw [delL_out h] at e; exact e
/-- its own beginning -/
theorem Step.lent {Z H : Hp} {ps : List Addr} (s : Same Z H) : Step Z (delL H ps) Z H := ⟨delL_same, Same.refl _, s, fun _ _ _ => rfl⟩
section
variable {K : Fr} {Z H Z' H' Z0 H0 : Hp} {ps qs : List Addr}
/-- for the caller -/
theorem Step.back (c : Step Z0 H0 Z H) (n0 : ∀ q ∈ qs, H0 q = none) (st : Step Z (delL H qs) Z' H') : Step Z0 H0 Z' H' := by
  refine ⟨fun b u e => ?_, c.zz.trans st.zz, st.zh, fun b u e => ?_⟩
  · have hb : b ∉ qs := fun m => by rw [n0 b m] at e; cases e
    exact st.hh b u (by rw [delL_out hb]; exact c.hh b u e)
  · have hb : b ∉ qs := fun m => by rw [n0 b m] at e; cases e
    exact (st.fr b u (by rw [delL_out hb]; exact c.hh b u e)).trans (c.fr b u e)
theorem Own.stepD {α : Type} [Py α] {p : Addr} {l : List α} (o : Own K H0 Z H p l) (st : Step Z (delL H qs) Z' H') (hn : p ∉ qs) : Own K H0 Z' H' p l := by
  obtain ⟨⟨xs, h, pr⟩, nz, n0⟩ := o
  have e : delL H qs p = some (.lst xs) := by rw [delL_out hn]; exact h
  exact ⟨⟨xs, st.hh _ _ e, Paired.pImp (fun _ _ r => Py.mono st.zz r) pr⟩, (st.fr _ _ e).trans nz, n0⟩
theorem OwnO.stepD {α : Type} {S : Sh α} {v : V} {a : α} (o : OwnO S K H0 Z H v ps a) (st : Step Z (delL H qs) Z' H') (hn : ∀ q ∈ ps, q ∉ qs) : OwnO S K H0 Z' H' v ps a :=
  o.keep st.zz (fun q hq => by
    obtain ⟨w, hw⟩ := o.stands q hq
    rw [hw]
    exact st.hh _ _ (by rw [delL_out (hn q hq)]; exact hw)) fun q hq => by
    obtain ⟨w, hw⟩ := o.stands q hq
    exact st.fr _ _ (by rw [delL_out (hn q hq)]; exact hw)
end
/-! ### an object of one's own, by its attributes' values -/
structure Husk (C : Addr) (H0 Z H : Hp) (p dx : Addr) (fs : List (Str × V)) : Prop where
  at_ : H p = some (.ins C dx fs)
  dc : H dx = some (.own p)
  ne : p ≠ dx
  z1 : Z p = none
  z2 : Z dx = none
  n1 : H0 p = none
  n2 : H0 dx = none
section
variable {C : Addr} {H0 Z0 Z H Z' H' : Hp} {p dx : Addr} {fs fs2 : List (Str × V)}
theorem Husk.step (h : Husk C H0 Z H p dx fs) (st : Step Z H Z' H') : Husk C H0 Z' H' p dx fs :=
  ⟨st.hh _ _ h.at_, st.hh _ _ h.dc, h.ne, (st.fr _ _ h.at_).trans h.z1, (st.fr _ _ h.dc).trans h.z2, h.n1, h.n2⟩
theorem Husk.far {q : Addr} {u : HO} (h : Husk C H0 Z H p dx fs) (h1 : p ≠ q) (h2 : dx ≠ q) : Husk C H0 Z (upd H q u) p dx fs :=
  ⟨by rw [upd_ne h1]; exact h.at_, by rw [upd_ne h2]; exact h.dc, h.ne, h.z1, h.z2, h.n1, h.n2⟩
theorem Husk.set (h : Husk C H0 Z H p dx fs) {fs2 : List (Str × V)} : Husk C H0 Z (upd H p (.ins C dx fs2)) p dx fs2 :=
  ⟨upd_same, by rw [upd_ne h.ne.symm]; exact h.dc, h.ne, h.z1, h.z2, h.n1, h.n2⟩
theorem Husk.mut {f : Str} {v : V} (h : Husk C H0 Z H p dx fs) (c : Step Z0 H0 Z H) (e : putF f v fs = fs2) : Husk C H0 Z (upd H p (.ins C dx (putF f v fs))) p dx fs2 ∧ Step Z0 H0 Z (upd H p (.ins C dx (putF f v fs))) := by
  subst e
  exact ⟨h.set, c.mut h.z1 h.n1⟩
theorem Husk.of (hH : H p = some (.ins C dx fs)) (hD : H dx = some (.own p)) (hz : Same Z (delL H [p, dx])) : Husk C (delL H [p, dx]) Z H p dx fs :=
  ⟨hH, hD, (fun e => by subst e; rw [hH] at hD; cases hD), hz.free (delL_in (by simp)), hz.free (delL_in (by simp)), delL_in (by simp), delL_in (by simp)⟩
end
/-- a new thing of one's own comes -/
def NewO {α : Type} (S : Sh α) (K : Fr) (Z H : Hp) (Q : VK) (m : α) : Prop := ∀ v ps Z' H', Step Z H Z' H' → OwnO S K H Z' H' v ps m → Q v H'
theorem del_new {H : Hp} {x dx : Addr} {o : HO} {u : HO} (nx : H x = none) (ndx : H dx = none) (ne : dx ≠ x) : delL (upd (upd H dx u) x o) [x, dx] = H := by
  funext q
  by_cases h1 : q = x
  · subst h1; rw [delL_in (by simp), nx]
  · by_cases h2 : q = dx
    · subst h2; rw [delL_in (by simp), ndx]
    · rw [delL_out (by simp [h1, h2]), upd_ne h1, upd_ne h2]
end Cd
namespace Cd
open PySem L2
/-- the object classes' places -/
structure CB where
  (Wheel Counter Asking Machine Dealer Picker Rower Mater Firster Puncher Printer Clerk Desk : Addr)
theorem Husk.lent {C : Addr} {Z H : Hp} {p dx : Addr} {fs : List (Str × V)} (hH : H p = some (.ins C dx fs)) (hD : H dx = some (.own p)) (hz : ∀ q ∈ [p, dx], Z q = none) : Husk C (delL H [p, dx]) Z H p dx fs :=
  ⟨hH, hD, (fun e => by subst e; rw [hH] at hD; cases hD), hz _ (by simp), hz _ (by simp), delL_in (by simp), delL_in (by simp)⟩
end Cd
namespace Cd
open PySem L2
end Cd
namespace Cd
open PySem L2 PyProof.Rows
open PySem.Builtin PySem.Builtin.Str
theorem Sh.now {α : Type} (S : Sh α) {K : Fr} {Z0 H0 Z H : Hp} {v : V} {ps : List Addr} {a : α} (c : Step Z0 H0 Z H) (h : S.R K Z0 H0 v ps a) : S.R K Z H v ps a :=
  S.keep c.zz (fun q hq => by obtain ⟨u, hu⟩ := S.stands h q hq; rw [hu]; exact c.hh _ _ hu) h
end Cd

set_option Elab.async false
set_option linter.all false
set_option maxRecDepth 100000
set_option maxHeartbeats 4000000
namespace Cd
open PySem L2
/-! ### new objects -/
section
variable {α : Type} {S : Sh α} {K : Fr} {Z H Z0 H0 : Hp} {Q : VK} {m : α} {C x dx : Addr}
theorem NewO.own (c : Step Z0 H0 Z H) (k : ∀ v ps Z' H', Step Z H Z' H' → (∀ q ∈ ps, H q = none) → OwnO S K H0 Z' H' v ps m → Q v H') : NewO S K Z H Q m := fun v ps Z' H' st o =>
  k v ps Z' H' st o.n0 ⟨o.r, o.nd, o.nz, fun q hq => c.hh.free (o.n0 q hq)⟩
theorem OwnO.ne_old {v : V} {ps : List Addr} {q : Addr} {u : HO} {a : α} (o : OwnO S K H0 Z H v ps a) (h : H q = none) : ∀ b ∈ ps, b ≠ q := fun b hb e => by
  obtain ⟨w, hw⟩ := o.stands b hb
  rw [e, h] at hw; cases hw
/-! ### an item of a list of objects -/
theorem OwnO.at [Inhabited α] {p : Addr} {ps : List Addr} {l : List α} {i : Int} (o : OwnO (Sh.lst (ShL.all S)) K H0 Z H (.ref p) ps l) (h0 : 0 ≤ i) (h1 : i < l.length) :
    ∃ u qs, (∀ Q : VK, Q u H → rIxL K (.ref p) (.int i) H Q) ∧ Within S (Sh.lst (ShL.all S)) K Z H (.ref p) ps u qs (getI l i) (fun z => setI l i z) := by
  have e : l[i.toNat]? = some (getI l i) := by rw [getI_nat h0 h1]; exact List.getElem?_eq_getElem _
  obtain ⟨p', xs, u, qs, ev, hl, hx, hlen, wi⟩ := Within.item o.r e
  cases ev
  refine ⟨u, qs, fun Q hQ => ⟨p, xs, i, u, rfl, rfl, SqL.of hl, ?_, hQ⟩, ?_⟩
  · rw [atI_nat h0 (by rw [hlen]; exact h1)]
    exact hx
  · have : (fun z => setI l i z) = fun z => l.set i.toNat z := by funext z; exact setI_nat h0 h1
    rw [this]
    exact wi
theorem OwnO.rd [Inhabited α] {p : Addr} {ps : List Addr} {l : List α} {i : Int} (o : OwnO (Sh.lst (ShL.all S)) K H0 Z H (.ref p) ps l) (h0 : 0 ≤ i) (h1 : i < l.length) (k : ∀ u qs, S.R K Z H u qs (getI l i) → Q u H) : rIxL K (.ref p) (.int i) H Q := by
  obtain ⟨u, qs, rd, wi⟩ := o.at h0 h1
  exact rd Q (k u qs wi.r)
theorem Within.mem {α β : Type} {S : Sh α} {SO : Sh β} {K : Fr} {Z H : Hp} {v u : V} {ps qs : List Addr} {x : α} {put : α → β} (w : Within S SO K Z H v ps u qs x put) : ∀ q ∈ qs, q ∈ ps := by
  obtain ⟨_, ls, rs, e, _⟩ := w
  intro q hq
  rw [e]
  exact List.mem_append_left _ (List.mem_append_right _ hq)
end
end Cd

set_option Elab.async false
set_option linter.all false
set_option maxRecDepth 100000
set_option maxHeartbeats 4000000
namespace Cd
open PySem L2
/-! ### plain lists as parts of a thing -/
def Sh.lt (α : Type) [Py α] : Sh (List α) where
  R := fun K Z H v ps l => ∃ p xs, v = .ref p ∧ ps = [p] ∧ H p = some (.lst xs) ∧ Paired (Py.R K Z) xs l
  keep := fun s h ⟨p, xs, e1, e2, h1, h2⟩ => ⟨p, xs, e1, e2, (h p (by rw [e2]; simp)).trans h1, Paired.pImp (fun _ _ r => Py.mono s r) h2⟩
  stands := fun ⟨p, xs, e1, e2, h1, h2⟩ q hq => by rw [e2, List.mem_singleton] at hq; rw [hq]; exact ⟨_, h1⟩
section
variable {α : Type} [Py α] {K : Fr} {H0 Z H : Hp} {v : V} {ps : List Addr} {p : Addr} {l : List α}
theorem OwnO.own (o : OwnO (Sh.lt α) K H0 Z H v ps l) : ∃ p, v = .ref p ∧ ps = [p] ∧ Own K H0 Z H p l := by
  obtain ⟨⟨p, xs, e1, e2, h1, h2⟩, nd, nz, n0⟩ := o
  exact ⟨p, e1, e2, ⟨xs, h1, h2⟩, nz p (by rw [e2]; simp), n0 p (by rw [e2]; simp)⟩
theorem Own.shp (o : Own K H0 Z H p l) : OwnO (Sh.lt α) K H0 Z H (.ref p) [p] l := by
  obtain ⟨⟨xs, h1, h2⟩, nz, n0⟩ := o
  exact ⟨⟨p, xs, rfl, rfl, h1, h2⟩, by simp, fun q hq => by rw [List.mem_singleton] at hq; rw [hq]; exact nz, fun q hq => by rw [List.mem_singleton] at hq; rw [hq]; exact n0⟩
end
end Cd
namespace Cd
open PySem L2
/-- a plain dict as a part of a thing -/
def Sh.dc (κ α : Type) [Sc κ] [DecidableEq κ] [Kt κ] [Py α] : Sh (Dct κ α) where
  R := fun K Z H v ps d => ∃ p kvs, v = .ref p ∧ ps = [p] ∧ H p = some (.dK kvs) ∧ Paired (EntK K Z) kvs d.kv
  keep := fun s h ⟨p, xs, e1, e2, h1, h2⟩ => ⟨p, xs, e1, e2, (h p (by rw [e2]; simp)).trans h1, Paired.pImp (fun _ _ r => r.mono s) h2⟩
  stands := fun ⟨p, xs, e1, e2, h1, h2⟩ q hq => by rw [e2, List.mem_singleton] at hq; rw [hq]; exact ⟨_, h1⟩
section
variable {κ α : Type} [Sc κ] [DecidableEq κ] [Kt κ] [Py α] {K : Fr} {H0 Z H : Hp} {v : V} {ps : List Addr} {p : Addr} {d : Dct κ α}
theorem OwnO.ownD (o : OwnO (Sh.dc κ α) K H0 Z H v ps d) : ∃ p, v = .ref p ∧ ps = [p] ∧ OwnD K H0 Z H p d := by
  obtain ⟨⟨p, xs, e1, e2, h1, h2⟩, nd, nz, n0⟩ := o
  exact ⟨p, e1, e2, ⟨xs, h1, h2⟩, nz p (by rw [e2]; simp), n0 p (by rw [e2]; simp)⟩
theorem OwnD.shp (o : OwnD K H0 Z H p d) : OwnO (Sh.dc κ α) K H0 Z H (.ref p) [p] d := by
  obtain ⟨⟨xs, h1, h2⟩, nz, n0⟩ := o
  exact ⟨⟨p, xs, rfl, rfl, h1, h2⟩, by simp, fun q hq => by rw [List.mem_singleton] at hq; rw [hq]; exact nz, fun q hq => by rw [List.mem_singleton] at hq; rw [hq]; exact n0⟩
end
/-- seen, not changed: all of it told for the while -/
theorem Sh.seen {α : Type} (S : Sh α) {K : Fr} {Z H : Hp} {v : V} {ps : List Addr} {a : α} (zh : Same Z H) (h : S.R K Z H v ps a) : ∃ Z', Same Z Z' ∧ Same Z' H ∧ S.R K Z' Z' v ps a := by
  refine ⟨fun q => if q ∈ ps then H q else Z q, fun q u e => ?_, fun q u e => ?_, ?_⟩
  · show (if q ∈ ps then H q else Z q) = some u
    split
    · exact zh _ _ e
    · exact e
  · by_cases m : q ∈ ps
    · have e2 : (if q ∈ ps then H q else Z q) = some u := e
      rw [if_pos m] at e2; exact e2
    · have e2 : (if q ∈ ps then H q else Z q) = some u := e
      rw [if_neg m] at e2; exact zh _ _ e2
  · refine S.keep (fun q u e => ?_) (fun q hq => if_pos hq) h
    show (if q ∈ ps then H q else Z q) = some u
    split
    · exact zh _ _ e
    · exact e
end Cd

set_option Elab.async false
set_option linter.all false
set_option maxRecDepth 100000
set_option maxHeartbeats 4000000
namespace Cd
open PySem L2
/-! ### a row of things of one's own; an object opened and closed -/
structure OwnL {β : Type} (T : ShL β) (K : Fr) (H0 Z H : Hp) (vs : List V) (ps : List Addr) (b : β) : Prop where
  r : T.R K Z H vs ps b
  nd : ps.Nodup
  nz : ∀ q ∈ ps, Z q = none
  n0 : ∀ q ∈ ps, H0 q = none
section
variable {α β : Type} {S : Sh α} {T : ShL β} {K : Fr} {H0 Z H Z0 : Hp} {v : V} {vs : List V} {ps qs rs : List Addr} {a : α} {b : β}
theorem OwnL.nil : OwnL ShL.nil K H0 Z H [] [] () := ⟨⟨rfl, rfl⟩, List.nodup_nil, (fun _ h => nomatch h), (fun _ h => nomatch h)⟩
theorem OwnL.cons (o : OwnO S K H0 Z H v qs a) (l : OwnL T K H0 Z H vs rs b) (hd : ∀ x ∈ qs, ∀ y ∈ rs, x ≠ y) : OwnL (ShL.cons S T) K H0 Z H (v :: vs) (qs ++ rs) (a, b) :=
  ⟨⟨v, vs, qs, rs, rfl, rfl, o.r, l.r⟩, List.nodup_append.mpr ⟨o.nd, l.nd, hd⟩, fun q hq => (List.mem_append.mp hq).elim (o.nz q) (l.nz q), fun q hq => (List.mem_append.mp hq).elim (o.n0 q) (l.n0 q)⟩
theorem OwnO.opn {C : Addr} {ns : List Str} (o : OwnO (Sh.ins C ns T) K H0 Z H v ps b) : ∃ p dx xs qs, v = .ref p ∧ ps = p :: dx :: qs ∧ Husk C H0 Z H p dx (ns.zip xs) ∧ xs.length = ns.length ∧ OwnL T K H0 Z H xs qs b ∧ (∀ x ∈ qs, x ≠ p) ∧ ∀ x ∈ qs, x ≠ dx := by
  obtain ⟨⟨p, dx, xs, qs, rfl, rfl, h1, h2, hl, h3⟩, nd, nz, n0⟩ := o
  obtain ⟨m1, nd2⟩ := List.nodup_cons.mp nd
  obtain ⟨m2, nd3⟩ := List.nodup_cons.mp nd2
  refine ⟨p, dx, xs, qs, rfl, rfl, ⟨h1, h2, fun e => m1 (by rw [e]; exact List.mem_cons_self), nz _ List.mem_cons_self, nz _ (List.mem_cons_of_mem _ List.mem_cons_self), n0 _ List.mem_cons_self, n0 _ (List.mem_cons_of_mem _ List.mem_cons_self)⟩, hl,
    ⟨h3, nd3, fun q hq => nz q (List.mem_cons_of_mem _ (List.mem_cons_of_mem _ hq)), fun q hq => n0 q (List.mem_cons_of_mem _ (List.mem_cons_of_mem _ hq))⟩, fun x hx e => m1 (by rw [← e]; exact List.mem_cons_of_mem _ hx), fun x hx e => m2 (by rw [← e]; exact hx)⟩
theorem OwnO.cls {C p dx : Addr} {ns : List Str} {xs : List V} (h : Husk C H0 Z H p dx (ns.zip xs)) (hl : xs.length = ns.length) (l : OwnL T K H0 Z H xs qs b) (h1 : ∀ x ∈ qs, x ≠ p) (h2 : ∀ x ∈ qs, x ≠ dx) : OwnO (Sh.ins C ns T) K H0 Z H (.ref p) (p :: dx :: qs) b := by
  refine ⟨⟨p, dx, xs, qs, rfl, rfl, h.at_, h.dc, hl, l.r⟩, ?_, fun q hq => ?_, fun q hq => ?_⟩
  · refine List.nodup_cons.mpr ⟨fun m => ?_, List.nodup_cons.mpr ⟨fun m => h2 dx m rfl, l.nd⟩⟩
    rcases List.mem_cons.mp m with m | m
    · exact h.ne m
    · exact h1 p m rfl
  · rcases List.mem_cons.mp hq with rfl | hq
    · exact h.z1
    · rcases List.mem_cons.mp hq with rfl | hq
      · exact h.z2
      · exact l.nz q hq
  · rcases List.mem_cons.mp hq with rfl | hq
    · exact h.n1
    · rcases List.mem_cons.mp hq with rfl | hq
      · exact h.n2
      · exact l.n0 q hq
theorem OwnO.ofR [Py α] (h : Py.R K Z v a) : OwnO (Sh.told (α := α)) K H0 Z H v [] a := ⟨⟨rfl, h⟩, List.nodup_nil, (fun _ h => nomatch h), (fun _ h => nomatch h)⟩
end
end Cd
namespace Cd
open PySem L2
theorem OwnO.mkvia {α β : Type} {S : Sh β} {f : α → β} {K : Fr} {H0 Z H : Hp} {v : V} {ps : List Addr} {a : α} {b : β} (e : b = f a) (o : OwnO S K H0 Z H v ps b) : OwnO (S.via f) K H0 Z H v ps a := by subst e; exact ⟨o.r, o.nd, o.nz, o.n0⟩
end Cd
namespace Cd
open PySem L2
/-! ### apart, by pieces -/
section
variable {qs r1 r2 : List Addr} {p q : Addr}
end
end Cd

set_option Elab.async false
set_option linter.all false
set_option maxRecDepth 100000
set_option maxHeartbeats 4000000
namespace Cd
open PySem L2
/-! ### shapes that are data: told as a whole -/
class Dat {α : Type} [Py α] (S : Sh α) : Prop where
  dat : ∀ {K : Fr} {Z : Hp} {v : V} {ps : List Addr} {a : α}, S.R K Z Z v ps a → Py.R K Z v a
instance {α : Type} [Py α] : Dat (Sh.told (α := α)) := ⟨fun h => h.2⟩
instance {α : Type} [Py α] : Dat (Sh.lt α) := ⟨fun ⟨p, xs, e1, _, h1, h2⟩ => ⟨p, xs, e1, h1, h2⟩⟩
instance {κ α : Type} [Sc κ] [DecidableEq κ] [Kt κ] [Py α] : Dat (Sh.dc κ α) := ⟨fun ⟨p, xs, e1, _, h1, h2⟩ => ⟨p, xs, e1, h1, h2⟩⟩
theorem allR_dat {α : Type} [Py α] {S : Sh α} [Dat S] {K : Fr} {Z : Hp} : ∀ {l : List α} {vs : List V} {ps : List Addr}, allR S K Z Z vs ps l → Paired (Py.R K Z) vs l
  | [], _, _, ⟨e, _⟩ => by rw [e]; exact .nil
  | a :: r, _, _, ⟨v, ws, qs, rs, e1, e2, h1, h2⟩ => by rw [e1]; exact .cons (Dat.dat h1) (allR_dat h2)
instance {α : Type} [Py α] {S : Sh α} [Dat S] : Dat (Sh.lst (ShL.all S)) := ⟨fun ⟨p, xs, qs, e1, _, h1, h2⟩ => ⟨p, xs, e1, h1, allR_dat h2⟩⟩
/-- pairs, rows of three and four -/
def Sh.pr {α β : Type} (S : Sh α) (T : Sh β) : Sh (α × β) := (Sh.tup (ShL.cons S (ShL.cons T ShL.nil))).via fun p => (p.1, (p.2, ()))
def Sh.t4 {α β γ δ : Type} (S : Sh α) (T : Sh β) (U : Sh γ) (W : Sh δ) : Sh (T4 α β γ δ) := (Sh.tup (ShL.cons S (ShL.cons T (ShL.cons U (ShL.cons W ShL.nil))))).via fun p => (p.x1, (p.x2, (p.x3, (p.x4, ()))))
instance {α β : Type} [Py α] [Py β] {S : Sh α} {T : Sh β} [Dat S] [Dat T] : Dat (Sh.pr S T) := ⟨fun ⟨p, xs, qs, e1, _, h1, v, ws, q1, r1, e2, _, g1, v2, ws2, q2, r2, e3, _, g2, e4, _⟩ => ⟨p, v, v2, e1, by rw [h1, e2, e3, e4], Dat.dat g1, Dat.dat g2⟩⟩
instance {α β γ δ : Type} [Py α] [Py β] [Py γ] [Py δ] {S : Sh α} {T : Sh β} {U : Sh γ} {W : Sh δ} [Dat S] [Dat T] [Dat U] [Dat W] : Dat (Sh.t4 S T U W) := ⟨fun ⟨p, xs, qs, e1, _, h1, v, ws, q1, r1, e2, _, g1, v2, ws2, q2, r2, e3, _, g2, v3, ws3, q3, r3, e4, _, g3, v4, ws4, q4, r4, e5, _, g4, e6, _⟩ =>
  ⟨p, v, v2, v3, v4, e1, by rw [h1, e2, e3, e4, e5, e6], Dat.dat g1, Dat.dat g2, Dat.dat g3, Dat.dat g4⟩⟩
/-- None, or a thing -/
def Sh.opt {α : Type} (S : Sh α) : Sh (Option α) where
  R := fun K Z H v ps o => match o with
    | none => v = .non ∧ ps = []
    | some a => S.R K Z H v ps a
  keep := fun {K Z Z' H H' v ps a} s h r => by
    cases a with
    | none => exact r
    | some a => exact S.keep s h r
  stands := fun {K Z H v ps a} r => by
    cases a with
    | none => intro q hq; rw [r.2] at hq; cases hq
    | some a => exact S.stands r
instance {α : Type} [Py α] {S : Sh α} [Dat S] : Dat (Sh.opt S) := ⟨fun {K Z v ps a} r => by
  cases a with
  | none => exact r.1
  | some a => exact Dat.dat (S := S) r⟩
section
variable {α β : Type} {S : Sh α} {SO : Sh β} {K : Fr} {Z H Z' H' Z0 H0 Z2 H2 : Hp} {v u : V} {ps qs : List Addr} {a x : α} {b : β} {put : α → β} {Q : VK}
theorem OwnO.tell [Py α] [Dat S] (o : OwnO S K H0 Z H v ps a) (c : Step Z0 H0 Z H) : ∃ Z', Step Z0 H0 Z' H ∧ Same Z Z' ∧ Py.R K Z' v a ∧ ∀ q, q ∉ ps → Z' q = Z q := by
  have s := tellL_same (H := H) o.nz
  refine ⟨tellL Z H ps, tellL_step c o.nz o.n0, s, Dat.dat (S := S) (S.keep s (fun q hq => ?_) o.r), fun q hq => ?_⟩
  · unfold tellL; rw [if_pos hq]
  · unfold tellL; rw [if_neg hq]
/-- seen as data -/
theorem OwnO.see [Py α] [Dat S] (o : OwnO S K H0 Z H v ps a) : Py.R K (tellL Z H ps) v a :=
  Dat.dat (S := S) (S.keep (tellL_same (H := H) o.nz) (fun q hq => by unfold tellL; rw [if_pos hq]) o.r)
theorem OwnO.seez (o : OwnO S K H0 Z H v ps a) (zh : Same Z H) : Same (tellL Z H ps) H := fun q u e => by
  unfold tellL at e
  split at e
  · exact e
  · exact zh _ _ e
theorem OwnO.ret [Py α] [Dat S] (o : OwnO S K H0 Z H v ps a) (c : Step Z0 H0 Z H) (k : Tel K Z0 H0 Q a) : Q v H := by
  obtain ⟨Z', c', _, r, _⟩ := o.tell c
  exact k _ _ _ c' r
theorem NewO.tel [Py α] [Dat S] (zh : Same Z H) (k : Tel K Z H Q a) : NewO S K Z H Q a := fun v ps Z' H' st o => o.ret st k
theorem NewO.gen (k : ∀ n, n = a → NewO S K Z H Q n) : NewO S K Z H Q a := k a rfl
theorem NewO.after (c : Step Z0 H0 Z H) (k : NewO S K Z0 H0 Q a) : NewO S K Z H Q a := fun v ps Z' H' st o =>
  k v ps Z' H' (c.trans st) ⟨o.r, o.nd, o.nz, fun q hq => c.hh.free (o.n0 q hq)⟩
theorem OwnO.non : OwnO (Sh.opt S) K H0 Z H .non [] none := ⟨⟨rfl, rfl⟩, List.nodup_nil, (fun _ h => nomatch h), (fun _ h => nomatch h)⟩
/-! ### a thing within one's own thing -/
structure Leaf (S : Sh α) (SO : Sh β) (K : Fr) (H0 Z H : Hp) (v : V) (ps : List Addr) (u : V) (qs : List Addr) (x : α) (put : α → β) (b : β) : Prop where
  o : OwnO SO K H0 Z H v ps b
  w : Within S SO K Z H v ps u qs x put
theorem Leaf.sub (l : Leaf S SO K H0 Z H v ps u qs x put b) : OwnO S K H0 Z H u qs x := l.o.sub l.w
theorem Leaf.step (l : Leaf S SO K H0 Z H v ps u qs x put b) (st : Step Z H Z' H') : Leaf S SO K H0 Z' H' v ps u qs x put b := by
  obtain ⟨o, r, ls, rs, e, bk⟩ := l
  have hk : ∀ q ∈ ps, H' q = H q := fun q hq => by
    obtain ⟨w, hw⟩ := o.stands q hq
    rw [hw]; exact st.hh _ _ hw
  refine ⟨o.step st, S.keep st.zz (fun q hq => hk q (by rw [e]; simp [hq])) r, ls, rs, e, fun Z2 H2 qs' x' s h hr => bk Z2 H2 qs' x' (st.zz.trans s) (fun q hq => ?_) hr⟩
  rw [h q hq]
  exact hk q (by rw [e]; simp only [List.mem_append] at hq ⊢; rcases hq with hq | hq <;> simp [hq])
theorem Leaf.mem (l : Leaf S SO K H0 Z H v ps u qs x put b) : ∀ q ∈ qs, q ∈ ps := l.w.mem
/-- it is changed where it stands -/
theorem Leaf.back {q : Addr} {w : HO} {x' : α} (l : Leaf S SO K H0 Z H v ps u qs x put b) (hq : q ∈ qs) (r' : S.R K Z (upd H q w) u qs x') : OwnO SO K H0 Z (upd H q w) v ps (put x') := by
  obtain ⟨o, r, ls, rs, e, bk⟩ := l
  have hnd := o.nd
  rw [e] at hnd
  obtain ⟨n1, n2, n3⟩ := List.nodup_append.mp hnd
  obtain ⟨n4, n5, n6⟩ := List.nodup_append.mp n1
  have hne : ∀ p ∈ ls ++ rs, p ≠ q := fun p hp ep => by
    subst ep
    rcases List.mem_append.mp hp with hp | hp
    · exact n6 p hp p hq rfl
    · exact n3 p (List.mem_append_right _ hq) p hp rfl
  have h2 := bk Z (upd H q w) qs x' (Same.refl _) (fun p hp => upd_ne (hne p hp)) r'
  rw [← e] at h2
  exact ⟨h2, o.nd, o.nz, o.n0⟩
end
section
variable {β : Type} {SO : Sh β} {K : Fr} {Z H Z' H' Z0 H0 Z2 H2 : Hp} {v u : V} {ps qs : List Addr} {b : β} {Q : VK}
theorem Leaf.item {α : Type} [Inhabited α] {S : Sh α} {x : List α} {put : List α → β} {i : Int} (l : Leaf (Sh.lst (ShL.all S)) SO K H0 Z H v ps u qs x put b) (hi : inR x.length i) :
    ∃ w rs, (∀ Q : VK, Q w H → rIxL K u (.int i) H Q) ∧ Leaf S SO K H0 Z H v ps w rs (getI x i) (fun z => put (setI x i z)) b := by
  obtain ⟨j, hj, hl⟩ := ixN_some hi
  have e : x[j]? = some (getI x i) := by
    have h := atI_get hi
    unfold atI at h
    rw [hj] at h
    exact h
  obtain ⟨p, xs, w, rs, ev, h1, h2, hlen, wi⟩ := Within.item l.w.r e
  subst ev
  refine ⟨w, rs, fun Q hQ => ⟨p, xs, i, w, rfl, rfl, SqL.of h1, ?_, hQ⟩, l.o, ?_⟩
  · unfold atI
    rw [hlen, hj]
    exact h2
  · have e2 : (fun z => put (setI x i z)) = fun z => put (x.set j z) := by
      funext z
      unfold setI
      rw [hj]
    rw [e2]
    exact l.w.trans wi
theorem Leaf.snd {α γ : Type} {S : Sh α} {T : Sh γ} {x : α × γ} {put : α × γ → β} (l : Leaf (Sh.pr S T) SO K H0 Z H v ps u qs x put b) :
    ∃ w rs, (∀ Q : VK, Q w H → rIxT K u (.int 1) H Q) ∧ Leaf T SO K H0 Z H v ps w rs x.2 (fun z => put (x.1, z)) b := by
  obtain ⟨p, xs, qs', ev, e1, h1, w1, ws, q1, r1, e2, e3, g1, w2, ws2, q2, r2, e4, e5, g2, e6, e7⟩ := l.w.r
  subst ev e2 e4 e6 e1 e3 e5 e7
  refine ⟨w2, q2, fun Q hQ => ⟨p, _, 1, w2, rfl, rfl, SqT.of h1, rfl, hQ⟩, l.o, ?_⟩
  refine l.w.trans (put := fun z => (x.1, z)) ⟨g2, p :: q1, [], by simp, fun Z' H' qs' x' s hk hr => ?_⟩
  exact ⟨p, [w1, w2], q1 ++ (qs' ++ []), rfl, by simp, (hk p (by simp)).trans h1, w1, [w2], q1, qs' ++ [], rfl, rfl, S.keep s (fun q hq => hk q (by simp [hq])) g1, w2, [], qs', [], rfl, rfl, hr, rfl, rfl⟩
/-! ### reading -/
theorem OwnO.tyL {α : Type} {S : Sh α} {x : List α} (o : OwnO (Sh.lst (ShL.all S)) K H0 Z H u qs x) : tyV K "list" u H := by
  obtain ⟨p, xs, qs', rfl, _, h1, h2⟩ := o.r
  exact .inl ⟨rfl, xs, SqL.of h1⟩
end
section
variable {α : Type} {S : Sh α} {K : Fr} {Z H Z' H' Z0 H0 Z2 H2 : Hp} {v : V} {ps : List Addr} {a : α} {Q : VK}
theorem Pd.ownO [Py α] [DecidableEq α] [PyD α] [Dat S] (c : Step Z0 H0 Z H) (o : OwnO S K H0 Z H v ps a) : Pd K H v a := Pd.ref (o.seez c.zh) o.see
theorem Pt.ownO [Py α] [PtT α] [Dat S] (c : Step Z0 H0 Z H) (o : OwnO S K H0 Z H v ps a) : Pt K H v (PtT.t α) := PtT.pt (o.seez c.zh) o.see
/-! ### displays of things of one's own -/
theorem OwnL.nilA : OwnL (ShL.all S) K H0 Z H [] [] [] := ⟨⟨rfl, rfl⟩, List.nodup_nil, (fun _ h => nomatch h), (fun _ h => nomatch h)⟩
theorem OwnL.consA {vs : List V} {qs rs : List Addr} {l : List α} (o : OwnO S K H0 Z H v qs a) (t : OwnL (ShL.all S) K H0 Z H vs rs l) (hd : ∀ x ∈ qs, ∀ y ∈ rs, x ≠ y) : OwnL (ShL.all S) K H0 Z H (v :: vs) (qs ++ rs) (a :: l) :=
  ⟨⟨v, vs, qs, rs, rfl, rfl, o.r, t.r⟩, List.nodup_append.mpr ⟨o.nd, t.nd, hd⟩, fun q hq => (List.mem_append.mp hq).elim (o.nz q) (t.nz q), fun q hq => (List.mem_append.mp hq).elim (o.n0 q) (t.n0 q)⟩
end
section
variable {β : Type} {T : ShL β} {K : Fr} {Z H Z0 H0 : Hp} {vs : List V} {qs : List Addr} {b : β} {Q : VK}
theorem OwnL.step {Z' H' : Hp} (l : OwnL T K H0 Z H vs qs b) (st : Step Z H Z' H') : OwnL T K H0 Z' H' vs qs b :=
  ⟨T.keep st.zz (fun q hq => by obtain ⟨w, hw⟩ := T.stands l.r q hq; rw [hw]; exact st.hh _ _ hw) l.r, l.nd, fun q hq => by obtain ⟨w, hw⟩ := T.stands l.r q hq; exact (st.fr _ _ hw).trans (l.nz q hq), l.n0⟩
theorem OwnL.wrapL (c : Step Z0 H0 Z H) (l : OwnL T K H0 Z H vs qs b) {p : Addr} (hp : H p = none) : OwnO (Sh.lst T) K H0 Z (upd H p (.lst vs)) (.ref p) (p :: qs) b := by
  have l2 := l.step (Step.own (o := .lst vs) c.zh hp)
  refine ⟨⟨p, vs, qs, rfl, rfl, upd_same, l2.r⟩, List.nodup_cons.mpr ⟨fun h => ?_, l.nd⟩, fun q hq => ?_, fun q hq => ?_⟩
  · obtain ⟨w, hw⟩ := T.stands l.r p h
    rw [hp] at hw; cases hw
  · rcases List.mem_cons.mp hq with rfl | hq
    · exact c.zh.free hp
    · exact l.nz q hq
  · rcases List.mem_cons.mp hq with rfl | hq
    · exact c.hh.free hp
    · exact l.n0 q hq
end
/-! ### a list of things of one's own that grows -/
theorem allR_snoc {α : Type} {S : Sh α} {K : Fr} {Z H : Hp} {v : V} {qs : List Addr} {a : α} (h : S.R K Z H v qs a) : ∀ {l : List α} {vs : List V} {ps : List Addr}, allR S K Z H vs ps l → allR S K Z H (vs ++ [v]) (ps ++ qs) (l ++ [a])
  | [], _, _, ⟨e1, e2⟩ => by rw [e1, e2]; exact ⟨v, [], qs, [], rfl, by simp, h, rfl, rfl⟩
  | b :: r, _, _, ⟨w, ws, q1, r1, e1, e2, h1, h2⟩ => ⟨w, ws ++ [v], q1, r1 ++ qs, by rw [e1]; rfl, by rw [e2]; simp, h1, allR_snoc h h2⟩
section
variable {α : Type} {S : Sh α} {K : Fr} {Z H Z0 H0 : Hp} {v : V} {p : Addr} {ps qs : List Addr} {a : α} {l : List α} {Q : VK}
theorem Own.toO [Py α] (o : Own K H0 Z H p ([] : List α)) : OwnO (Sh.lst (ShL.all S)) K H0 Z H (.ref p) [p] ([] : List α) := by
  obtain ⟨⟨xs, h, pr⟩, nz, n0⟩ := o
  cases pr
  exact ⟨⟨p, [], [], rfl, rfl, h, rfl, rfl⟩, by simp, fun q hq => by rw [List.mem_singleton] at hq; rw [hq]; exact nz, fun q hq => by rw [List.mem_singleton] at hq; rw [hq]; exact n0⟩
theorem OwnO.push (o : OwnO (Sh.lst (ShL.all S)) K H0 Z H (.ref p) ps l) (o2 : OwnO S K H0 Z H v qs a) (hd : ∀ x ∈ ps, ∀ y ∈ qs, x ≠ y) (hs : l.length < sizeLine)
    (k : ∀ u, OwnO (Sh.lst (ShL.all S)) K H0 Z (upd H p u) (.ref p) (ps ++ qs) (l ++ [a]) → p ∈ ps → Q .non (upd H p u)) : rAppend (.ref p) [v] H Q := by
  obtain ⟨⟨p', xs, rs, ev, e1, h1, h2⟩, nd, nz, n0⟩ := o
  cases ev
  subst e1
  have hnp : p ∉ rs := (List.nodup_cons.mp nd).1
  have hpq : ∀ y ∈ qs, p ≠ y := hd p (by simp)
  refine ⟨p, xs, v, rfl, rfl, h1, by rw [allR_len h2]; exact hs, k _ ⟨⟨p, xs ++ [v], rs ++ qs, rfl, by simp, upd_same, allR_snoc (S.keep (Same.refl _) (fun q hq => upd_ne (fun e => hpq q hq e.symm)) o2.r) (allR_keep (Same.refl _) (fun q hq => upd_ne (fun e => hnp (e ▸ hq))) h2)⟩, ?_, ?_, ?_⟩ (by simp)⟩
  · exact List.nodup_append.mpr ⟨nd, o2.nd, hd⟩
  · exact fun q hq => (List.mem_append.mp hq).elim (nz q) (o2.nz q)
  · exact fun q hq => (List.mem_append.mp hq).elim (n0 q) (o2.n0 q)
theorem OwnO.here (o : OwnO (Sh.lst (ShL.all S)) K H0 Z H (.ref p) ps l) : p ∈ ps ∧ Z p = none ∧ H0 p = none := by
  obtain ⟨⟨p', xs, rs, ev, e1, h1, h2⟩, nd, nz, n0⟩ := o
  cases ev
  subst e1
  exact ⟨by simp, nz p (by simp), n0 p (by simp)⟩
end
/-! ### names of places -/
section
variable {α β : Type} {S : Sh α} {T : Sh β} {TL : ShL β} {K : Fr} {Z H Z0 H0 : Hp} {v : V} {p : Addr} {ps qs : List Addr}
theorem Own.ne_o {γ : Type} [Py γ] {l : List γ} (o : Own K H0 Z H p l) (h : ∀ q ∈ qs, H q = none) : ∀ x ∈ qs, x ≠ p := fun x hx e => by
  obtain ⟨w, hw⟩ := o.at
  rw [← e, h x hx] at hw; cases hw
theorem OwnD.ne_o {κ γ : Type} [Sc κ] [DecidableEq κ] [Kt κ] [Py γ] {l : Dct κ γ} (o : OwnD K H0 Z H p l) (h : ∀ q ∈ qs, H q = none) : ∀ x ∈ qs, x ≠ p := fun x hx e => by
  obtain ⟨w, hw⟩ := o.at
  rw [← e, h x hx] at hw; cases hw
theorem OwnN.ne_o {γ : Type} [Py γ] {l : List (List γ)} {rs : List Addr} (o : OwnN K H0 Z H p rs l) (h : ∀ q ∈ qs, H q = none) : ∀ x ∈ qs, ∀ y ∈ p :: rs, x ≠ y := fun x hx y hy e => by
  obtain ⟨w, hw⟩ := o.stands y hy
  rw [← e, h x hx] at hw; cases hw
end
/-! ### lent, with nothing kept of what was told: the answer is plain -/
section
variable {α : Type} {S : Sh α} {K : Fr} {Z Zb H : Hp} {Q : VK}
end
end Cd

set_option Elab.async false
set_option linter.all false
set_option maxRecDepth 100000
set_option maxHeartbeats 4000000
namespace Cd
open PySem L2 PyProof.Rows
/-! ### walks over rows of three and four -/
section
variable {K : Fr} {J : It} {tb : TS} {D : Ends} {σ : L2.St} {H Z : Hp}
end
section
variable {K : Fr} {J : It} {tt : TT} {te : TE} {σ : L2.St} {H Z : Hp} {vs : List Nat} {Q : VK}
end
/-! ### apart -/
section
variable {qs rs r1 r2 : List Addr} {p q : Addr}
end
section
variable {K : Fr} {Z H H0 : Hp} {p : Addr}
theorem Own.stn {α : Type} [Py α] {l : List α} (o : Own K H0 Z H p l) : ∀ y ∈ [p], ∃ u, H y = some u := fun y hy => by rw [List.mem_singleton.mp hy]; exact o.at
theorem OwnD.stn {κ α : Type} [Sc κ] [DecidableEq κ] [Kt κ] [Py α] {l : Dct κ α} (o : OwnD K H0 Z H p l) : ∀ y ∈ [p], ∃ u, H y = some u := fun y hy => by rw [List.mem_singleton.mp hy]; exact o.at
theorem OwnN.stn {α : Type} [Py α] {ps : List Addr} {l : List (List α)} (o : OwnN K H0 Z H p ps l) : ∀ y ∈ p :: ps, ∃ u, H y = some u := o.stands
theorem OwnO.stn {α : Type} {S : Sh α} {v : V} {ps : List Addr} {a : α} (o : OwnO S K H0 Z H v ps a) : ∀ y ∈ ps, ∃ u, H y = some u := o.stands
theorem OwnN.toO {α : Type} [Py α] {ps : List Addr} {m : List (List α)} (o : OwnN K H0 Z H p ps m) : OwnO (Sh.lst (ShL.all (Sh.lt α))) K H0 Z H (.ref p) (p :: ps) m := by
  obtain ⟨top, inn, nd, nz, n0⟩ := o
  refine ⟨⟨p, ps.map V.ref, ps, rfl, rfl, top, ?_⟩, nd, nz, n0⟩
  have key : ∀ {as : List Addr} {m : List (List α)}, Paired (fun a l => ∃ xs, H a = some (.lst xs) ∧ Paired (Py.R K Z) xs l) as m → allR (Sh.lt α) K Z H (as.map V.ref) as m := by
    intro as m h
    induction h with
    | nil => exact ⟨rfl, rfl⟩
    | cons r t ih =>
      obtain ⟨xs, hx, pr⟩ := r
      exact ⟨_, _, [_], _, rfl, rfl, ⟨_, xs, rfl, rfl, hx, pr⟩, ih⟩
  exact key inn
end
end Cd
namespace Cd
open PySem L2 PyProof.Rows
/-! ### new things of one's own, behind a loan -/
class NoZS {α : Type} (S : Sh α) : Prop where
  back : ∀ {K : Fr} {Z Z' H : Hp} {v : V} {ps : List Addr} {a : α}, S.R K Z H v ps a → S.R K Z' H v ps a
instance {α : Type} [Py α] [NoZ α] : NoZS (Sh.told (α := α)) := ⟨fun h => ⟨h.1, NoZ.back h.2⟩⟩
instance {α : Type} [Py α] [NoZ α] : NoZS (Sh.lt α) := ⟨fun ⟨p, xs, e1, e2, h1, h2⟩ => ⟨p, xs, e1, e2, h1, Paired.pImp (fun _ _ r => NoZ.back r) h2⟩⟩
instance {κ α : Type} [Sc κ] [DecidableEq κ] [Kt κ] [Py α] [NoZ α] : NoZS (Sh.dc κ α) := ⟨fun ⟨p, xs, e1, e2, h1, h2⟩ => ⟨p, xs, e1, e2, h1, Paired.pImp (fun _ _ r => ⟨r.1, NoZ.back r.2⟩) h2⟩⟩
theorem allR_noz {α : Type} {S : Sh α} [NoZS S] {K : Fr} {Z Z' H : Hp} : ∀ {l : List α} {vs : List V} {ps : List Addr}, allR S K Z H vs ps l → allR S K Z' H vs ps l
  | [], _, _, h => h
  | a :: r, _, _, ⟨v, ws, qs, rs, e1, e2, h1, h2⟩ => ⟨v, ws, qs, rs, e1, e2, NoZS.back h1, allR_noz h2⟩
instance {α : Type} {S : Sh α} [NoZS S] : NoZS (Sh.lst (ShL.all S)) := ⟨fun ⟨p, xs, qs, e1, e2, h1, h2⟩ => ⟨p, xs, qs, e1, e2, h1, allR_noz h2⟩⟩
instance {α β : Type} {S : Sh α} {T : Sh β} [NoZS S] [NoZS T] : NoZS (Sh.pr S T) := ⟨fun ⟨p, xs, qs, e1, e0, h1, v, ws, q1, r1, e2, f2, g1, v2, ws2, q2, r2, e3, f3, g2, e4, f4⟩ => ⟨p, xs, qs, e1, e0, h1, v, ws, q1, r1, e2, f2, NoZS.back (S := S) g1, v2, ws2, q2, r2, e3, f3, NoZS.back (S := T) g2, e4, f4⟩⟩
instance {α β γ δ : Type} {S : Sh α} {T : Sh β} {U : Sh γ} {W : Sh δ} [NoZS S] [NoZS T] [NoZS U] [NoZS W] : NoZS (Sh.t4 S T U W) := ⟨fun ⟨p, xs, qs, e1, e0, h1, v, ws, q1, r1, e2, f2, g1, v2, ws2, q2, r2, e3, f3, g2, v3, ws3, q3, r3, e4, f4, g3, v4, ws4, q4, r4, e5, f5, g4, e6, f6⟩ =>
  ⟨p, xs, qs, e1, e0, h1, v, ws, q1, r1, e2, f2, NoZS.back (S := S) g1, v2, ws2, q2, r2, e3, f3, NoZS.back (S := T) g2, v3, ws3, q3, r3, e4, f4, NoZS.back (S := U) g3, v4, ws4, q4, r4, e5, f5, NoZS.back (S := W) g4, e6, f6⟩⟩
instance {α : Type} {S : Sh α} [NoZS S] : NoZS (Sh.opt S) := ⟨fun {K Z Z' H v ps a} r => by
  cases a with
  | none => exact r
  | some a => exact NoZS.back (S := S) r⟩
section
variable {α : Type} {S : Sh α} {K : Fr} {Z Zb H : Hp} {Q : VK} {m : α} {ps : List Addr}
theorem NewO.bor [NoZS S] (s : Same Z Zb) (zh : Same Zb H) (k : NewO S K Z H Q m) : NewO S K Zb H Q m := fun v qs Z' H' st o =>
  k v qs Z H' (Step.bor (s.trans zh) s st) ⟨NoZS.back o.r, o.nd, fun q hq => (s.trans zh).free (o.n0 q hq), o.n0⟩
theorem NewO.brw [NoZS S] (b : Brw Z Zb ps) (zh : Same Z H) (k : NewO S K Z H Q m) : NewO S K Zb H Q m := fun v qs Z' H' st o =>
  k v qs _ H' (b.step zh st) ⟨NoZS.back o.r, o.nd, fun q hq => by unfold delL; split; rfl; exact o.nz q hq, o.n0⟩
end
end Cd
namespace Cd
open PySem L2 PyProof.Rows
end Cd
namespace Cd
open PySem L2 PyProof.Rows
section
variable {K : Fr} {Z H H0 : Hp} {u : V} {qs : List Addr} {Q : VK}
end
end Cd

set_option Elab.async false
set_option linter.all false
set_option maxRecDepth 100000
set_option maxHeartbeats 4000000
namespace Cd
open PySem L2 PyProof.Rows
/-! ### rows of three in their order -/
section
variable {α β γ : Type} [Py α] [DecidableEq α] [PyD α] [Py β] [DecidableEq β] [PyD β] [Py γ] [DecidableEq γ] [PyD γ] [SrtD α] [SrtD β] [SrtD γ]
theorem leD_t3 (p q : T3 α β γ) : leD p q = if p.x1 = q.x1 then (if p.x2 = q.x2 then leD p.x3 q.x3 else leD p.x2 q.x2) else leD p.x1 q.x1 := by
  show (!PySem.W.dataLt (.tuple [PyD.d q.x1, PyD.d q.x2, PyD.d q.x3]) (.tuple [PyD.d p.x1, PyD.d p.x2, PyD.d p.x3])) = _
  rw [PySem.W.dataLt_tuple, PySem.W.dataLt_cons (SrtD.alike _ _), PySem.W.dataLt_cons (SrtD.alike _ _), PySem.W.dataLt_cons (SrtD.alike _ _), PyD.eqv, PyD.eqv, PyD.eqv]
  by_cases h : q.x1 = p.x1
  · rw [if_pos (decide_eq_true h), if_pos h.symm]
    by_cases h2 : q.x2 = p.x2
    · rw [if_pos (decide_eq_true h2), if_pos h2.symm]
      by_cases h3 : q.x3 = p.x3
      · rw [if_pos (decide_eq_true h3), h3, leD_refl]
        rfl
      · rw [if_neg (by simpa using h3)]
        rfl
    · rw [if_neg (by simpa using h2), if_neg (fun e => h2 e.symm)]
      rfl
  · rw [if_neg (by simpa using h), if_neg (fun e => h e.symm)]
    rfl
theorem leD_t3p (p q : T3 α β γ) : leD p q = leD (p.x1, (p.x2, p.x3)) (q.x1, (q.x2, q.x3)) := by
  rw [leD_t3, leD_pair, leD_pair]
instance [OrdD α] [OrdD β] [OrdD γ] : OrdD (T3 α β γ) := ⟨fun a b c h1 h2 => by
  rw [leD_t3p] at *
  exact OrdD.tr _ _ _ h1 h2, fun a b => by
  rw [leD_t3p, leD_t3p]
  exact OrdD.tot _ _, fun a b h1 h2 => by
  rw [leD_t3p] at h1 h2
  have := OrdD.anti _ _ h1 h2
  cases a; cases b
  simp only [Prod.mk.injEq] at this
  obtain ⟨e1, e2, e3⟩ := this
  subst e1 e2 e3
  rfl⟩
end
end Cd

set_option Elab.async false
set_option linter.all false
set_option maxRecDepth 100000
set_option maxHeartbeats 4000000
namespace Cd
open PySem L2 PyProof.Rows
/-! ### tuples of one kind -/
structure TL (α : Type) where
  l : List α
deriving DecidableEq, Inhabited
instance {α : Type} [Py α] : Py (TL α) where
  R K Z v t := ∃ a xs, v = .ref a ∧ Z a = some (.tup xs) ∧ Paired (Py.R K Z) xs t.l
  mono := fun {K Z Z' v l} s h => by
    obtain ⟨a, xs, e, hz, p⟩ := h
    exact ⟨a, xs, e, s _ _ hz, Paired.pImp (fun _ _ r => Py.mono s r) p⟩
instance {α : Type} [Py α] [DecidableEq α] [PyD α] : PyD (TL α) where
  d t := .tuple (t.l.map PyD.d)
  dp := fun zh h => by
    obtain ⟨a, xs, rfl, hz, p⟩ := h
    exact .tup (SqT.of (zh _ _ hz)) (dpAll zh p)
  eqv := fun l m => by
    show PyData.eqvAll (l.l.map PyD.d) (m.l.map PyD.d) = _
    rw [eqvAll_map]
    obtain ⟨l⟩ := l
    obtain ⟨m⟩ := m
    exact decide_eq_decide.mpr ⟨fun h => by rw [show l = m from h], fun h => by injection h⟩
  dep := PyD.dep α + 1
  depth := fun l => Nat.succ_le_succ (depthAll_map l.l)
instance {α : Type} [Py α] [DecidableEq α] [PyD α] : PyN (TL α) := ⟨fun _ => by simp [PyD.d, PyData.eqv], fun _ => by simp [PyD.d, PyData.eqv]⟩
instance {α : Type} [Py α] : Nn (TL α) := ⟨fun h e => by obtain ⟨a, xs, e2, _⟩ := h; rw [e2] at e; cases e⟩
theorem Pt.tl {K : Fr} {Z H : Hp} {α : Type} [Py α] {v : V} {t : TL α} (zh : Same Z H) (h : Py.R K Z v t) : Pt K H v "tuple" := by
  obtain ⟨a, xs, rfl, hz, _⟩ := h
  exact .of (.base (.tup (zh _ _ hz)))
instance {α : Type} [Py α] : PtT (TL α) := ⟨"tuple", fun zh h => Pt.tl zh h⟩
instance {α : Type} [Py α] [NL α] : NL (TL α) := ⟨fun h r => by
  obtain ⟨a, xs, e, hz, p⟩ := r
  exact ⟨a, xs, e, delL_tup h hz, Paired.pImp (fun _ _ r => NL.back h r) p⟩⟩
section
variable {K : Fr} {Z H Z0 H0 : Hp} {Q : VK} {v x y : V} {α : Type} [Py α]
theorem Tel.lay {t : TL α} {xs : List V} (s : Same Z H) (pr : Paired (Py.R K Z) xs t.l) (k : Tel K Z H Q t) : ∀ p, H p = none → Q (.ref p) (upd H p (.tup xs)) := fun p hp => by
  have st := Step.new (o := .tup xs) s hp
  exact k _ _ _ st ⟨p, xs, rfl, upd_same, Paired.pImp (fun _ _ r => Py.mono st.zz r) pr⟩
theorem Tel.old {t : TL α} (s : Same Z H) (h : Py.R K Z v t) (k : Tel K Z H Q t) : Q v H := k _ _ _ (Step.refl s) h
theorem k_tupTL {xs : List V} {m : List α} (zh : Same Z H) (pr : Paired (Py.R K Z) xs m) (hs : xs.length ≤ sizeLine) (k : Tel K Z H Q (⟨m⟩ : TL α)) : rTupQ xs H Q := ⟨hs, fun p hp => Tel.lay zh (t := ⟨m⟩) pr k p hp⟩
end
/-! of one's own -/
def Sh.tl {α : Type} (S : Sh α) : Sh (TL α) := (Sh.tup (ShL.all S)).via TL.l
instance {α : Type} [Py α] {S : Sh α} [Dat S] : Dat (Sh.tl S) := ⟨fun ⟨p, xs, qs, e1, _, h1, h2⟩ => ⟨p, xs, e1, h1, allR_dat h2⟩⟩
instance {α : Type} {S : Sh α} [NoZS S] : NoZS (Sh.tl S) := ⟨fun ⟨p, xs, qs, e1, e2, h1, h2⟩ => ⟨p, xs, qs, e1, e2, h1, allR_noz h2⟩⟩
section
variable {α β : Type} {S : Sh α} {SO : Sh β} {K : Fr} {Z H Z' H' Z0 H0 Z2 H2 : Hp} {v u : V} {ps qs : List Addr} {b : β} {Q : VK}
end
end Cd
namespace Cd
end Cd

set_option Elab.async false
set_option linter.all false
set_option maxRecDepth 100000
set_option maxHeartbeats 4000000
namespace Cd
open PySem L2 PyProof.Rows
/-! ### a dict that may be locked: it can be read -/
structure FD (κ α : Type) where
  d : Dct κ α
section
variable {κ α : Type} [Sc κ] [DecidableEq κ] [Kt κ] [Py α]
instance : Py (FD κ α) where
  R K Z v f := ∃ a kvs, v = .ref a ∧ Rd Z a (.dK kvs) ∧ Paired (EntK K Z) kvs f.d.kv
  mono := fun {K Z Z' v l} s h => by
    obtain ⟨a, xs, e, hz, p⟩ := h
    refine ⟨a, xs, e, ?_, Paired.pImp (fun _ _ r => r.mono s) p⟩
    rcases hz with hz | ⟨o, hz⟩
    · exact .inl (s _ _ hz)
    · exact .inr ⟨o, s _ _ hz⟩
theorem FD.of {K : Fr} {Z : Hp} {v : V} {m : Dct κ α} (h : Py.R K Z v m) : Py.R K Z v (FD.mk m) := let ⟨a, xs, e, hz, pr⟩ := h; ⟨a, xs, e, .inl hz, pr⟩
theorem RD.fd {K : Fr} {Z H : Hp} {v : V} {m : Dct κ α} (zh : Same Z H) (h : Py.R K Z v (FD.mk m)) : RD K Z H v m := by
  obtain ⟨a, xs, e, hz, pr⟩ := h
  refine ⟨a, xs, e, ?_, pr⟩
  rcases hz with hz | ⟨o, hz⟩
  · exact .inl (zh _ _ hz)
  · exact .inr ⟨o, zh _ _ hz⟩
end
/-! ### locking -/
def FzR (Z Z' : Hp) : Prop := ∀ b u, Z b = some u → (∀ kvs, u ≠ .dK kvs) → (∀ o kvs, u ≠ .frz o (.dK kvs)) → Z' b = some u
class ND (α : Type) [Py α] : Prop where
  fz : ∀ {K : Fr} {Z Z' : Hp} {v : V} {a : α}, FzR Z Z' → Py.R K Z v a → Py.R K Z' v a
instance (priority := low) {α : Type} [Py α] [NoZ α] : ND α := ⟨fun _ h => NoZ.back h⟩
theorem FzR.l {Z Z' : Hp} (s : FzR Z Z') {b : Addr} {xs : List V} (h : Z b = some (.lst xs)) : Z' b = some (.lst xs) := s _ _ h (fun _ e => nomatch e) (fun _ _ e => nomatch e)
theorem FzR.t {Z Z' : Hp} (s : FzR Z Z') {b : Addr} {xs : List V} (h : Z b = some (.tup xs)) : Z' b = some (.tup xs) := s _ _ h (fun _ e => nomatch e) (fun _ _ e => nomatch e)
instance {α : Type} [Py α] [ND α] : ND (List α) := ⟨fun s h => let ⟨a, xs, e, hz, p⟩ := h; ⟨a, xs, e, s.l hz, Paired.pImp (fun _ _ r => ND.fz s r) p⟩⟩
instance {α : Type} [Py α] [ND α] : ND (TL α) := ⟨fun s h => let ⟨a, xs, e, hz, p⟩ := h; ⟨a, xs, e, s.t hz, Paired.pImp (fun _ _ r => ND.fz s r) p⟩⟩
instance {α β : Type} [Py α] [Py β] [ND α] [ND β] : ND (α × β) := ⟨fun s h => let ⟨a, x, y, e, hz, p, q⟩ := h; ⟨a, x, y, e, s.t hz, ND.fz s p, ND.fz s q⟩⟩
instance {α β γ : Type} [Py α] [Py β] [Py γ] [ND α] [ND β] [ND γ] : ND (T3 α β γ) := ⟨fun s h => let ⟨a, x, y, z, e, hz, p, q, r⟩ := h; ⟨a, x, y, z, e, s.t hz, ND.fz s p, ND.fz s q, ND.fz s r⟩⟩
instance {α β γ δ : Type} [Py α] [Py β] [Py γ] [Py δ] [ND α] [ND β] [ND γ] [ND δ] : ND (T4 α β γ δ) := ⟨fun s h => let ⟨a, x, y, z, w, e, hz, p, q, r, t⟩ := h; ⟨a, x, y, z, w, e, s.t hz, ND.fz s p, ND.fz s q, ND.fz s r, ND.fz s t⟩⟩
instance {α : Type} [Py α] [ND α] : ND (Option α) := ⟨fun {K Z Z' v a} s h => by
  cases a with
  | none => exact h
  | some a => exact ND.fz (α := α) s h⟩
instance : ND Scr := ⟨fun {K Z Z' v l} s h => by
  obtain ⟨a, e, hz⟩ := h
  refine ⟨a, e, ?_⟩
  rcases hz with (hz | ⟨o, hz⟩) | hz
  · exact .inl (.inl (s.l hz))
  · exact .inl (.inr ⟨o, s _ _ hz (fun _ e => nomatch e) (fun _ _ e => by injection e with _ e2; cases e2)⟩)
  · exact .inr hz⟩
instance {α β γ : Type} [Py α] [Py β] [Py γ] [ND α] [ND β] [ND γ] : ND (TO α β γ) := ⟨fun {K Z Z' v p} s r => by
  obtain ⟨x1, x2, x3⟩ := p
  obtain ⟨a, x, y, e, h1, h2, h3⟩ := r
  refine ⟨a, x, y, e, ND.fz s h1, ND.fz s h2, ?_⟩
  cases x3 with
  | none => exact s.t h3
  | some c =>
    obtain ⟨z, hz, h4⟩ := h3
    exact ⟨z, s.t hz, ND.fz s h4⟩⟩
section
variable {K : Fr} {Z H Z0 H0 Z' H' : Hp} {d : Addr} {kvs : List (Key × V)} {od : Obj}
theorem Step.lock (c : Step Z0 H0 Z H) (hd : Z d = some (.dK kvs)) (od : Obj) : Step (delL Z0 [d]) (delL H0 [d]) (upd Z d (.frz od (.dK kvs))) (upd H d (.frz od (.dK kvs))) := by
  refine ⟨fun b u e => ?_, fun b u e => ?_, fun b u e => ?_, fun b u e => ?_⟩
  · by_cases q : b = d
    · subst q; unfold delL at e; rw [if_pos (by simp)] at e; cases e
    · unfold delL at e; rw [if_neg (by simpa using q)] at e; rw [upd_ne q]; exact c.hh _ _ e
  · by_cases q : b = d
    · subst q; unfold delL at e; rw [if_pos (by simp)] at e; cases e
    · unfold delL at e; rw [if_neg (by simpa using q)] at e; rw [upd_ne q]; exact c.zz _ _ e
  · by_cases q : b = d
    · subst q; rw [upd_same] at e ⊢; exact e
    · rw [upd_ne q] at e ⊢; exact c.zh _ _ e
  · by_cases q : b = d
    · subst q; unfold delL at e; rw [if_pos (by simp)] at e; cases e
    · unfold delL at e ⊢
      rw [if_neg (by simpa using q)] at e ⊢
      rw [upd_ne q]; exact c.fr _ _ e
theorem Step.unlock (c : Step Z0 H0 Z H) (hd : Z d = some (.dK kvs)) (ci : Step (delL Z0 [d]) (delL H0 [d]) Z' H') : Step Z0 H0 (upd Z' d (.dK kvs)) (upd H' d (.dK kvs)) := by
  refine ⟨fun b u e => ?_, fun b u e => ?_, fun b u e => ?_, fun b u e => ?_⟩
  · by_cases q : b = d
    · subst q
      have h1 := c.hh _ _ e
      rw [c.zh _ _ hd] at h1
      rw [upd_same]; exact h1
    · rw [upd_ne q]; exact ci.hh _ _ (by unfold delL; rw [if_neg (by simpa using q)]; exact e)
  · by_cases q : b = d
    · subst q
      have h1 := c.zz _ _ e
      rw [hd] at h1
      rw [upd_same]; exact h1
    · rw [upd_ne q]; exact ci.zz _ _ (by unfold delL; rw [if_neg (by simpa using q)]; exact e)
  · by_cases q : b = d
    · subst q; rw [upd_same] at e ⊢; exact e
    · rw [upd_ne q] at e ⊢; exact ci.zh _ _ e
  · by_cases q : b = d
    · subst q
      have h1 := c.fr _ _ e
      rw [upd_same, ← h1]; exact hd.symm
    · rw [upd_ne q]
      have h1 := ci.fr b u (by unfold delL; rw [if_neg (by simpa using q)]; exact e)
      unfold delL at h1
      rw [if_neg (by simpa using q)] at h1
      exact h1
theorem lock_fz (hd : Z d = some (.dK kvs)) : FzR Z (upd Z d (.frz od (.dK kvs))) := fun b u e h1 _ => by
  by_cases q : b = d
  · subst q; rw [hd] at e; cases e; exact absurd rfl (h1 kvs)
  · rw [upd_ne q]; exact e
theorem unlock_fz (hd : Z d = some (.frz od (.dK kvs))) : FzR Z (upd Z d (.dK kvs)) := fun b u e h1 h2 => by
  by_cases q : b = d
  · subst q; rw [hd] at e; cases e; exact absurd rfl (h2 _ _)
  · rw [upd_ne q]; exact e
theorem FD.lock {κ α : Type} [Sc κ] [DecidableEq κ] [Kt κ] [Py α] [ND α] {v : V} {m : Dct κ α} (hd : Z d = some (.dK kvs)) (h : Py.R K Z v m) : Py.R K (upd Z d (.frz od (.dK kvs))) v (FD.mk m) := by
  obtain ⟨a, xs, e, hz, pr⟩ := h
  refine ⟨a, xs, e, ?_, Paired.pImp (fun _ _ r => ⟨r.1, ND.fz (lock_fz hd) r.2⟩) pr⟩
  by_cases q : a = d
  · subst q; rw [hd] at hz; cases hz; exact .inr ⟨od, upd_same⟩
  · exact .inl (by rw [upd_ne q]; exact hz)
theorem Own.lock {α : Type} [Py α] [ND α] {p : Addr} {l : List α} (o : Own K H0 Z H p l) (hd : Z d = some (.dK kvs)) : Own K (delL H0 [d]) (upd Z d (.frz od (.dK kvs))) (upd H d (.frz od (.dK kvs))) p l := by
  obtain ⟨⟨xs, h, pr⟩, nz, n0⟩ := o
  have q : p ≠ d := fun e => by rw [e, hd] at nz; cases nz
  exact ⟨⟨xs, by rw [upd_ne q]; exact h, Paired.pImp (fun _ _ r => ND.fz (lock_fz hd) r) pr⟩, by rw [upd_ne q]; exact nz, by unfold delL; split; rfl; exact n0⟩
theorem Own.unlock {α : Type} [Py α] [ND α] {p : Addr} {l : List α} (o : Own K (delL H0 [d]) Z' H' p l) (hd : Z' d = some (.frz od (.dK kvs))) : Own K H0 (upd Z' d (.dK kvs)) (upd H' d (.dK kvs)) p l := by
  obtain ⟨⟨xs, h, pr⟩, nz, n0⟩ := o
  have q : p ≠ d := fun e => by rw [e, hd] at nz; cases nz
  exact ⟨⟨xs, by rw [upd_ne q]; exact h, Paired.pImp (fun _ _ r => ND.fz (unlock_fz hd) r) pr⟩, by rw [upd_ne q]; exact nz, by unfold delL at n0; rw [if_neg (by simpa using q)] at n0; exact n0⟩
theorem OwnD.lock {κ α : Type} [Sc κ] [DecidableEq κ] [Kt κ] [Py α] [ND α] {p : Addr} {l : Dct κ α} (o : OwnD K H0 Z H p l) (hd : Z d = some (.dK kvs)) : OwnD K (delL H0 [d]) (upd Z d (.frz od (.dK kvs))) (upd H d (.frz od (.dK kvs))) p l := by
  obtain ⟨⟨xs, h, pr⟩, nz, n0⟩ := o
  have q : p ≠ d := fun e => by rw [e, hd] at nz; cases nz
  exact ⟨⟨xs, by rw [upd_ne q]; exact h, Paired.pImp (fun _ _ r => ⟨r.1, ND.fz (lock_fz hd) r.2⟩) pr⟩, by rw [upd_ne q]; exact nz, by unfold delL; split; rfl; exact n0⟩
theorem OwnD.unlock {κ α : Type} [Sc κ] [DecidableEq κ] [Kt κ] [Py α] [ND α] {p : Addr} {l : Dct κ α} (o : OwnD K (delL H0 [d]) Z' H' p l) (hd : Z' d = some (.frz od (.dK kvs))) : OwnD K H0 (upd Z' d (.dK kvs)) (upd H' d (.dK kvs)) p l := by
  obtain ⟨⟨xs, h, pr⟩, nz, n0⟩ := o
  have q : p ≠ d := fun e => by rw [e, hd] at nz; cases nz
  exact ⟨⟨xs, by rw [upd_ne q]; exact h, Paired.pImp (fun _ _ r => ⟨r.1, ND.fz (unlock_fz hd) r.2⟩) pr⟩, by rw [upd_ne q]; exact nz, by unfold delL at n0; rw [if_neg (by simpa using q)] at n0; exact n0⟩
class NDS {α : Type} (S : Sh α) : Prop where
  fz : ∀ {K : Fr} {Z Z' H : Hp} {v : V} {ps : List Addr} {a : α}, FzR Z Z' → S.R K Z H v ps a → S.R K Z' H v ps a
theorem OwnO.lock {α : Type} {S : Sh α} [NDS S] {v : V} {ps : List Addr} {a : α} (o : OwnO S K H0 Z H v ps a) (hd : Z d = some (.dK kvs)) : OwnO S K (delL H0 [d]) (upd Z d (.frz od (.dK kvs))) (upd H d (.frz od (.dK kvs))) v ps a := by
  have q : ∀ p ∈ ps, p ≠ d := fun p hp e => by have := o.nz p hp; rw [e, hd] at this; cases this
  refine ⟨NDS.fz (lock_fz hd) (S.keep (Same.refl _) (fun p hp => upd_ne (q p hp)) o.r), o.nd, fun p hp => ?_, fun p hp => ?_⟩
  · rw [upd_ne (q p hp)]; exact o.nz p hp
  · unfold delL; split; rfl; exact o.n0 p hp
theorem OwnO.unlock {α : Type} {S : Sh α} [NDS S] {v : V} {ps : List Addr} {a : α} (o : OwnO S K (delL H0 [d]) Z' H' v ps a) (hd : Z' d = some (.frz od (.dK kvs))) : OwnO S K H0 (upd Z' d (.dK kvs)) (upd H' d (.dK kvs)) v ps a := by
  have q : ∀ p ∈ ps, p ≠ d := fun p hp e => by have := o.nz p hp; rw [e, hd] at this; cases this
  refine ⟨NDS.fz (unlock_fz hd) (S.keep (Same.refl _) (fun p hp => upd_ne (q p hp)) o.r), o.nd, fun p hp => ?_, fun p hp => ?_⟩
  · rw [upd_ne (q p hp)]; exact o.nz p hp
  · have := o.n0 p hp
    unfold delL at this
    rw [if_neg (by simpa using q p hp)] at this
    exact this
end
instance {α : Type} [Py α] [ND α] : NDS (Sh.told (α := α)) := ⟨fun s h => ⟨h.1, ND.fz s h.2⟩⟩
instance {α : Type} [Py α] [ND α] : NDS (Sh.lt α) := ⟨fun s ⟨p, xs, e1, e2, h1, h2⟩ => ⟨p, xs, e1, e2, h1, Paired.pImp (fun _ _ r => ND.fz s r) h2⟩⟩
instance {κ α : Type} [Sc κ] [DecidableEq κ] [Kt κ] [Py α] [ND α] : NDS (Sh.dc κ α) := ⟨fun s ⟨p, xs, e1, e2, h1, h2⟩ => ⟨p, xs, e1, e2, h1, Paired.pImp (fun _ _ r => ⟨r.1, ND.fz s r.2⟩) h2⟩⟩
theorem allR_fz {α : Type} {S : Sh α} [NDS S] {K : Fr} {Z Z' H : Hp} (s : FzR Z Z') : ∀ {l : List α} {vs : List V} {ps : List Addr}, allR S K Z H vs ps l → allR S K Z' H vs ps l
  | [], _, _, h => h
  | a :: r, _, _, ⟨v, ws, qs, rs, e1, e2, h1, h2⟩ => ⟨v, ws, qs, rs, e1, e2, NDS.fz s h1, allR_fz s h2⟩
instance {α : Type} {S : Sh α} [NDS S] : NDS (Sh.lst (ShL.all S)) := ⟨fun s ⟨p, xs, qs, e1, e2, h1, h2⟩ => ⟨p, xs, qs, e1, e2, h1, allR_fz s h2⟩⟩
instance {α β : Type} {S : Sh α} {T : Sh β} [NDS S] [NDS T] : NDS (Sh.pr S T) := ⟨fun s ⟨p, xs, qs, e1, e0, h1, v, ws, q1, r1, e2, f2, g1, v2, ws2, q2, r2, e3, f3, g2, e4, f4⟩ => ⟨p, xs, qs, e1, e0, h1, v, ws, q1, r1, e2, f2, NDS.fz (S := S) s g1, v2, ws2, q2, r2, e3, f3, NDS.fz (S := T) s g2, e4, f4⟩⟩
instance {α : Type} {S : Sh α} [NDS S] : NDS (Sh.opt S) := ⟨fun {K Z Z' H v ps a} s r => by
  cases a with
  | none => exact r
  | some a => exact NDS.fz (S := S) s r⟩
section
variable {K : Fr} {Z : Hp} {d : Addr} {kvs : List (Key × V)} {od : Obj} {κ α : Type} [Sc κ] [DecidableEq κ] [Kt κ] [Py α]
end
theorem OwnD.stepD {κ α : Type} [Sc κ] [DecidableEq κ] [Kt κ] [Py α] {K : Fr} {Z H Z' H' H0 : Hp} {p : Addr} {l : Dct κ α} {qs : List Addr} (o : OwnD K H0 Z H p l) (st : Step Z (delL H qs) Z' H') (hn : p ∉ qs) : OwnD K H0 Z' H' p l := by
  obtain ⟨⟨xs, h, pr⟩, nz, n0⟩ := o
  have e : delL H qs p = some (.dK xs) := by rw [delL_out hn]; exact h
  exact ⟨⟨xs, st.hh _ _ e, Paired.pImp (fun _ _ r => r.mono st.zz) pr⟩, (st.fr _ _ e).trans nz, n0⟩
end Cd

set_option Elab.async false
set_option linter.all false
set_option maxRecDepth 100000
set_option maxHeartbeats 4000000
namespace Cd
open PySem L2 PyProof.Rows
/-! ### what a def comes to: an answer, a refusal, or what is not promised -/
inductive R (α : Type) where
  | ok (a : α) | ex (e : Er) | bad
def R.bind {α β : Type} (m : R α) (k : α → R β) : R β := match m with
  | .ok a => k a
  | .ex e => .ex e
  | .bad => .bad
/-- a refusal that is not looked for -/
def R.nx {α : Type} (m : R α) : R α := match m with
  | .ok a => .ok a
  | _ => .bad
noncomputable def chk {α : Type} (p : Prop) (k : R α) : R α := @ite _ p (Classical.propDecidable p) k .bad
def vl {α β : Type} (a : α) (k : α → R β) : R β := k a
@[simp] theorem R.bind_ok {α β : Type} (a : α) (k : α → R β) : (R.ok a).bind k = k a := rfl
@[simp] theorem R.bind_ex {α β : Type} (e : Er) (k : α → R β) : (R.ex e).bind k = .ex e := rfl
@[simp] theorem R.nx_ok {α : Type} (a : α) : (R.ok a).nx = .ok a := rfl
theorem chk_t {α : Type} {p : Prop} {k : R α} (h : p) : chk p k = k := if_pos h
theorem chk_eq {α : Type} {p : Prop} {k x : R α} (h : p) (e : k = x) : chk p k = x := (chk_t h).trans e
theorem bind_eq {α β : Type} {m : R α} {k : α → R β} {a : α} {x : R β} (h : m = .ok a) (e : k a = x) : m.bind k = x := by rw [h]; exact e
theorem vl_eq {α β : Type} {a : α} {k : α → R β} {x : R β} (e : k a = x) : vl a k = x := e
theorem ite_eqT {α : Type} {p : Prop} [Decidable p] {a b x : α} (h : p) (e : a = x) : (if p then a else b) = x := by rw [if_pos h]; exact e
theorem ite_eqF {α : Type} {p : Prop} [Decidable p] {a b x : α} (h : ¬ p) (e : b = x) : (if p then a else b) = x := by rw [if_neg h]; exact e
/-- what is wanted of it -/
def Good {α : Type} (m : R α) (W : α → Prop) (E : Er → Prop) : Prop := match m with
  | .ok a => W a
  | .ex e => E e
  | .bad => False
def NoE : Er → Prop := fun _ => False
section
variable {α β : Type} {m : R α} {k : α → R β} {W : α → Prop} {V : β → Prop} {E : Er → Prop}
theorem Good.imp {W' : α → Prop} {E' : Er → Prop} (h : Good m W E) (hw : ∀ a, W a → W' a) (he : ∀ e, E e → E' e) : Good m W' E' := by
  cases m with
  | ok a => exact hw a h
  | ex e => exact he e h
  | bad => exact h
theorem Good.chk {p : Prop} (h : Good (chk p m) W E) : p ∧ Good m W E := by
  by_cases q : p
  · rw [chk_t q] at h; exact ⟨q, h⟩
  · unfold Cd.chk at h; rw [if_neg q] at h; exact h.elim
theorem Good.vl {a x : α} (e : x = a) (h : Good (vl a k) V E) : Good (k x) V E := by subst e; exact h
theorem Good.bnd (h : Good (m.bind k) V E) : Good m (fun a => Good (k a) V E) E := by
  cases m with
  | ok a => exact h
  | ex e => exact h
  | bad => exact h
theorem Good.opn (h : Good m W E) : ∃ W' E', Good m W' E' ∧ (∀ a, W' a → W a) ∧ ∀ e, E' e → E e := ⟨W, E, h, fun _ h => h, fun _ h => h⟩
theorem Good.bndW (h : Good (m.bind k) V E) : ∃ W' : α → Prop, Good m W' E ∧ ∀ a, W' a → Good (k a) V E := ⟨_, h.bnd, fun _ h => h⟩
theorem Good.ifT {p : Prop} [Decidable p] {b : R α} (e : p) (h : Good (if p then m else b) W E) : Good m W E := by rw [if_pos e] at h; exact h
theorem Good.ifF {p : Prop} [Decidable p] {b : R α} (e : ¬ p) (h : Good (if p then b else m) W E) : Good m W E := by rw [if_neg e] at h; exact h
theorem Good.nx (h : Good m.nx W E) : Good m W NoE := by
  cases m with
  | ok a => exact h
  | ex e => exact h
  | bad => exact h
theorem Good.oN {o : Option β} {n : R α} {s : β → R α} (e : o = none) (h : Good (optB o n s) W E) : Good n W E := by rw [e] at h; exact h
theorem Good.oS {o : Option β} {n : R α} {s : β → R α} {b : β} (e : o = some b) (h : Good (optB o n s) W E) : Good (s b) W E := by rw [e] at h; exact h
theorem Good.ok_of (h : Good m W E) (hx : ∀ e, E e → False) : ∃ a, m = .ok a ∧ W a := by
  cases m with
  | ok a => exact ⟨a, rfl, h⟩
  | ex e => exact (hx e h).elim
  | bad => exact h.elim
end
/-! loops -/
def forR {α S : Type} (f : S → α → R S) : S → List α → R S
  | s, [] => .ok s
  | s, x :: r => (f s x).bind fun s' => forR f s' r
def LR.nextR {S T : Type} (o : LR S T) (k : S → R (LR S T)) : R (LR S T) := match o with
  | .nxt s => k s
  | o => .ok o
def forL {α S T : Type} (f : S → α → R (LR S T)) : S → List α → R (LR S T)
  | s, [] => .ok (.nxt s)
  | s, x :: r => (f s x).bind fun o => LR.nextR o fun s' => forL f s' r
def LR.go {S T U : Type} (o : LR S T) (k : S → R U) (k2 : T → R U) : R U := match o with
  | .nxt s => k s
  | .brk s => k s
  | .ret v => k2 v
def whR {S : Type} (c : S → R Bool) (f : S → R S) : Nat → S → R S
  | 0, _ => .bad
  | n + 1, s => (c s).bind fun b => if b = true then (f s).bind fun s' => whR c f n s' else .ok s
def whL {S T : Type} (c : S → R Bool) (f : S → R (LR S T)) : Nat → S → R (LR S T)
  | 0, _ => .bad
  | n + 1, s => (c s).bind fun b => if b = true then (f s).bind fun o => LR.nextR o fun s' => whL c f n s' else .ok (.nxt s)
section
variable {α S T : Type} {W : S → Prop} {E : Er → Prop} {V : LR S T → Prop}
theorem Good.forR {f : S → α → R S} {s : S} {x : α} {r : List α} (h : Good (forR f s (x :: r)) W E) : ∃ W' : S → Prop, Good (f s x) W' E ∧ ∀ s', W' s' → Good (Cd.forR f s' r) W E := Good.bndW h
theorem Good.forL {f : S → α → R (LR S T)} {s : S} {x : α} {r : List α} (h : Good (forL f s (x :: r)) V E) : ∃ W' : LR S T → Prop, Good (f s x) W' E ∧ (∀ s', W' (.nxt s') → Good (Cd.forL f s' r) V E) ∧ (∀ s', W' (.brk s') → V (.brk s')) ∧ ∀ v, W' (.ret v) → V (.ret v) :=
  ⟨_, Good.bnd h, fun _ h => h, fun _ h => h, fun _ h => h⟩
theorem Good.wh0 {c : S → R Bool} {f : S → R S} {n : Nat} {s : S} (h : Good (whR c f n s) W E) : ∃ k, n = k + 1 := by
  cases n with
  | zero => exact h.elim
  | succ k => exact ⟨k, rfl⟩
theorem Good.whR {c : S → R Bool} {f : S → R S} {n : Nat} {s : S} (h : Good (whR c f (n + 1) s) W E) : ∃ W' : Bool → Prop, Good (c s) W' E ∧ (W' true → ∃ W2 : S → Prop, Good (f s) W2 E ∧ ∀ s', W2 s' → Good (Cd.whR c f n s') W E) ∧ (W' false → W s) :=
  ⟨_, Good.bnd h, fun h => ⟨_, Good.bnd (Good.ifT rfl h), fun _ h => h⟩, fun h => Good.ifF (by decide) h⟩
theorem Good.whL {c : S → R Bool} {f : S → R (LR S T)} {n : Nat} {s : S} (h : Good (whL c f (n + 1) s) V E) : ∃ W' : Bool → Prop, Good (c s) W' E ∧ (W' true → ∃ W2 : LR S T → Prop, Good (f s) W2 E ∧ (∀ s', W2 (.nxt s') → Good (Cd.whL c f n s') V E) ∧ (∀ s', W2 (.brk s') → V (.brk s')) ∧ ∀ v, W2 (.ret v) → V (.ret v)) ∧ (W' false → V (.nxt s)) :=
  ⟨_, Good.bnd h, fun h => ⟨_, Good.bnd (Good.ifT rfl h), fun _ h => h, fun _ h => h, fun _ h => h⟩, fun h => Good.ifF (by decide) h⟩
end
/-! loops, reckoned -/
section
variable {α β S T : Type}
@[simp] theorem forR_nil (f : S → α → R S) (s : S) : forR f s [] = .ok s := rfl
theorem forR_cons (f : S → α → R S) (s : S) (x : α) (r : List α) : forR f s (x :: r) = (f s x).bind fun s' => forR f s' r := rfl
@[simp] theorem forL_nil (f : S → α → R (LR S T)) (s : S) : forL f s [] = .ok (.nxt s) := rfl
theorem forL_cons (f : S → α → R (LR S T)) (s : S) (x : α) (r : List α) : forL f s (x :: r) = (f s x).bind fun o => LR.nextR o fun s' => forL f s' r := rfl
@[simp] theorem go_nxt {U : Type} (s : S) (k : S → R U) (k2 : T → R U) : LR.go (.nxt s) k k2 = k s := rfl
@[simp] theorem go_brk {U : Type} (s : S) (k : S → R U) (k2 : T → R U) : LR.go (.brk s) k k2 = k s := rfl
@[simp] theorem go_ret {U : Type} (v : T) (k : S → R U) (k2 : T → R U) : LR.go (.ret v) k k2 = k2 v := rfl
theorem forL_find {f : S → α → R (LR S T)} {s : S} (p : α → Bool) (v : α → T) {l : List α} (h : ∀ x ∈ l, f s x = .ok (if p x = true then .ret (v x) else .nxt s)) : forL f s l = .ok (match l.find? p with | some x => .ret (v x) | none => .nxt s) := by
  induction l with
  | nil => rfl
  | cons x r ih =>
    rw [forL_cons, h x List.mem_cons_self, List.find?_cons]
    cases e : p x with
    | true => rfl
    | false => exact ih fun y hy => h y (List.mem_cons_of_mem _ hy)
end
/-! comprehensions whose items are reckoned by calls -/
def lcR {γ β : Type} (F : γ → R (Option β)) : List γ → R (List β)
  | [] => .ok []
  | x :: r => (F x).bind fun o => (lcR F r).bind fun bs => .ok (o.toList ++ bs)
theorem lcR_filter {γ β : Type} {F : γ → R (Option β)} {f : γ → β} {p : γ → Bool} : ∀ {l : List γ}, (∀ x ∈ l, F x = .ok (if p x = true then some (f x) else none)) → lcR F l = .ok ((l.filter p).map f)
  | [], _ => rfl
  | x :: r, h => by
    show (F x).bind _ = _
    rw [h x List.mem_cons_self, R.bind_ok, lcR_filter (fun y hy => h y (List.mem_cons_of_mem _ hy))]
    cases e : p x with
    | true => rw [List.filter_cons_of_pos e]; rfl
    | false => rw [List.filter_cons_of_neg (by rw [e]; decide)]; rfl
end Cd

set_option Elab.async false
set_option linter.all false
set_option maxRecDepth 100000
set_option maxHeartbeats 4000000
namespace Cd
open PySem L2 PyProof.Rows
/-! ### all that a def holds: told things and things of its own, apart from one another -/
structure Rt where
  {α : Type}
  S : Sh α
  v : V
  a : α
structure Sep (K : Fr) (Z0 H0 Z H : Hp) (G : List Rt) : Prop where
  st : Step Z0 H0 Z H
  ow : ∃ f : Nat → List Addr, (∀ i r, G[i]? = some r → OwnO r.S K H0 Z H r.v (f i) r.a) ∧ ∀ i j r s, i ≠ j → G[i]? = some r → G[j]? = some s → ∀ q ∈ f i, q ∉ f j
/-- kinds of objects that may be changed -/
def MutO : HO → Prop
  | .lst _ => True
  | .dK _ => True
  | .ins _ _ _ => True
  | .own _ => True
  | _ => False
class MutS {α : Type} (S : Sh α) : Prop where
  mt : ∀ {K : Fr} {Z H : Hp} {v : V} {ps : List Addr} {a : α}, S.R K Z H v ps a → ∀ q ∈ ps, ∃ u, H q = some u ∧ MutO u
/-- data that hold nothing that may be changed -/
class Imm (α : Type) [Py α] : Prop where
  imm : ∀ {K : Fr} {Z Z' : Hp} {v : V} {a : α}, (∀ b u, Z b = some u → ¬ MutO u → Z' b = some u) → Py.R K Z v a → Py.R K Z' v a
class ImmS {α : Type} (S : Sh α) : Prop where
  imm : ∀ {K : Fr} {Z Z' H : Hp} {v : V} {ps : List Addr} {a : α}, (∀ b u, Z b = some u → ¬ MutO u → Z' b = some u) → S.R K Z H v ps a → S.R K Z' H v ps a
section
variable {K : Fr} {Z0 H0 Z H Z' H' Z2 H2 Zb : Hp} {G G' : List Rt}
theorem Sep.zh (h : Sep K Z0 H0 Z H G) : Same Z H := h.st.zh
theorem Sep.start (zh : Same Z H) : Sep K Z H Z H [] := ⟨Step.refl zh, fun _ => [], fun i r e => by simp at e, fun i j r s _ e => by simp at e⟩
theorem Sep.base (st : Step Z0 H0 Z H) : Sep K Z0 H0 Z H [] := ⟨st, fun _ => [], fun i r e => by simp at e, fun i j r s _ e => by simp at e⟩
theorem Sep.step (h : Sep K Z0 H0 Z H G) (st : Step Z H Z' H') : Sep K Z0 H0 Z' H' G := by
  obtain ⟨c, f, h1, h2⟩ := h
  exact ⟨c.trans st, f, fun i r e => (h1 i r e).step st, h2⟩
theorem Sep.nth (h : Sep K Z0 H0 Z H G) (i : Nat) {r : Rt} (e : G[i]? = some r) : ∃ ps, OwnO r.S K H0 Z H r.v ps r.a := by
  obtain ⟨c, f, h1, h2⟩ := h
  exact ⟨f i, h1 i r e⟩
theorem Sep.fact {α : Type} [Py α] {v : V} {a : α} (h : Sep K Z0 H0 Z H G) (i : Nat) (e : G[i]? = some ⟨Sh.told, v, a⟩) : Py.R K Z v a := by
  obtain ⟨ps, o⟩ := h.nth i e
  exact o.r.2
theorem Sep.pushO {α : Type} {S : Sh α} {v : V} {ps : List Addr} {a : α} (h : Sep K Z0 H0 Z H G) (o : OwnO S K H0 Z H v ps a) (hd : ∀ f : Nat → List Addr, (∀ i r, G[i]? = some r → OwnO r.S K H0 Z H r.v (f i) r.a) → ∀ i r, G[i]? = some r → ∀ q ∈ f i, q ∉ ps) : Sep K Z0 H0 Z H (⟨S, v, a⟩ :: G) := by
  obtain ⟨c, f, h1, h2⟩ := h
  refine ⟨c, fun i => match i with | 0 => ps | i + 1 => f i, fun i r e => ?_, fun i j r s ne e1 e2 => ?_⟩
  · cases i with
    | zero => simp only [List.getElem?_cons_zero, Option.some.injEq] at e; subst e; exact o
    | succ i => simp only [List.getElem?_cons_succ] at e; exact h1 i r e
  · cases i with
    | zero =>
      cases j with
      | zero => exact (ne rfl).elim
      | succ j => intro q hq hq2; simp only [List.getElem?_cons_succ] at e2; exact hd f h1 j s e2 q hq2 hq
    | succ i =>
      cases j with
      | zero => intro q hq hq2; simp only [List.getElem?_cons_succ] at e1; exact hd f h1 i r e1 q hq hq2
      | succ j => simp only [List.getElem?_cons_succ] at e1 e2; exact h2 i j r s (fun x => ne (by rw [x])) e1 e2
theorem Sep.tel {α : Type} [Py α] {v : V} {a : α} (h : Sep K Z0 H0 Z H G) (r : Py.R K Z v a) : Sep K Z0 H0 Z H (⟨Sh.told, v, a⟩ :: G) :=
  h.pushO (OwnO.ofR r) fun _ _ _ _ _ _ _ => fun h => nomatch h
/-- a new thing of one's own -/
theorem Sep.own {α : Type} {S : Sh α} {v : V} {ps : List Addr} {a : α} (h : Sep K Z0 H0 Z H G) (st : Step Z H Z' H') (o : OwnO S K H Z' H' v ps a) : Sep K Z0 H0 Z' H' (⟨S, v, a⟩ :: G) := by
  have h' := h.step st
  obtain ⟨c, f0, h1, h2⟩ := h
  refine ⟨c.trans st, fun i => match i with | 0 => ps | i + 1 => f0 i, fun i r e => ?_, fun i j r s ne e1 e2 => ?_⟩
  · cases i with
    | zero => simp only [List.getElem?_cons_zero, Option.some.injEq] at e; subst e; exact ⟨o.r, o.nd, o.nz, fun q hq => c.hh.free (o.n0 q hq)⟩
    | succ i => simp only [List.getElem?_cons_succ] at e; exact (h1 i r e).step st
  · have key : ∀ i r, G[i]? = some r → ∀ q ∈ f0 i, q ∉ ps := fun i r e q hq hp => by
      obtain ⟨u, hu⟩ := (h1 i r e).stands q hq
      rw [o.n0 q hp] at hu; cases hu
    cases i with
    | zero =>
      cases j with
      | zero => exact (ne rfl).elim
      | succ j => intro q hq hq2; simp only [List.getElem?_cons_succ] at e2; exact key j s e2 q hq2 hq
    | succ i =>
      cases j with
      | zero => intro q hq hq2; simp only [List.getElem?_cons_succ] at e1; exact key i r e1 q hq hq2
      | succ j => simp only [List.getElem?_cons_succ] at e1 e2; exact h2 i j r s (fun x => ne (by rw [x])) e1 e2
theorem Sep.drop {r : Rt} (h : Sep K Z0 H0 Z H (r :: G)) : Sep K Z0 H0 Z H G := by
  obtain ⟨c, f, h1, h2⟩ := h
  exact ⟨c, fun i => f (i + 1), fun i r e => h1 (i + 1) r (by simpa using e), fun i j r s ne e1 e2 => h2 (i + 1) (j + 1) r s (by omega) (by simpa using e1) (by simpa using e2)⟩
theorem Sep.drop1 {r r1 : Rt} (h : Sep K Z0 H0 Z H (r :: r1 :: G)) : Sep K Z0 H0 Z H (r :: G) := by
  obtain ⟨c, f, h1, h2⟩ := h
  refine ⟨c, fun i => match i with | 0 => f 0 | i + 1 => f (i + 2), fun i s e => ?_, fun i j s t ne e1 e2 => ?_⟩
  · cases i with
    | zero => exact h1 0 s (by simpa using e)
    | succ i => exact h1 (i + 2) s (by simpa using e)
  · cases i with
    | zero =>
      cases j with
      | zero => exact (ne rfl).elim
      | succ j => exact h2 0 (j + 2) s t (by omega) (by simpa using e1) (by simpa using e2)
    | succ i =>
      cases j with
      | zero => exact h2 (i + 2) 0 s t (by omega) (by simpa using e1) (by simpa using e2)
      | succ j => exact h2 (i + 2) (j + 2) s t (by omega) (by simpa using e1) (by simpa using e2)
/-- some of them, in any order -/
theorem Sep.pick (h : Sep K Z0 H0 Z H G) (is : List Nat) (hn : is.Nodup) (e : is.map (fun i => G[i]?) = G'.map some) : Sep K Z0 H0 Z H G' := by
  obtain ⟨c, f, h1, h2⟩ := h
  have at_ : ∀ (k : Nat) (r : Rt), G'[k]? = some r → ∃ i, is[k]? = some i ∧ G[i]? = some r := fun k r hk => by
    have e1 : (G'.map (some : Rt → Option Rt))[k]? = some (some r) := by rw [List.getElem?_map, hk]; rfl
    rw [← e, List.getElem?_map] at e1
    obtain ⟨i, e2, e3⟩ := Option.map_eq_some_iff.mp e1
    exact ⟨i, e2, e3⟩
  refine ⟨c, fun k => f (is.getD k 0), fun k r hk => ?_, fun k l r s ne hk hl => ?_⟩
  · obtain ⟨i, e1, e2⟩ := at_ k r hk
    dsimp only
    rw [List.getD_eq_getElem?_getD, e1]
    exact h1 i r e2
  · obtain ⟨i, e1, e2⟩ := at_ k r hk
    obtain ⟨j, e3, e4⟩ := at_ l s hl
    dsimp only
    rw [List.getD_eq_getElem?_getD, List.getD_eq_getElem?_getD, e1, e3]
    refine h2 i j r s (fun x => ne ?_) e2 e4
    subst x
    obtain ⟨hk1, hk2⟩ := List.getElem?_eq_some_iff.mp e1
    obtain ⟨hl1, hl2⟩ := List.getElem?_eq_some_iff.mp e3
    exact (List.getElem_inj hn).mp (hk2.trans hl2.symm)
/-- the i-th is changed -/
theorem Sep.chg (h : Sep K Z0 H0 Z H G) (i : Nat) {r : Rt} (e : G[i]? = some r) : ∃ ps, OwnO r.S K H0 Z H r.v ps r.a ∧
    ∀ {Z' H' : Hp} {β : Type} {S' : Sh β} {v' : V} {ps' : List Addr} {b : β}, Step Z0 H0 Z' H' → Same Z Z' → (∀ q u, q ∉ ps → H q = some u → H' q = some u ∧ Z' q = Z q) → OwnO S' K H0 Z' H' v' ps' b → (∀ q ∈ ps', q ∈ ps ∨ H q = none) → Sep K Z0 H0 Z' H' (G.set i ⟨S', v', b⟩) := by
  obtain ⟨c, f, h1, h2⟩ := h
  refine ⟨f i, h1 i r e, fun {Z' H' β S' v' ps' b} st s hk o hf => ⟨st, fun j => if j = i then ps' else f j, fun j t ej => ?_, fun j k t u ne ej ek => ?_⟩⟩
  · rw [List.getElem?_set] at ej
    by_cases q : i = j
    · subst q
      rw [if_pos rfl] at ej
      split at ej
      · cases ej; dsimp only; rw [if_pos rfl]; exact o
      · cases ej
    · rw [if_neg q] at ej
      dsimp only
      rw [if_neg (fun x : j = i => q x.symm)]
      have oj := h1 j t ej
      have hq : ∀ x ∈ f j, x ∉ f i := h2 j i t r (fun x => q x.symm) ej e
      exact oj.keep s (fun x hx => by obtain ⟨u, hu⟩ := oj.stands x hx; rw [hu]; exact (hk x u (hq x hx) hu).1) (fun x hx => by obtain ⟨u, hu⟩ := oj.stands x hx; exact (hk x u (hq x hx) hu).2)
  · have old : ∀ j t, j ≠ i → (G.set i ⟨S', v', b⟩)[j]? = some t → G[j]? = some t := fun j t q ej => by
      rw [List.getElem?_set, if_neg (fun x => q x.symm)] at ej; exact ej
    have key : ∀ j t, j ≠ i → (G.set i ⟨S', v', b⟩)[j]? = some t → ∀ q ∈ f j, q ∉ ps' := fun j t qj ej q hq hp => by
      have ej' := old j t qj ej
      rcases hf q hp with h | h
      · exact h2 j i t r qj ej' e q hq h
      · obtain ⟨u, hu⟩ := (h1 j t ej').stands q hq
        rw [h] at hu; cases hu
    dsimp only
    by_cases qj : j = i
    · subst qj
      rw [if_pos rfl, if_neg (fun x : k = j => ne x.symm)]
      intro q hq hq2
      exact key k u (fun x => ne x.symm) ek q hq2 hq
    · rw [if_neg qj]
      by_cases qk : k = i
      · subst qk
        rw [if_pos rfl]
        exact key j t qj ej
      · rw [if_neg qk]
        exact h2 j k t u ne (old j t qj ej) (old k u qk ek)
/-- .. at one of its places -/
theorem Sep.mutO {α β : Type} {S : Sh α} {S' : Sh β} {v : V} {a : α} {b : β} {q : Addr} {w : HO} (h : Sep K Z0 H0 Z H G) (i : Nat) (e : G[i]? = some ⟨S, v, a⟩) (k : ∀ ps, OwnO S K H0 Z H v ps a → q ∈ ps ∧ OwnO S' K H0 Z (upd H q w) v ps b) : Sep K Z0 H0 Z (upd H q w) (G.set i ⟨S', v, b⟩) := by
  have c := h.st
  obtain ⟨ps, o, g⟩ := h.chg i e
  obtain ⟨hq, o'⟩ := k ps o
  refine g (c.mut (o.nz q hq) (o.n0 q hq)) (Same.refl _) (fun x u hx hu => ⟨by rw [upd_ne (fun x2 => hx (by rw [x2]; exact hq))]; exact hu, rfl⟩) o' fun x hx => .inl hx
theorem Sep.L {α : Type} [Py α] {p : Addr} {l : List α} (h : Sep K Z0 H0 Z H G) (i : Nat) (e : G[i]? = some ⟨Sh.lt α, .ref p, l⟩) : Own K H0 Z H p l := by
  obtain ⟨ps, o⟩ := h.nth i e
  obtain ⟨p', e1, _, o'⟩ := o.own
  cases e1; exact o'
theorem Sep.D {κ α : Type} [Sc κ] [DecidableEq κ] [Kt κ] [Py α] {p : Addr} {d : Dct κ α} (h : Sep K Z0 H0 Z H G) (i : Nat) (e : G[i]? = some ⟨Sh.dc κ α, .ref p, d⟩) : OwnD K H0 Z H p d := by
  obtain ⟨ps, o⟩ := h.nth i e
  obtain ⟨p', e1, _, o'⟩ := o.ownD
  cases e1; exact o'
theorem Sep.mutL {α : Type} [Py α] {p : Addr} {l l' : List α} {w : HO} (h : Sep K Z0 H0 Z H G) (i : Nat) (e : G[i]? = some ⟨Sh.lt α, .ref p, l⟩) (o' : Own K H0 Z (upd H p w) p l') : Sep K Z0 H0 Z (upd H p w) (G.set i ⟨Sh.lt α, .ref p, l'⟩) :=
  h.mutO i e fun ps o => by
    obtain ⟨p', e1, e2, _⟩ := o.own
    cases e1
    rw [e2]
    exact ⟨by simp, o'.shp⟩
theorem Sep.mutD {κ α : Type} [Sc κ] [DecidableEq κ] [Kt κ] [Py α] {p : Addr} {d d' : Dct κ α} {w : HO} (h : Sep K Z0 H0 Z H G) (i : Nat) (e : G[i]? = some ⟨Sh.dc κ α, .ref p, d⟩) (o' : OwnD K H0 Z (upd H p w) p d') : Sep K Z0 H0 Z (upd H p w) (G.set i ⟨Sh.dc κ α, .ref p, d'⟩) :=
  h.mutO i e fun ps o => by
    obtain ⟨p', e1, e2, _⟩ := o.ownD
    cases e1
    rw [e2]
    exact ⟨by simp, o'.shp⟩
/-- told from now on -/
theorem Sep.tell {α : Type} [Py α] {S : Sh α} [Dat S] {v : V} {a : α} (h : Sep K Z0 H0 Z H G) (i : Nat) (e : G[i]? = some ⟨S, v, a⟩) : ∃ Z', Same Z Z' ∧ Sep K Z0 H0 Z' H (G.set i ⟨Sh.told, v, a⟩) := by
  have c := h.st
  obtain ⟨ps, o, g⟩ := h.chg i e
  obtain ⟨Z', c', s, r, hz⟩ := o.tell c
  exact ⟨Z', s, g c' s (fun q u hq hu => ⟨hu, hz q hq⟩) (OwnO.ofR r) fun _ h => nomatch h⟩
/-- seen as data, for the while -/
theorem Sep.see {α : Type} [Py α] {S : Sh α} [Dat S] {v : V} {a : α} (h : Sep K Z0 H0 Z H G) (i : Nat) (e : G[i]? = some ⟨S, v, a⟩) : ∃ Zs, Same Zs H ∧ Py.R K Zs v a := by
  obtain ⟨ps, o⟩ := h.nth i e
  exact ⟨_, o.seez h.zh, o.see⟩
/-! ### names of places -/
class IsRef {α : Type} (S : Sh α) : Prop where
  rf : ∀ {K : Fr} {Z H : Hp} {v : V} {ps : List Addr} {a : α}, S.R K Z H v ps a → ∃ p, v = .ref p
theorem Sep.ref {α : Type} {S : Sh α} [IsRef S] {v : V} {a : α} (h : Sep K Z0 H0 Z H G) (i : Nat) (e : G[i]? = some ⟨S, v, a⟩) : ∃ p, v = .ref p := by
  obtain ⟨ps, o⟩ := h.nth i e
  exact IsRef.rf o.r
end
instance {α : Type} [Py α] : IsRef (Sh.lt α) := ⟨fun ⟨p, _, e, _⟩ => ⟨p, e⟩⟩
instance {κ α : Type} [Sc κ] [DecidableEq κ] [Kt κ] [Py α] : IsRef (Sh.dc κ α) := ⟨fun ⟨p, _, e, _⟩ => ⟨p, e⟩⟩
instance {β : Type} {T : ShL β} : IsRef (Sh.lst T) := ⟨fun ⟨p, _, _, e, _⟩ => ⟨p, e⟩⟩
instance {β : Type} {T : ShL β} : IsRef (Sh.tup T) := ⟨fun ⟨p, _, _, e, _⟩ => ⟨p, e⟩⟩
instance {β : Type} {C : Addr} {ns : List Str} {T : ShL β} : IsRef (Sh.ins C ns T) := ⟨fun ⟨p, _, _, _, e, _⟩ => ⟨p, e⟩⟩
instance {α β : Type} {S : Sh β} {f : α → β} [IsRef S] : IsRef (S.via f) := ⟨fun h => IsRef.rf (S := S) h⟩
instance {α β : Type} {S : Sh α} {T : Sh β} : IsRef (Sh.pr S T) := inferInstanceAs (IsRef (Sh.via _ _))
instance {α : Type} {S : Sh α} : IsRef (Sh.tl S) := inferInstanceAs (IsRef (Sh.via _ _))
/-! ### kinds -/
instance {α : Type} [Py α] : MutS (Sh.told (α := α)) := ⟨fun ⟨e, _⟩ q hq => by rw [e] at hq; cases hq⟩
instance {α : Type} [Py α] : MutS (Sh.lt α) := ⟨fun ⟨p, xs, _, e2, h, _⟩ q hq => by rw [e2, List.mem_singleton] at hq; rw [hq]; exact ⟨_, h, trivial⟩⟩
instance {κ α : Type} [Sc κ] [DecidableEq κ] [Kt κ] [Py α] : MutS (Sh.dc κ α) := ⟨fun ⟨p, xs, _, e2, h, _⟩ q hq => by rw [e2, List.mem_singleton] at hq; rw [hq]; exact ⟨_, h, trivial⟩⟩
theorem allR_mut {α : Type} {S : Sh α} [MutS S] {K : Fr} {Z H : Hp} : ∀ {l : List α} {vs : List V} {ps : List Addr}, allR S K Z H vs ps l → ∀ q ∈ ps, ∃ u, H q = some u ∧ MutO u
  | [], _, _, ⟨_, e⟩, q, hq => by rw [e] at hq; cases hq
  | a :: r, _, _, ⟨v, ws, qs, rs, e1, e2, h1, h2⟩, q, hq => by
    rw [e2] at hq
    exact (List.mem_append.mp hq).elim (MutS.mt h1 q) (allR_mut h2 q)
instance {α : Type} {S : Sh α} [MutS S] : MutS (Sh.lst (ShL.all S)) := ⟨fun ⟨p, xs, qs, _, e2, h, r⟩ q hq => by
  rw [e2] at hq
  rcases List.mem_cons.mp hq with rfl | hq
  · exact ⟨_, h, trivial⟩
  · exact allR_mut r q hq⟩
instance (priority := low) {α : Type} [Py α] [NoZ α] : Imm α := ⟨fun _ h => NoZ.back h⟩
theorem imm_t {Z Z' : Hp} (s : ∀ b u, Z b = some u → ¬ MutO u → Z' b = some u) {b : Addr} {xs : List V} (h : Z b = some (.tup xs)) : Z' b = some (.tup xs) := s _ _ h fun h => h
instance {α β : Type} [Py α] [Py β] [Imm α] [Imm β] : Imm (α × β) := ⟨fun s h => let ⟨a, x, y, e, hz, p, q⟩ := h; ⟨a, x, y, e, imm_t s hz, Imm.imm s p, Imm.imm s q⟩⟩
instance {α β γ : Type} [Py α] [Py β] [Py γ] [Imm α] [Imm β] [Imm γ] : Imm (T3 α β γ) := ⟨fun s h => let ⟨a, x, y, z, e, hz, p, q, r⟩ := h; ⟨a, x, y, z, e, imm_t s hz, Imm.imm s p, Imm.imm s q, Imm.imm s r⟩⟩
instance {α β γ δ : Type} [Py α] [Py β] [Py γ] [Py δ] [Imm α] [Imm β] [Imm γ] [Imm δ] : Imm (T4 α β γ δ) := ⟨fun s h => let ⟨a, x, y, z, w, e, hz, p, q, r, t⟩ := h; ⟨a, x, y, z, w, e, imm_t s hz, Imm.imm s p, Imm.imm s q, Imm.imm s r, Imm.imm s t⟩⟩
instance {α : Type} [Py α] [Imm α] : Imm (Option α) := ⟨fun {K Z Z' v a} s h => by
  cases a with
  | none => exact h
  | some a => exact Imm.imm (α := α) s h⟩
instance {α : Type} [Py α] [Imm α] : Imm (TL α) := ⟨fun s h => let ⟨a, xs, e, hz, p⟩ := h; ⟨a, xs, e, imm_t s hz, Paired.pImp (fun _ _ r => Imm.imm s r) p⟩⟩
instance {α β γ : Type} [Py α] [Py β] [Py γ] [Imm α] [Imm β] [Imm γ] : Imm (TO α β γ) := ⟨fun {K Z Z' v p} s r => by
  obtain ⟨x1, x2, x3⟩ := p
  obtain ⟨a, x, y, e, h1, h2, h3⟩ := r
  refine ⟨a, x, y, e, Imm.imm s h1, Imm.imm s h2, ?_⟩
  cases x3 with
  | none => exact imm_t s h3
  | some c =>
    obtain ⟨z, hz, h4⟩ := h3
    exact ⟨z, imm_t s hz, Imm.imm s h4⟩⟩
instance {α : Type} [Py α] [Imm α] : ImmS (Sh.told (α := α)) := ⟨fun s h => ⟨h.1, Imm.imm s h.2⟩⟩
instance {α : Type} [Py α] [Imm α] : ImmS (Sh.lt α) := ⟨fun s ⟨p, xs, e1, e2, h1, h2⟩ => ⟨p, xs, e1, e2, h1, Paired.pImp (fun _ _ r => Imm.imm s r) h2⟩⟩
instance {κ α : Type} [Sc κ] [DecidableEq κ] [Kt κ] [Py α] [Imm α] : ImmS (Sh.dc κ α) := ⟨fun s ⟨p, xs, e1, e2, h1, h2⟩ => ⟨p, xs, e1, e2, h1, Paired.pImp (fun _ _ r => ⟨r.1, Imm.imm s r.2⟩) h2⟩⟩
theorem allR_imm {α : Type} {S : Sh α} [ImmS S] {K : Fr} {Z Z' H : Hp} (s : ∀ b u, Z b = some u → ¬ MutO u → Z' b = some u) : ∀ {l : List α} {vs : List V} {ps : List Addr}, allR S K Z H vs ps l → allR S K Z' H vs ps l
  | [], _, _, h => h
  | a :: r, _, _, ⟨v, ws, qs, rs, e1, e2, h1, h2⟩ => ⟨v, ws, qs, rs, e1, e2, ImmS.imm s h1, allR_imm s h2⟩
instance {α : Type} {S : Sh α} [ImmS S] : ImmS (Sh.lst (ShL.all S)) := ⟨fun s ⟨p, xs, qs, e1, e2, h1, h2⟩ => ⟨p, xs, qs, e1, e2, h1, allR_imm s h2⟩⟩
instance {α : Type} {S : Sh α} [ImmS S] : ImmS (Sh.tl S) := ⟨fun s ⟨p, xs, qs, e1, e2, h1, h2⟩ => ⟨p, xs, qs, e1, e2, h1, allR_imm s h2⟩⟩
instance {α β : Type} {S : Sh α} {T : Sh β} [ImmS S] [ImmS T] : ImmS (Sh.pr S T) := ⟨fun s ⟨p, xs, qs, e1, e0, h1, v, ws, q1, r1, e2, f2, g1, v2, ws2, q2, r2, e3, f3, g2, e4, f4⟩ => ⟨p, xs, qs, e1, e0, h1, v, ws, q1, r1, e2, f2, ImmS.imm (S := S) s g1, v2, ws2, q2, r2, e3, f3, ImmS.imm (S := T) s g2, e4, f4⟩⟩
instance {α : Type} {S : Sh α} [ImmS S] : ImmS (Sh.opt S) := ⟨fun {K Z Z' H v ps a} s r => by
  cases a with
  | none => exact r
  | some a => exact ImmS.imm (S := S) s r⟩
/-! ### lent for reading -/
structure Bor (K : Fr) (Z H Zb : Hp) (ps : List Addr) : Prop where
  zz : Same Z Zb
  mu : ∀ q ∈ ps, ∃ u, H q = some u ∧ MutO u
  nz : ∀ q ∈ ps, Z q = none
  zb : ∀ q, q ∉ ps → Zb q = Z q
section
variable {K : Fr} {Z0 H0 Z H Z' H' Z2 H2 Zb : Hp} {G G' : List Rt} {ps : List Addr}
theorem Bor.nil : Bor K Z H Z [] := ⟨Same.refl _, (fun _ h => nomatch h), (fun _ h => nomatch h), fun _ _ => rfl⟩
theorem Sep.bor {α : Type} [Py α] {S : Sh α} [Dat S] [MutS S] {v : V} {a : α} (h : Sep K Z0 H0 Zb H G) (b : Bor K Z H Zb ps) (i : Nat) (e : G[i]? = some ⟨S, v, a⟩) : ∃ Zc qs, Bor K Z H Zc qs ∧ Sep K Z0 H0 Zc H (G.set i ⟨Sh.told, v, a⟩) := by
  have c := h.st
  obtain ⟨qs, o, g⟩ := h.chg i e
  obtain ⟨Zc, c', s, r, hz⟩ := o.tell c
  refine ⟨Zc, qs ++ ps, ⟨b.zz.trans s, fun q hq => ?_, fun q hq => ?_, fun q hq => ?_⟩, g c' s (fun q u hq hu => ⟨hu, hz q hq⟩) (OwnO.ofR r) fun _ h => nomatch h⟩
  · rcases List.mem_append.mp hq with hq | hq
    · exact MutS.mt o.r q hq
    · exact b.mu q hq
  · rcases List.mem_append.mp hq with hq | hq
    · exact b.zz.free (o.nz q hq)
    · exact b.nz q hq
  · rw [List.mem_append, not_or] at hq
    rw [hz q hq.1, b.zb q hq.2]
theorem Bor.back (b : Bor K Z H Zb ps) (zh : Same Z H) (st : Step Zb H Z2 H2) : Step Z H (delL Z2 ps) H2 := by
  refine ⟨st.hh, fun q u e => ?_, fun q u e => ?_, fun q u e => ?_⟩
  · unfold delL
    rw [if_neg (fun hm => by rw [b.nz q hm] at e; cases e)]
    exact st.zz _ _ (b.zz _ _ e)
  · unfold delL at e
    split at e
    · cases e
    · exact st.zh _ _ e
  · unfold delL
    by_cases hm : q ∈ ps
    · rw [if_pos hm, b.nz q hm]
    · rw [if_neg hm, st.fr q u e, b.zb q hm]
theorem Bor.im (b : Bor K Z H Zb ps) (st : Step Zb H Z2 H2) : ∀ q u, Z2 q = some u → ¬ MutO u → delL Z2 ps q = some u := fun q u e hu => by
  unfold delL
  rw [if_neg]
  · exact e
  · intro hm
    obtain ⟨w, h1, h2⟩ := b.mu q hm
    have := st.zh q u e
    rw [st.hh q w h1] at this
    cases this
    exact hu h2
theorem Bor.tel {α : Type} [Py α] [Imm α] {v : V} {a : α} (b : Bor K Z H Zb ps) (st : Step Zb H Z2 H2) (r : Py.R K Z2 v a) : Py.R K (delL Z2 ps) v a := Imm.imm (b.im st) r
/-- what came new, behind the lending -/
theorem Bor.own {α : Type} {S : Sh α} [ImmS S] {v : V} {qs : List Addr} {a : α} (b : Bor K Z H Zb ps) (st : Step Zb H Z' H') (st2 : Step Z' H' Z2 H2) (o : OwnO S K H' Z2 H2 v qs a) : OwnO S K H (delL Z2 ps) H2 v qs a :=
  ⟨ImmS.imm (b.im (st.trans st2)) o.r, o.nd, fun q hq => by unfold delL; split; rfl; exact o.nz q hq, fun q hq => st.hh.free (o.n0 q hq)⟩
/-! ### lent to be changed -/
theorem Sep.lend {α : Type} {S : Sh α} {v : V} {a : α} (h : Sep K Z0 H0 Z H G) (i : Nat) (e : G[i]? = some ⟨S, v, a⟩) : ∃ ps, (S.R K Z H v ps a ∧ ps.Nodup ∧ ∀ q ∈ ps, Z q = none) ∧
    ∀ {Z' H' : Hp} {ps' : List Addr} {β : Type} {S' : Sh β} {b : β}, Step Z (delL H ps) Z' H' → OwnO S' K (delL H ps) Z' H' v ps' b → Sep K Z0 H0 Z' H' (G.set i ⟨S', v, b⟩) := by
  have c := h.st
  obtain ⟨ps, o, g⟩ := h.chg i e
  refine ⟨ps, ⟨o.r, o.nd, o.nz⟩, fun {Z' H' ps' β S' b} st o' => ?_⟩
  have hf : ∀ q ∈ ps', q ∈ ps ∨ H q = none := fun q hq => by
    by_cases m : q ∈ ps
    · exact .inl m
    · exact .inr (by have := o'.n0 q hq; rw [delL_out m] at this; exact this)
  refine g (c.back o.n0 st) st.zz (fun q u hq hu => ?_) ⟨o'.r, o'.nd, o'.nz, fun q hq => (hf q hq).elim (o.n0 q) fun x => c.hh.free x⟩ hf
  have e2 : delL H ps q = some u := by rw [delL_out hq]; exact hu
  exact ⟨st.hh _ _ e2, st.fr _ _ e2⟩
/-- the beginning of a def to which a thing was lent -/
theorem Sep.lent {α : Type} {S : Sh α} {v : V} {a : α} (zh : Same Z H) (r : S.R K Z H v ps a) (nd : ps.Nodup) (nz : ∀ q ∈ ps, Z q = none) : Sep K Z (delL H ps) Z H [⟨S, v, a⟩] :=
  (Sep.base (Step.lent zh)).pushO ⟨r, nd, nz, fun q hq => delL_in hq⟩ fun _ _ i _ e => by simp at e
/-! ### what new things come as -/
theorem New.ownS {α : Type} [Py α] {Q : VK} {m : List α} (k : ∀ p ps Z' H', Step Z H Z' H' → OwnO (Sh.lt α) K H Z' H' (.ref p) ps m → Q (.ref p) H') : New K Z H Q m := fun p xs Z' H' st hp hl hz pr =>
  k p [p] Z' H' st (Own.shp ⟨⟨xs, hl, pr⟩, hz, hp⟩)
theorem NewD.ownS {κ α : Type} [Sc κ] [DecidableEq κ] [Kt κ] [Py α] {Q : VK} {m : Dct κ α} (k : ∀ p ps Z' H', Step Z H Z' H' → OwnO (Sh.dc κ α) K H Z' H' (.ref p) ps m → Q (.ref p) H') : NewD K Z H Q m := fun p xs Z' H' st hp hl hz pr =>
  k p [p] Z' H' st (OwnD.shp ⟨⟨xs, hl, pr⟩, hz, hp⟩)
end
end Cd

set_option Elab.async false
set_option linter.all false
set_option maxRecDepth 100000
set_option maxHeartbeats 4000000
namespace Cd
open PySem L2 PyProof.Rows
/-! ### comprehensions whose items are reckoned -/
section
variable {γ β : Type} {K : Fr} {J : It} {g : TG} {tt : TT} {te : TE} {σ : L2.St} {H Z : Hp} {L : List γ} {Y : γ → V → Hp → Hp → Prop} {vs : List Nat} {Q : VK}
theorem lcMK [Py β] (src : Src J Z L Y) (zh : Same Z H) (F : γ → R (Option β)) (hs : L.length < sizeLine) {W : List β → Prop} (hm : Good (lcR F L) W NoE)
    (el : ∀ a x Z' H' H2 (C : VK) (N : Hp → Prop) (Wo : Option β → Prop), a ∈ L → Step Z H Z' H' → Y a x H' H2 → Good (F a) Wo NoE →
      (∀ b, Wo (some b) → ∀ y Z2 H3, Step Z' H' Z2 H3 → Py.R K Z2 y b → C y H3) → (Wo none → ∀ Z2 H3, Step Z' H' Z2 H3 → N H3) →
      g x (wipe σ vs) H2 fun σ2 H3 => wipe σ2 vs = wipe σ vs ∧ tt σ2 H3 fun b H4 => if b = true then te σ2 H4 C else N H4)
    (k : ∀ bs, W bs → New K Z H Q bs) : lcRest J g tt te vs Q σ H := by
  intro D hD
  let Pv : Nat → Hp → Prop := fun i H' => i ≤ L.length ∧ ∃ Z' acc, Step Z H Z' H' ∧ Own K H Z' H' D acc ∧ acc.length ≤ i ∧ Good (lcR F (L.drop i)) (fun bs => W (acc ++ bs)) NoE
  refine ⟨fun i m H' => m = L.length - i ∧ Pv i H', ⟨L.length, by omega, Nat.zero_le _, Z, [], Step.own zh hD, ⟨⟨[], upd_same, .nil⟩, zh.free hD, hD⟩, Nat.le_refl _, hm⟩, ?_⟩
  rintro i m H' ⟨rfl, hi, Z', acc, st, ow, ha, hg⟩
  have zs : Same Z H' := st.zz.trans st.zh
  by_cases hlt : i < L.length
  · have ea : L[i]? = some L[i] := List.getElem?_eq_getElem hlt
    have ed : L.drop i = L[i] :: L.drop (i + 1) := List.drop_eq_getElem_cons hlt
    rw [ed] at hg
    have hg : Good (F L[i]) (fun o => Good (lcR F (L.drop (i + 1))) (fun bs => W (acc ++ (o.toList ++ bs))) NoE) NoE := (Good.bnd hg).imp (fun o h => Good.bnd h) fun _ h => h
    refine .inr ⟨src.go i _ H' ea zs, Pv (i + 1), fun H2 q => ⟨L.length - (i + 1), by omega, rfl, q⟩, fun x H2 y => ?_⟩
    refine el L[i] x Z' H' H2 _ _ _ (List.getElem_mem hlt) st (src.yld i _ H' x H2 ea zs y) hg (fun b hb y Z2 H3 st2 hr => ?_) (fun hn Z2 H3 st2 => ?_)
    · have ow2 := ow.step st2
      obtain ⟨⟨xs, h1, p1⟩, nz, n0⟩ := ow2
      refine ⟨xs, h1, by rw [p1.pLen]; omega, hlt, Z2, acc ++ [b], (st.trans st2).mut nz n0, ⟨⟨xs ++ [y], upd_same, p1.pApp (.cons hr .nil)⟩, nz, n0⟩, by rw [List.length_append, List.length_singleton]; omega, ?_⟩
      refine hb.imp (fun bs h => ?_) fun _ h => h
      rw [List.append_assoc]; exact h
    · exact ⟨hlt, Z2, acc, st.trans st2, ow.step st2, by omega, hn⟩
  · have e : i = L.length := by omega
    subst e
    rw [List.drop_length] at hg
    have hg : W (acc ++ []) := hg
    rw [List.append_nil] at hg
    refine .inl ⟨src.stop H' zs, ?_⟩
    obtain ⟨⟨xs, h1, p1⟩, nz, n0⟩ := ow
    exact k acc hg D xs Z' H' st hD h1 nz p1
theorem OwnO.pushAt {S : Sh β} {H0 : Hp} {v : V} {p : Addr} {ps qs : List Addr} {a : β} {l : List β} (o : OwnO (Sh.lst (ShL.all S)) K H0 Z H (.ref p) ps l) (o2 : OwnO S K H0 Z H v qs a) (hd : ∀ x ∈ ps, ∀ y ∈ qs, x ≠ y) :
    ∃ xs, H p = some (.lst xs) ∧ xs.length = l.length ∧ OwnO (Sh.lst (ShL.all S)) K H0 Z (upd H p (.lst (xs ++ [v]))) (.ref p) (ps ++ qs) (l ++ [a]) ∧ p ∈ ps := by
  obtain ⟨⟨p', xs, rs, ev, e1, h1, h2⟩, nd, nz, n0⟩ := o
  cases ev
  subst e1
  have hnp : p ∉ rs := (List.nodup_cons.mp nd).1
  have hpq : ∀ y ∈ qs, p ≠ y := hd p (by simp)
  refine ⟨xs, h1, allR_len h2, ⟨⟨p, xs ++ [v], rs ++ qs, rfl, by simp, upd_same, allR_snoc (S.keep (Same.refl _) (fun q hq => upd_ne (fun e => hpq q hq e.symm)) o2.r) (allR_keep (Same.refl _) (fun q hq => upd_ne (fun e => hnp (e ▸ hq))) h2)⟩, ?_, ?_, ?_⟩, by simp⟩
  · exact List.nodup_append.mpr ⟨nd, o2.nd, hd⟩
  · exact fun q hq => (List.mem_append.mp hq).elim (nz q) (o2.nz q)
  · exact fun q hq => (List.mem_append.mp hq).elim (n0 q) (o2.n0 q)
/-- .. the items one's own -/
theorem lcMO {S : Sh β} (src : Src J Z L Y) (zh : Same Z H) (F : γ → R (Option β)) (hs : L.length < sizeLine) {W : List β → Prop} (hm : Good (lcR F L) W NoE)
    (el : ∀ a x Z' H' H2 (C : VK) (N : Hp → Prop) (Wo : Option β → Prop), a ∈ L → Step Z H Z' H' → Y a x H' H2 → Good (F a) Wo NoE →
      (∀ b, Wo (some b) → ∀ y ps Z1 H1 Z2 H3, Step Z' H' Z1 H1 → Step Z1 H1 Z2 H3 → OwnO S K H1 Z2 H3 y ps b → C y H3) → (Wo none → ∀ Z2 H3, Step Z' H' Z2 H3 → N H3) →
      g x (wipe σ vs) H2 fun σ2 H3 => wipe σ2 vs = wipe σ vs ∧ tt σ2 H3 fun b H4 => if b = true then te σ2 H4 C else N H4)
    (k : ∀ bs, W bs → NewO (Sh.lst (ShL.all S)) K Z H Q bs) : lcRest J g tt te vs Q σ H := by
  intro D hD
  let Pv : Nat → Hp → Prop := fun i H' => i ≤ L.length ∧ ∃ Z' acc ps, Step Z H Z' H' ∧ OwnO (Sh.lst (ShL.all S)) K H Z' H' (.ref D) ps acc ∧ acc.length ≤ i ∧ Good (lcR F (L.drop i)) (fun bs => W (acc ++ bs)) NoE
  refine ⟨fun i m H' => m = L.length - i ∧ Pv i H', ⟨L.length, by omega, Nat.zero_le _, Z, [], [D], Step.own zh hD, ⟨⟨D, [], [], rfl, rfl, upd_same, rfl, rfl⟩, by simp, fun q hq => by rw [List.mem_singleton] at hq; rw [hq]; exact zh.free hD, fun q hq => by rw [List.mem_singleton] at hq; rw [hq]; exact hD⟩, Nat.le_refl _, hm⟩, ?_⟩
  rintro i m H' ⟨rfl, hi, Z', acc, ps, st, ow, ha, hg⟩
  have zs : Same Z H' := st.zz.trans st.zh
  by_cases hlt : i < L.length
  · have ea : L[i]? = some L[i] := List.getElem?_eq_getElem hlt
    have ed : L.drop i = L[i] :: L.drop (i + 1) := List.drop_eq_getElem_cons hlt
    rw [ed] at hg
    have hg : Good (F L[i]) (fun o => Good (lcR F (L.drop (i + 1))) (fun bs => W (acc ++ (o.toList ++ bs))) NoE) NoE := (Good.bnd hg).imp (fun o h => Good.bnd h) fun _ h => h
    refine .inr ⟨src.go i _ H' ea zs, Pv (i + 1), fun H2 q => ⟨L.length - (i + 1), by omega, rfl, q⟩, fun x H2 y => ?_⟩
    refine el L[i] x Z' H' H2 _ _ _ (List.getElem_mem hlt) st (src.yld i _ H' x H2 ea zs y) hg (fun b hb y qs Z1 H1 Z2 H3 st1 st2 o2 => ?_) (fun hn Z2 H3 st2 => ?_)
    · have st12 := st1.trans st2
      have ow1 := ow.step st1
      have ow2 := ow1.step st2
      have hne : ∀ x ∈ ps, ∀ y ∈ qs, x ≠ y := fun x hx y hy e => by
        obtain ⟨u, hu⟩ := ow1.stands x hx
        rw [e, o2.n0 y hy] at hu; cases hu
      obtain ⟨xs, h1, hl, o3, hp⟩ := ow2.pushAt ⟨o2.r, o2.nd, o2.nz, fun q hq => (st.trans st1).hh.free (o2.n0 q hq)⟩ hne
      refine ⟨xs, h1, by rw [hl]; omega, hlt, Z2, acc ++ [b], ps ++ qs, (st.trans st12).mut (ow2.nz D hp) hD, o3, by rw [List.length_append, List.length_singleton]; omega, ?_⟩
      refine hb.imp (fun bs h => ?_) fun _ h => h
      rw [List.append_assoc]; exact h
    · exact ⟨hlt, Z2, acc, ps, st.trans st2, ow.step st2, by omega, hn⟩
  · have e : i = L.length := by omega
    subst e
    rw [List.drop_length] at hg
    have hg : W (acc ++ []) := hg
    rw [List.append_nil] at hg
    exact .inl ⟨src.stop H' zs, k acc hg (.ref D) ps Z' H' st ow⟩
end
/-! ### a walk's own list, as all that is held says -/
end Cd

set_option Elab.async false
set_option linter.all false
set_option maxRecDepth 100000
set_option maxHeartbeats 4000000
namespace Cd
open PySem L2 PyProof.Rows
/-! ### what is never reached -/
section
variable {X : Cx}
theorem pe_never {e : Expr} : PE X e (fun _ _ _ => False) := ⟨fun _ _ _ _ _ _ h => h.elim⟩
theorem pt_never {e : Expr} : PT X e (fun _ _ _ => False) := ⟨fun _ _ _ _ _ _ h => h.elim⟩
theorem pss_never {st : List Stmt} : PSs X st (fun _ _ _ => False) := ⟨fun _ _ _ _ _ _ h => h.elim⟩
end
/-! ### names for what is looked for -/
def okIx (z : Str) (i : Int) : Prop := z.length ≤ sizeLine ∧ inR z.length i
def MulSOk (a : Str) (n : Int) : Prop := -(2 ^ 31) ≤ n ∧ n < 2 ^ 31 ∧ a.length * n.toNat ≤ 16777216
def fuelN : Nat := 1000000
section
variable {K : Fr} {Z H Z0 H0 Z' H' : Hp} {Q : VK} {G G' : List Rt}
theorem Good.wt {W : Bool → Prop} {E : Er → Prop} {b : Bool} (e : b = true) (h : Good (.ok b) W E) : W true := by subst e; exact h
theorem Good.wf {W : Bool → Prop} {E : Er → Prop} {b : Bool} (e : ¬ b = true) (h : Good (.ok b) W E) : W false := by
  cases b with
  | true => exact absurd rfl e
  | false => exact h
theorem valK2 {te : TE} {σ : L2.St} (W : Bool → Prop) (ev : ∀ Q' : VK, (∀ b Z' H', W b → Step Z H Z' H' → Q' (.bl b) H') → te σ H Q') (k : ∀ b Z' H', W b → Step Z H Z' H' → Q (.bl b) H') : te σ H Q := ev Q k
theorem testK2 {tt : TT} {σ : L2.St} {R : Bool → Hp → Prop} (W : Bool → Prop) (ev : ∀ Q' : Bool → Hp → Prop, (∀ b Z' H', W b → Step Z H Z' H' → Q' b H') → tt σ H Q') (k : ∀ b Z' H', W b → Step Z H Z' H' → R b H') : tt σ H R := ev R k
theorem ite2b {b : Bool} {A B : Prop} (h : ∀ _ : Unit, if b = true then A else B) : if b = true then A else B := h ()
theorem Sep.bor0 (h : Sep K Z0 H0 Z H G) : Bor K Z H Z [] := Bor.nil
theorem k_catL {α : Type} [Py α] {x y : V} {l m : List α} (zh : Same Z H) (hx : RO K Z H x l) (hy : RO K Z H y m) (hs : l.length + m.length ≤ sizeLine) (k : New K Z H Q (l ++ m)) : rCat x y H Q := by
  obtain ⟨a, xs, rfl, hz, p⟩ := hx
  obtain ⟨b, ys, rfl, hz2, p2⟩ := hy
  exact ⟨a, b, xs, ys, rfl, rfl, hz, hz2, by rw [p.pLen, p2.pLen]; exact hs, New.lay zh (p.pApp p2) k⟩
/-! None -/
theorem k_isNn (k : Q (.bl true) H) : rIsNQ .non .non H Q := ⟨rfl, k⟩
theorem k_notNn (k : Q (.bl false) H) : rNotNQ .non .non H Q := ⟨rfl, k⟩
theorem Sep.optN {α : Type} [Py α] {v : V} {o : Option α} (h : Sep K Z0 H0 Z H G) (i : Nat) (e : G[i]? = some ⟨Sh.told, v, o⟩) (ho : o = none) : v = .non ∧ Sep K Z0 H0 Z H (G.set i ⟨Sh.told, V.non, ()⟩) := by
  subst ho
  have r : v = .non := h.fact i e
  subst r
  obtain ⟨ps, o, g⟩ := h.chg i e
  exact ⟨rfl, g h.st (Same.refl _) (fun q u _ hu => ⟨hu, rfl⟩) (OwnO.ofR (a := ()) rfl) fun _ h => nomatch h⟩
theorem Sep.optSs {α : Type} [Sc α] {v : V} {o : Option α} {a : α} (h : Sep K Z0 H0 Z H G) (i : Nat) (e : G[i]? = some ⟨Sh.told, v, o⟩) (ho : o = some a) : v = Sc.emb a ∧ Sep K Z0 H0 Z H (G.set i ⟨Sh.told, V.non, ()⟩) := by
  subst ho
  have r : v = Sc.emb a := h.fact i e
  obtain ⟨ps, o, g⟩ := h.chg i e
  exact ⟨r, g h.st (Same.refl _) (fun q u _ hu => ⟨hu, rfl⟩) (OwnO.ofR (a := ()) rfl) fun _ h => nomatch h⟩
theorem Sep.nam {α : Type} {S : Sh α} {v : V} {a x : α} (h : Sep K Z0 H0 Z H G) (i : Nat) (e : G[i]? = some ⟨S, v, a⟩) (en : x = a) : Sep K Z0 H0 Z H (G.set i ⟨S, v, x⟩) := by
  subst en
  obtain ⟨ps, o, g⟩ := h.chg i e
  exact g h.st (Same.refl _) (fun q u _ hu => ⟨hu, rfl⟩) o fun _ h => .inl h
theorem Sep.chg1 {α : Type} {S : Sh α} {v : V} {a : α} (h : Sep K Z0 H0 Z H G) (i : Nat) (e : G[i]? = some ⟨S, v, a⟩) : ∃ ps, OwnO S K H0 Z H v ps a ∧
    ∀ (q : Addr) (w : HO) {β : Type} (S' : Sh β) {b : β}, q ∈ ps → OwnO S' K H0 Z (upd H q w) v ps b → Sep K Z0 H0 Z (upd H q w) (G.set i ⟨S', v, b⟩) := by
  have c := h.st
  obtain ⟨ps, o, g⟩ := h.chg i e
  exact ⟨ps, o, fun q w β S' b hq o' => g (c.mut (o.nz q hq) (o.n0 q hq)) (Same.refl _) (fun x u hx hu => ⟨by rw [upd_ne (fun x2 => hx (by rw [x2]; exact hq))]; exact hu, rfl⟩) o' fun x hx => .inl hx⟩
/-! ### displays of things that are held -/
structure SepF (K : Fr) (Z0 H0 Z H : Hp) (G : List Rt) (f : Nat → List Addr) : Prop where
  st : Step Z0 H0 Z H
  at_ : ∀ i r, G[i]? = some r → OwnO r.S K H0 Z H r.v (f i) r.a
  dj : ∀ i j r s, i ≠ j → G[i]? = some r → G[j]? = some s → ∀ q ∈ f i, q ∉ f j
structure RowF (K : Fr) (H0 Z H : Hp) (G : List Rt) (f : Nat → List Addr) (is : List Nat) {β : Type} (T : ShL β) (vs : List V) (b : β) : Prop where
  row : OwnL T K H0 Z H vs (is.flatMap f) b
  inb : ∀ i ∈ is, ∃ r, G[i]? = some r
variable {f : Nat → List Addr} {is : List Nat} {vs : List V}
theorem SepF.nil (h : SepF K Z0 H0 Z H G f) : RowF K H0 Z H G f [] ShL.nil [] () := ⟨OwnL.nil, fun _ h => nomatch h⟩
theorem SepF.nilA {α : Type} {S : Sh α} (h : SepF K Z0 H0 Z H G f) : RowF K H0 Z H G f [] (ShL.all S) [] [] := ⟨OwnL.nilA, fun _ h => nomatch h⟩
theorem SepF.dis (h : SepF K Z0 H0 Z H G f) {i : Nat} {r : Rt} (e : G[i]? = some r) (hb : ∀ j ∈ is, ∃ r, G[j]? = some r) (hi : i ∉ is) : ∀ x ∈ f i, ∀ y ∈ is.flatMap f, x ≠ y := fun x hx y hy e2 => by
  obtain ⟨j, hj, hy⟩ := List.mem_flatMap.mp hy
  obtain ⟨s, hs⟩ := hb j hj
  subst e2
  exact h.dj i j r s (fun e3 => hi (by rw [e3]; exact hj)) e hs x hx hy
theorem SepF.cons {α β : Type} {S : Sh α} {T : ShL β} {v : V} {a : α} {b : β} (h : SepF K Z0 H0 Z H G f) (i : Nat) (e : G[i]? = some ⟨S, v, a⟩) (r : RowF K H0 Z H G f is T vs b) (hi : i ∉ is) : RowF K H0 Z H G f (i :: is) (ShL.cons S T) (v :: vs) (a, b) :=
  ⟨by rw [List.flatMap_cons]; exact OwnL.cons (h.at_ i _ e) r.row (h.dis e r.inb hi), fun j hj => (List.mem_cons.mp hj).elim (fun e2 => ⟨_, e2 ▸ e⟩) (r.inb j)⟩
theorem SepF.consA {α : Type} {S : Sh α} {v : V} {a : α} {b : List α} (h : SepF K Z0 H0 Z H G f) (i : Nat) (e : G[i]? = some ⟨S, v, a⟩) (r : RowF K H0 Z H G f is (ShL.all S) vs b) (hi : i ∉ is) : RowF K H0 Z H G f (i :: is) (ShL.all S) (v :: vs) (a :: b) :=
  ⟨by rw [List.flatMap_cons]; exact OwnL.consA (h.at_ i _ e) r.row (h.dis e r.inb hi), fun j hj => (List.mem_cons.mp hj).elim (fun e2 => ⟨_, e2 ▸ e⟩) (r.inb j)⟩
theorem SepF.laid {β : Type} {T : ShL β} {S : Sh β} {b : β} {p : Addr} {o : HO} (h : SepF K Z0 H0 Z H G f) (r : RowF K H0 Z H G f is T vs b) (js : List Nat) (hj : js.Nodup) (hd : ∀ j ∈ js, j ∉ is) (e : js.map (fun j => G[j]?) = G'.map some) (hp : H p = none)
    (w : OwnO S K H0 Z (upd H p o) (.ref p) (p :: is.flatMap f) b) : Sep K Z0 H0 Z (upd H p o) (⟨S, .ref p, b⟩ :: G') := by
  have st : Step Z H Z (upd H p o) := Step.own h.st.zh hp
  have h0 : Sep K Z0 H0 Z H G' := (show Sep K Z0 H0 Z H G from ⟨h.st, f, h.at_, h.dj⟩).pick js hj e
  have at_ : ∀ (k : Nat) (s : Rt), G'[k]? = some s → ∃ j, js[k]? = some j ∧ G[j]? = some s := fun k s hk => by
    have e1 : (G'.map (some : Rt → Option Rt))[k]? = some (some s) := by rw [List.getElem?_map, hk]; rfl
    rw [← e, List.getElem?_map] at e1
    obtain ⟨i, e2, e3⟩ := Option.map_eq_some_iff.mp e1
    exact ⟨i, e2, e3⟩
  refine ⟨h.st.trans st, fun k => match k with | 0 => p :: is.flatMap f | k + 1 => f (js.getD k 0), fun k s ek => ?_, fun k l s t ne ek el => ?_⟩
  · cases k with
    | zero => simp only [List.getElem?_cons_zero, Option.some.injEq] at ek; subst ek; exact w
    | succ k =>
      simp only [List.getElem?_cons_succ] at ek
      obtain ⟨j, e1, e2⟩ := at_ k s ek
      dsimp only
      rw [List.getD_eq_getElem?_getD, e1]
      exact (h.at_ j s e2).step st
  · have key : ∀ k s, G'[k]? = some s → ∀ q ∈ f (js.getD k 0), q ∉ p :: is.flatMap f := fun k s ek q hq hm => by
      obtain ⟨j, e1, e2⟩ := at_ k s ek
      rw [List.getD_eq_getElem?_getD, e1] at hq
      rcases List.mem_cons.mp hm with rfl | hm
      · obtain ⟨u, hu⟩ := (h.at_ j s e2).stands q hq
        rw [hp] at hu; cases hu
      · obtain ⟨i, hi, hq2⟩ := List.mem_flatMap.mp hm
        obtain ⟨r2, hr2⟩ := r.inb i hi
        have hjm : j ∈ js := List.mem_of_getElem? e1
        exact h.dj j i s r2 (fun e3 => hd j hjm (by rw [e3]; exact hi)) e2 hr2 q hq hq2
    cases k with
    | zero =>
      cases l with
      | zero => exact (ne rfl).elim
      | succ l => intro q hq hq2; simp only [List.getElem?_cons_succ] at el; exact key l t el q hq2 hq
    | succ k =>
      cases l with
      | zero => intro q hq hq2; simp only [List.getElem?_cons_succ] at ek; exact key k s ek q hq hq2
      | succ l =>
        simp only [List.getElem?_cons_succ] at ek el
        obtain ⟨j, e1, e2⟩ := at_ k s ek
        obtain ⟨j2, e3, e4⟩ := at_ l t el
        dsimp only
        rw [List.getD_eq_getElem?_getD, List.getD_eq_getElem?_getD, e1, e3]
        refine h.dj j j2 s t (fun x => ne ?_) e2 e4
        subst x
        obtain ⟨hk1, hk2⟩ := List.getElem?_eq_some_iff.mp e1
        obtain ⟨hl1, hl2⟩ := List.getElem?_eq_some_iff.mp e3
        have := (List.getElem_inj hj).mp (hk2.trans hl2.symm)
        omega
theorem SepF.lst {β : Type} {T : ShL β} {b : β} (h : SepF K Z0 H0 Z H G f) (r : RowF K H0 Z H G f is T vs b) (js : List Nat) (hj : js.Nodup) (hd : ∀ j ∈ js, j ∉ is) (e : js.map (fun j => G[j]?) = G'.map some) (hs : vs.length ≤ sizeLine)
    (k : ∀ p H', Step Z H Z H' → Sep K Z0 H0 Z H' (⟨Sh.lst T, .ref p, b⟩ :: G') → Q (.ref p) H') : rLstQ vs H Q :=
  ⟨hs, fun p hp => k p _ (Step.own h.st.zh hp) (h.laid r js hj hd e hp (r.row.wrapL h.st hp))⟩
end
/-! ### tuples of two or three -/
def toLen {α β γ : Type} (p : TO α β γ) : Int := if p.x3.isSome = true then 3 else 2
theorem Pt.to {K : Fr} {Z H : Hp} {α β γ : Type} [Py α] [Py β] [Py γ] {v : V} {p : TO α β γ} (zh : Same Z H) (h : Py.R K Z v p) : Pt K H v "tuple" := by
  obtain ⟨x1, x2, x3⟩ := p
  obtain ⟨a, x, y, rfl, _, _, h3⟩ := h
  cases x3 with
  | none => exact .of (.base (.tup (zh _ _ h3)))
  | some c => obtain ⟨z, hz, _⟩ := h3; exact .of (.base (.tup (zh _ _ hz)))
instance {α β γ : Type} [Py α] [Py β] [Py γ] : PtT (TO α β γ) := ⟨"tuple", fun zh h => Pt.to zh h⟩
theorem inV_bl {ns : List Bool} {i : Bool} : inV (.bl i) (ns.map V.bl) = decide (i ∈ ns) := by
  unfold inV
  induction ns with
  | nil => simp
  | cons n r ih =>
    rw [List.map_cons, List.any_cons, ih]
    show ((n == i) || decide (i ∈ r)) = decide (i ∈ n :: r)
    cases n <;> cases i <;> simp
instance : Fl Bool := ⟨fun _ => rfl, fun l a => inV_bl⟩
/-! ### refusals, as the machine tells them -/
def ExR (ca : CA) (K : Fr) (Z H : Hp) : Er → Value → Option Addr → Prop
  | .ShopError, c, d => c = .ref ca.ShopError ∧ d = none
  | .NoCard, c, d => c = .ref ca.NoCard ∧ d = none
  | .NoField, c, d => c = .ref ca.NoField ∧ d = none
  | .NoOrder a b, c, d => c = .ref ca.NoOrder ∧ ∃ x, d = some x ∧ Z x = some (.xd [("place", .int b), ("deck", .int a)])
  | .NoBoard, c, d => c = .ref ca.NoBoard ∧ d = none
  | .Meet a b, c, d => c = .ref ca.Meet ∧ ∃ x v w, d = some x ∧ Z x = some (.xd [("other", w), ("one", v)]) ∧ Py.R K Z v a ∧ Py.R K Z w b
  | .NoAsking, c, d => c = .ref ca.NoAsking ∧ d = none
  | .NoTray, c, d => c = .ref ca.NoTray ∧ d = none
  | .NoPlan, c, d => c = .ref ca.NoPlan ∧ d = none
  | .NoRow, c, d => c = .ref ca.NoRow ∧ d = none
end Cd

set_option Elab.async false
set_option linter.all false
set_option maxRecDepth 100000
set_option maxHeartbeats 4000000
namespace Cd
open PySem L2 PyProof.Rows
/-! ### == and != of told data, by a function on the data -/
open PySem.SeqAt (EqAt RcAt RcNeAt)
def Cmp (A : Around) (s : Shared) (v u : Value) (b : Bool) : Prop := RcAt A s v u b ∧ RcNeAt A s v u (!b)
class EqA (α : Type) [Py α] where
  eqd : α → α → Bool
  dep : Nat
  cmp : ∀ {X : Cx} {pins : List (Addr × Obj)} {σ : L2.St} {H : Hp} {s : Shared} {x y : V} {v u : Value} {a b : α} {A : Around}, Inv X pins σ H s → Py.R X.K H x a → Py.R X.K H y b → RelV x v → RelV y u → A.units + dep < cLine → Cmp A s v u (eqd a b)
  at_ : ∀ {X : Cx} {pins : List (Addr × Obj)} {σ : L2.St} {H : Hp} {s : Shared} {x y : V} {v u : Value} {a b : α} {A : Around}, Inv X pins σ H s → Py.R X.K H x a → Py.R X.K H y b → RelV x v → RelV y u → A.units + dep < cLine → EqAt A s v u (eqd a b)
  same : ∀ {K : Fr} {H : Hp} {x : V} {a b : α}, Py.R K H x a → Py.R K H x b → eqd a b = true
/-- the function is equality -/
class EqL (α : Type) [Py α] [EqA α] [DecidableEq α] : Prop where
  lw : ∀ a b : α, EqA.eqd a b = decide (a = b)
theorem beq_dec {α : Type} [DecidableEq α] [BEq α] [LawfulBEq α] (a b : α) : (a == b) = decide (a = b) := by
  by_cases h : a = b
  · subst h; simp
  · simp [h]
instance : EqA Int where
  eqd a b := decide (a = b)
  dep := 0
  cmp := fun {X pins σ H s x y v u a b A} _ hx hy rx ry _ => by
    cases (show x = V.int a from hx); cases (show y = V.int b from hy)
    obtain ⟨t, rfl⟩ := rx; obtain ⟨t2, rfl⟩ := ry
    rw [← beq_dec]
    exact ⟨SeqAt.RcAt.int_int a t b t2, SeqAt.RcNeAt.int_int a t b t2⟩
  at_ := fun {X pins σ H s x y v u a b A} _ hx hy rx ry _ => by
    cases (show x = V.int a from hx); cases (show y = V.int b from hy)
    obtain ⟨t, rfl⟩ := rx; obtain ⟨t2, rfl⟩ := ry
    rw [← beq_dec]
    exact SeqAt.EqAt.int_int a t b t2
  same := fun {K H x a b} h1 h2 => by cases (show x = V.int a from h1); cases (show V.int a = V.int b from h2); simp
instance : EqL Int := ⟨fun _ _ => rfl⟩
instance : EqA Str where
  eqd a b := decide (a = b)
  dep := 0
  cmp := fun {X pins σ H s x y v u a b A} _ hx hy rx ry _ => by
    cases (show x = V.str a from hx); cases (show y = V.str b from hy)
    obtain ⟨t, rfl⟩ := rx; obtain ⟨t2, rfl⟩ := ry
    rw [← beq_dec]
    exact ⟨SeqAt.RcAt.str_str a t b t2, SeqAt.RcNeAt.str_str a t b t2⟩
  at_ := fun {X pins σ H s x y v u a b A} _ hx hy rx ry _ => by
    cases (show x = V.str a from hx); cases (show y = V.str b from hy)
    obtain ⟨t, rfl⟩ := rx; obtain ⟨t2, rfl⟩ := ry
    rw [← beq_dec]
    exact SeqAt.EqAt.str_str a t b t2
  same := fun {K H x a b} h1 h2 => by cases (show x = V.str a from h1); cases (show V.str a = V.str b from h2); simp
instance : EqL Str := ⟨fun _ _ => rfl⟩
instance : EqA Bool where
  eqd a b := decide (a = b)
  dep := 0
  cmp := fun {X pins σ H s x y v u a b A} _ hx hy rx ry _ => by
    cases (show x = V.bl a from hx); cases (show y = V.bl b from hy)
    cases (show v = Value.bool a from rx); cases (show u = Value.bool b from ry)
    rw [← beq_dec]
    exact ⟨SeqAt.RcAt.bool_bool a b, SeqAt.RcNeAt.bool_bool a b⟩
  at_ := fun {X pins σ H s x y v u a b A} _ hx hy rx ry _ => by
    cases (show x = V.bl a from hx); cases (show y = V.bl b from hy)
    cases (show v = Value.bool a from rx); cases (show u = Value.bool b from ry)
    rw [← beq_dec]
    exact SeqAt.EqAt.bool_bool a b
  same := fun {K H x a b} h1 h2 => by cases (show x = V.bl a from h1); cases (show V.bl a = V.bl b from h2); simp
instance : EqL Bool := ⟨fun _ _ => rfl⟩
instance : EqA Unit where
  eqd _ _ := true
  dep := 0
  cmp := fun {X pins σ H s x y v u a b A} _ hx hy rx ry _ => by
    cases (show x = V.non from hx); cases (show y = V.non from hy)
    cases (show v = Value.none from rx); cases (show u = Value.none from ry)
    exact ⟨SeqAt.RcAt.none_none, SeqAt.RcNeAt.none_none⟩
  at_ := fun {X pins σ H s x y v u a b A} _ hx hy rx ry _ => by
    cases (show x = V.non from hx); cases (show y = V.non from hy)
    cases (show v = Value.none from rx); cases (show u = Value.none from ry)
    exact SeqAt.EqAt.same _
  same := fun _ _ => rfl
instance : EqL Unit := ⟨fun _ _ => rfl⟩
/-! rows of values -/
inductive TEq (F : Value → Value → Bool → Prop) : List Value → List Value → List Bool → Prop
  | nilL {ws : List Value} : TEq F [] ws []
  | nilR {us : List Value} : TEq F us [] []
  | cons {v w : Value} {b : Bool} {us ws : List Value} {bs : List Bool} : F v w b → TEq F us ws bs → TEq F (v :: us) (w :: ws) (b :: bs)
theorem TEq.get {F : Value → Value → Bool → Prop} {us ws : List Value} {bs : List Bool} (h : TEq F us ws bs) : ∀ j (h1 : j < us.length) (h2 : j < ws.length), F us[j] ws[j] (bs.getD j true) := by
  induction h with
  | nilL => intro j h1 _; exact absurd h1 (Nat.not_lt_zero _)
  | nilR => intro j _ h2; exact absurd h2 (Nat.not_lt_zero _)
  | cons f _ ih =>
    intro j h1 h2
    cases j with
    | zero => exact f
    | succ j => exact ih j (Nat.lt_of_succ_lt_succ h1) (Nat.lt_of_succ_lt_succ h2)
theorem TEq.len {F : Value → Value → Bool → Prop} {us ws : List Value} {bs : List Bool} (h : TEq F us ws bs) : bs.length = min us.length ws.length := by
  induction h with
  | nilL => simp
  | nilR => simp
  | cons _ _ ih => simp only [List.length_cons]; omega
theorem range_getD : ∀ bs : List Bool, ((List.range bs.length).all fun j => bs.getD j true) = bs.all id := fun bs => by
  rw [Bool.eq_iff_iff, List.all_eq_true, List.all_eq_true]
  constructor
  · intro h b hb
    obtain ⟨i, hi, e⟩ := List.getElem_of_mem hb
    have := h i (List.mem_range.mpr hi)
    rw [List.getD_eq_getElem?_getD, List.getElem?_eq_getElem hi, e] at this
    exact this
  · intro h j hj
    have hj := List.mem_range.mp hj
    rw [List.getD_eq_getElem?_getD, List.getElem?_eq_getElem hj]
    exact h _ (List.getElem_mem hj)
section
variable {X : Cx} {pins : List (Addr × Obj)} {σ : L2.St} {H : Hp} {s : Shared} {A : Around}
theorem cmp_lists {p q : Addr} {xs ys : List V} {bs : List Bool} (I : Inv X pins σ H s) (hp : H p = some (.lst xs)) (hq : H q = some (.lst ys)) (hu : A.units < cLine)
    (t : ∀ us ws, Vals xs us → Vals ys ws → TEq (EqAt A.in1 s) us ws bs) : Cmp A s (.ref p) (.ref q) (bs.all id && xs.length == ys.length) := by
  obtain ⟨us, r1, p1, _⟩ := I.list (SqL.of hp)
  obtain ⟨ws, r2, p2, _⟩ := I.list (SqL.of hq)
  have te := t us ws r1 r2
  have l := te.len
  rw [r1.length, r2.length]
  by_cases e : us.length = ws.length
  · have sz : us.toArray.size = ws.toArray.size := by simpa using e
    have hb : bs.length = us.toArray.size := by rw [l, ← e]; simp
    have g : (List.range us.toArray.size).all (fun j => bs.getD j true) = (bs.all id && us.length == ws.length) := by
      rw [← hb, range_getD, e]; simp
    have he : ∀ j (h1 : j < us.toArray.size) (h2 : j < ws.toArray.size), EqAt A.in1 s us.toArray[j] ws.toArray[j] (bs.getD j true) := fun j h1 h2 => by
      have := te.get j (by simpa using h1) (by simpa using h2)
      simpa using this
    rw [← g]
    exact ⟨SeqAt.RcAt.lists p1.isList p2.isList sz hu he, SeqAt.RcNeAt.lists p1.isList p2.isList sz hu he⟩
  · have sz : (us.toArray.size != ws.toArray.size) = true := by simpa using e
    have g : (bs.all id && us.length == ws.length) = false := by simp [e]
    rw [g]
    exact ⟨SeqAt.RcAt.lists_lengths p1.isList p2.isList sz hu, SeqAt.RcNeAt.lists_lengths p1.isList p2.isList sz hu⟩
theorem cmp_tuples {p q : Addr} {xs ys : List V} {bs : List Bool} (I : Inv X pins σ H s) (hp : H p = some (.tup xs)) (hq : H q = some (.tup ys)) (hu : A.units < cLine)
    (t : ∀ us ws, Vals xs us → Vals ys ws → TEq (EqAt A.in1 s) us ws bs) : Cmp A s (.ref p) (.ref q) (bs.all id && xs.length == ys.length) := by
  obtain ⟨us, r1, p1, _⟩ := I.tuple (SqT.of hp)
  obtain ⟨ws, r2, p2, _⟩ := I.tuple (SqT.of hq)
  have te := t us ws r1 r2
  rw [r1.length, r2.length]
  have hb : bs.length = min us.toArray.size ws.toArray.size := by rw [te.len]; simp
  have g : ((List.range (min us.toArray.size ws.toArray.size)).all (fun j => bs.getD j true) && us.toArray.size == ws.toArray.size) = (bs.all id && us.length == ws.length) := by
    rw [← hb, range_getD]; simp
  have he : ∀ j (h1 : j < us.toArray.size) (h2 : j < ws.toArray.size), EqAt A.in1 s us.toArray[j] ws.toArray[j] (bs.getD j true) := fun j h1 h2 => by
    have := te.get j (by simpa using h1) (by simpa using h2)
    simpa using this
  rw [← g]
  exact ⟨SeqAt.RcAt.tuples p1 p2 hu he, SeqAt.RcNeAt.tuples p1 p2 hu he⟩
theorem at_refs {p q : Addr} {b : Bool} (c : Cmp A s (.ref p) (.ref q) b) (h : p = q → b = true) : EqAt A s (.ref p) (.ref q) b := by
  by_cases e : p = q
  · subst e; rw [h rfl]; exact SeqAt.EqAt.same _
  · exact SeqAt.EqAt.of_refs e c.1
theorem te_list {α : Type} [Py α] [EqA α] (I : Inv X pins σ H s) (hu : A.units + EqA.dep α < cLine) : ∀ {xs ys : List V} {l m : List α}, Paired (Py.R X.K H) xs l → Paired (Py.R X.K H) ys m → ∀ us ws, Vals xs us → Vals ys ws → TEq (EqAt A s) us ws (List.zipWith EqA.eqd l m)
  | _, _, _, _, .nil, _, _, _, .nil, _ => .nilL
  | _, _, _, _, .cons _ _, .nil, _, _, .cons _ _, .nil => .nilR
  | _, _, _, _, .cons r t, .cons r2 t2, _, _, .cons a c, .cons a2 c2 => .cons (EqA.at_ I r r2 a a2 hu) (te_list I hu t t2 _ _ c c2)
end
def eqLs {α : Type} [Py α] [EqA α] (l m : List α) : Bool := (List.zipWith EqA.eqd l m).all id && l.length == m.length
theorem same_list {α : Type} [Py α] [EqA α] {K : Fr} {H : Hp} : ∀ {xs : List V} {l m : List α}, Paired (Py.R K H) xs l → Paired (Py.R K H) xs m → eqLs l m = true
  | _, _, _, .nil, .nil => rfl
  | _, _, _, .cons r t, .cons r2 t2 => by
    have h := same_list t t2
    unfold eqLs at h ⊢
    rw [List.zipWith_cons_cons, List.all_cons, List.length_cons, List.length_cons]
    rw [Bool.and_eq_true] at h
    rw [EqA.same r r2, h.1]
    have := h.2
    simp at this ⊢
    exact this
theorem eqLs_lw {α : Type} [Py α] [EqA α] [DecidableEq α] [EqL α] : ∀ l m : List α, eqLs l m = decide (l = m)
  | [], [] => by simp [eqLs]
  | [], _ :: _ => by simp [eqLs]
  | _ :: _, [] => by simp [eqLs]
  | a :: l, b :: m => by
    have h := eqLs_lw l m
    unfold eqLs at h ⊢
    rw [List.zipWith_cons_cons, List.all_cons, List.length_cons, List.length_cons, EqL.lw]
    by_cases e : a = b
    · subst e
      simp at h ⊢
      exact h
    · simp [e]
instance {α : Type} [Py α] [EqA α] : EqA (List α) where
  eqd := eqLs
  dep := EqA.dep α + 1
  cmp := fun {X pins σ H s x y v u a b A} I hx hy rx ry hu => by
    obtain ⟨p, xs, rfl, hp, h1⟩ := hx
    obtain ⟨q, ys, rfl, hq, h2⟩ := hy
    cases (show v = Value.ref p from rx); cases (show u = Value.ref q from ry)
    have c := cmp_lists (A := A) I hp hq (by omega) (te_list (A := A.in1) I (by show A.units + 1 + _ < cLine; omega) h1 h2)
    rw [h1.pLen, h2.pLen] at c
    exact c
  at_ := fun {X pins σ H s x y v u a b A} I hx hy rx ry hu => by
    obtain ⟨p, xs, rfl, hp, h1⟩ := hx
    obtain ⟨q, ys, rfl, hq, h2⟩ := hy
    cases (show v = Value.ref p from rx); cases (show u = Value.ref q from ry)
    have c := cmp_lists (A := A) I hp hq (by omega) (te_list (A := A.in1) I (by show A.units + 1 + _ < cLine; omega) h1 h2)
    rw [h1.pLen, h2.pLen] at c
    refine at_refs c fun e => ?_
    subst e
    rw [hp] at hq; cases hq
    exact same_list h1 h2
  same := fun h1 h2 => by
    obtain ⟨p, xs, rfl, hp, h1⟩ := h1
    obtain ⟨q, ys, e, hq, h2⟩ := h2
    cases e
    rw [hp] at hq; cases hq
    exact same_list h1 h2
instance {α : Type} [Py α] [EqA α] [DecidableEq α] [EqL α] : EqL (List α) := ⟨eqLs_lw⟩
instance {α : Type} [Py α] [EqA α] : EqA (TL α) where
  eqd a b := eqLs a.l b.l
  dep := EqA.dep α + 1
  cmp := fun {X pins σ H s x y v u a b A} I hx hy rx ry hu => by
    obtain ⟨p, xs, rfl, hp, h1⟩ := hx
    obtain ⟨q, ys, rfl, hq, h2⟩ := hy
    cases (show v = Value.ref p from rx); cases (show u = Value.ref q from ry)
    have c := cmp_tuples (A := A) I hp hq (by omega) (te_list (A := A.in1) I (by show A.units + 1 + _ < cLine; omega) h1 h2)
    rw [h1.pLen, h2.pLen] at c
    exact c
  at_ := fun {X pins σ H s x y v u a b A} I hx hy rx ry hu => by
    obtain ⟨p, xs, rfl, hp, h1⟩ := hx
    obtain ⟨q, ys, rfl, hq, h2⟩ := hy
    cases (show v = Value.ref p from rx); cases (show u = Value.ref q from ry)
    have c := cmp_tuples (A := A) I hp hq (by omega) (te_list (A := A.in1) I (by show A.units + 1 + _ < cLine; omega) h1 h2)
    rw [h1.pLen, h2.pLen] at c
    refine at_refs c fun e => ?_
    subst e
    rw [hp] at hq; cases hq
    exact same_list h1 h2
  same := fun h1 h2 => by
    obtain ⟨p, xs, rfl, hp, h1⟩ := h1
    obtain ⟨q, ys, e, hq, h2⟩ := h2
    cases e
    rw [hp] at hq; cases hq
    exact same_list h1 h2
instance {α : Type} [Py α] [EqA α] [DecidableEq α] [EqL α] : EqL (TL α) := ⟨fun a b => by
  show eqLs a.l b.l = _
  rw [eqLs_lw]
  obtain ⟨l⟩ := a; obtain ⟨m⟩ := b
  exact decide_eq_decide.mpr ⟨fun h => by rw [show l = m from h], fun h => by injection h⟩⟩
instance {α β : Type} [Py α] [EqA α] [Py β] [EqA β] : EqA (α × β) where
  eqd a b := EqA.eqd a.1 b.1 && EqA.eqd a.2 b.2
  dep := max (EqA.dep β) (max (EqA.dep α) (0)) + 1
  cmp := fun {X pins σ H s x y v u a b A} I hx hy rx ry hu => by
    obtain ⟨p, y0, y1, rfl, hp, h0, h1⟩ := hx
    obtain ⟨q, z0, z1, rfl, hq, k0, k1⟩ := hy
    cases (show v = Value.ref p from rx); cases (show u = Value.ref q from ry)
    have c := cmp_tuples (A := A) (bs := [EqA.eqd a.1 b.1, EqA.eqd a.2 b.2]) I hp hq (by omega) (fun us ws v1 v2 => match us, ws, v1, v2 with | _, _, .cons r0 (.cons r1 (.nil)), .cons t0 (.cons t1 (.nil)) => .cons (EqA.at_ I h0 k0 r0 t0 (by show A.units + 1 + _ < cLine; omega)) (.cons (EqA.at_ I h1 k1 r1 t1 (by show A.units + 1 + _ < cLine; omega)) (.nilL)))
    have e : ([EqA.eqd a.1 b.1, EqA.eqd a.2 b.2].all id && [y0, y1].length == [z0, z1].length) = (EqA.eqd a.1 b.1 && EqA.eqd a.2 b.2) := by simp [Bool.and_assoc]
    rw [e] at c
    exact c
  at_ := fun {X pins σ H s x y v u a b A} I hx hy rx ry hu => by
    obtain ⟨p, y0, y1, rfl, hp, h0, h1⟩ := hx
    obtain ⟨q, z0, z1, rfl, hq, k0, k1⟩ := hy
    cases (show v = Value.ref p from rx); cases (show u = Value.ref q from ry)
    have c := cmp_tuples (A := A) (bs := [EqA.eqd a.1 b.1, EqA.eqd a.2 b.2]) I hp hq (by omega) (fun us ws v1 v2 => match us, ws, v1, v2 with | _, _, .cons r0 (.cons r1 (.nil)), .cons t0 (.cons t1 (.nil)) => .cons (EqA.at_ I h0 k0 r0 t0 (by show A.units + 1 + _ < cLine; omega)) (.cons (EqA.at_ I h1 k1 r1 t1 (by show A.units + 1 + _ < cLine; omega)) (.nilL)))
    have e : ([EqA.eqd a.1 b.1, EqA.eqd a.2 b.2].all id && [y0, y1].length == [z0, z1].length) = (EqA.eqd a.1 b.1 && EqA.eqd a.2 b.2) := by simp [Bool.and_assoc]
    rw [e] at c
    refine at_refs c fun e => ?_
    subst e
    rw [hp] at hq; cases hq
    rw [EqA.same h0 k0]; rw [EqA.same h1 k1]; rfl
  same := fun hx hy => by
    obtain ⟨p, y0, y1, rfl, hp, h0, h1⟩ := hx
    obtain ⟨q, z0, z1, e, hq, k0, k1⟩ := hy
    cases e
    rw [hp] at hq; cases hq
    rw [EqA.same h0 k0]; rw [EqA.same h1 k1]; rfl
instance {α β : Type} [Py α] [EqA α] [DecidableEq α] [EqL α] [Py β] [EqA β] [DecidableEq β] [EqL β] : EqL (α × β) := ⟨fun a b => by
  show (EqA.eqd a.1 b.1 && EqA.eqd a.2 b.2) = _
  rw [EqL.lw, EqL.lw]
  obtain ⟨c0, c1⟩ := a; obtain ⟨d0, d1⟩ := b
  rw [Bool.eq_iff_iff]; simp [and_assoc]⟩
instance {α β γ : Type} [Py α] [EqA α] [Py β] [EqA β] [Py γ] [EqA γ] : EqA (T3 α β γ) where
  eqd a b := EqA.eqd a.x1 b.x1 && EqA.eqd a.x2 b.x2 && EqA.eqd a.x3 b.x3
  dep := max (EqA.dep γ) (max (EqA.dep β) (max (EqA.dep α) (0))) + 1
  cmp := fun {X pins σ H s x y v u a b A} I hx hy rx ry hu => by
    obtain ⟨p, y0, y1, y2, rfl, hp, h0, h1, h2⟩ := hx
    obtain ⟨q, z0, z1, z2, rfl, hq, k0, k1, k2⟩ := hy
    cases (show v = Value.ref p from rx); cases (show u = Value.ref q from ry)
    have c := cmp_tuples (A := A) (bs := [EqA.eqd a.x1 b.x1, EqA.eqd a.x2 b.x2, EqA.eqd a.x3 b.x3]) I hp hq (by omega) (fun us ws v1 v2 => match us, ws, v1, v2 with | _, _, .cons r0 (.cons r1 (.cons r2 (.nil))), .cons t0 (.cons t1 (.cons t2 (.nil))) => .cons (EqA.at_ I h0 k0 r0 t0 (by show A.units + 1 + _ < cLine; omega)) (.cons (EqA.at_ I h1 k1 r1 t1 (by show A.units + 1 + _ < cLine; omega)) (.cons (EqA.at_ I h2 k2 r2 t2 (by show A.units + 1 + _ < cLine; omega)) (.nilL))))
    have e : ([EqA.eqd a.x1 b.x1, EqA.eqd a.x2 b.x2, EqA.eqd a.x3 b.x3].all id && [y0, y1, y2].length == [z0, z1, z2].length) = (EqA.eqd a.x1 b.x1 && EqA.eqd a.x2 b.x2 && EqA.eqd a.x3 b.x3) := by simp [Bool.and_assoc]
    rw [e] at c
    exact c
  at_ := fun {X pins σ H s x y v u a b A} I hx hy rx ry hu => by
    obtain ⟨p, y0, y1, y2, rfl, hp, h0, h1, h2⟩ := hx
    obtain ⟨q, z0, z1, z2, rfl, hq, k0, k1, k2⟩ := hy
    cases (show v = Value.ref p from rx); cases (show u = Value.ref q from ry)
    have c := cmp_tuples (A := A) (bs := [EqA.eqd a.x1 b.x1, EqA.eqd a.x2 b.x2, EqA.eqd a.x3 b.x3]) I hp hq (by omega) (fun us ws v1 v2 => match us, ws, v1, v2 with | _, _, .cons r0 (.cons r1 (.cons r2 (.nil))), .cons t0 (.cons t1 (.cons t2 (.nil))) => .cons (EqA.at_ I h0 k0 r0 t0 (by show A.units + 1 + _ < cLine; omega)) (.cons (EqA.at_ I h1 k1 r1 t1 (by show A.units + 1 + _ < cLine; omega)) (.cons (EqA.at_ I h2 k2 r2 t2 (by show A.units + 1 + _ < cLine; omega)) (.nilL))))
    have e : ([EqA.eqd a.x1 b.x1, EqA.eqd a.x2 b.x2, EqA.eqd a.x3 b.x3].all id && [y0, y1, y2].length == [z0, z1, z2].length) = (EqA.eqd a.x1 b.x1 && EqA.eqd a.x2 b.x2 && EqA.eqd a.x3 b.x3) := by simp [Bool.and_assoc]
    rw [e] at c
    refine at_refs c fun e => ?_
    subst e
    rw [hp] at hq; cases hq
    rw [EqA.same h0 k0]; rw [EqA.same h1 k1]; rw [EqA.same h2 k2]; rfl
  same := fun hx hy => by
    obtain ⟨p, y0, y1, y2, rfl, hp, h0, h1, h2⟩ := hx
    obtain ⟨q, z0, z1, z2, e, hq, k0, k1, k2⟩ := hy
    cases e
    rw [hp] at hq; cases hq
    rw [EqA.same h0 k0]; rw [EqA.same h1 k1]; rw [EqA.same h2 k2]; rfl
instance {α β γ : Type} [Py α] [EqA α] [DecidableEq α] [EqL α] [Py β] [EqA β] [DecidableEq β] [EqL β] [Py γ] [EqA γ] [DecidableEq γ] [EqL γ] : EqL (T3 α β γ) := ⟨fun a b => by
  show (EqA.eqd a.x1 b.x1 && EqA.eqd a.x2 b.x2 && EqA.eqd a.x3 b.x3) = _
  rw [EqL.lw, EqL.lw, EqL.lw]
  obtain ⟨c0, c1, c2⟩ := a; obtain ⟨d0, d1, d2⟩ := b
  rw [Bool.eq_iff_iff]; simp [and_assoc]⟩
instance {α β γ δ : Type} [Py α] [EqA α] [Py β] [EqA β] [Py γ] [EqA γ] [Py δ] [EqA δ] : EqA (T4 α β γ δ) where
  eqd a b := EqA.eqd a.x1 b.x1 && EqA.eqd a.x2 b.x2 && EqA.eqd a.x3 b.x3 && EqA.eqd a.x4 b.x4
  dep := max (EqA.dep δ) (max (EqA.dep γ) (max (EqA.dep β) (max (EqA.dep α) (0)))) + 1
  cmp := fun {X pins σ H s x y v u a b A} I hx hy rx ry hu => by
    obtain ⟨p, y0, y1, y2, y3, rfl, hp, h0, h1, h2, h3⟩ := hx
    obtain ⟨q, z0, z1, z2, z3, rfl, hq, k0, k1, k2, k3⟩ := hy
    cases (show v = Value.ref p from rx); cases (show u = Value.ref q from ry)
    have c := cmp_tuples (A := A) (bs := [EqA.eqd a.x1 b.x1, EqA.eqd a.x2 b.x2, EqA.eqd a.x3 b.x3, EqA.eqd a.x4 b.x4]) I hp hq (by omega) (fun us ws v1 v2 => match us, ws, v1, v2 with | _, _, .cons r0 (.cons r1 (.cons r2 (.cons r3 (.nil)))), .cons t0 (.cons t1 (.cons t2 (.cons t3 (.nil)))) => .cons (EqA.at_ I h0 k0 r0 t0 (by show A.units + 1 + _ < cLine; omega)) (.cons (EqA.at_ I h1 k1 r1 t1 (by show A.units + 1 + _ < cLine; omega)) (.cons (EqA.at_ I h2 k2 r2 t2 (by show A.units + 1 + _ < cLine; omega)) (.cons (EqA.at_ I h3 k3 r3 t3 (by show A.units + 1 + _ < cLine; omega)) (.nilL)))))
    have e : ([EqA.eqd a.x1 b.x1, EqA.eqd a.x2 b.x2, EqA.eqd a.x3 b.x3, EqA.eqd a.x4 b.x4].all id && [y0, y1, y2, y3].length == [z0, z1, z2, z3].length) = (EqA.eqd a.x1 b.x1 && EqA.eqd a.x2 b.x2 && EqA.eqd a.x3 b.x3 && EqA.eqd a.x4 b.x4) := by simp [Bool.and_assoc]
    rw [e] at c
    exact c
  at_ := fun {X pins σ H s x y v u a b A} I hx hy rx ry hu => by
    obtain ⟨p, y0, y1, y2, y3, rfl, hp, h0, h1, h2, h3⟩ := hx
    obtain ⟨q, z0, z1, z2, z3, rfl, hq, k0, k1, k2, k3⟩ := hy
    cases (show v = Value.ref p from rx); cases (show u = Value.ref q from ry)
    have c := cmp_tuples (A := A) (bs := [EqA.eqd a.x1 b.x1, EqA.eqd a.x2 b.x2, EqA.eqd a.x3 b.x3, EqA.eqd a.x4 b.x4]) I hp hq (by omega) (fun us ws v1 v2 => match us, ws, v1, v2 with | _, _, .cons r0 (.cons r1 (.cons r2 (.cons r3 (.nil)))), .cons t0 (.cons t1 (.cons t2 (.cons t3 (.nil)))) => .cons (EqA.at_ I h0 k0 r0 t0 (by show A.units + 1 + _ < cLine; omega)) (.cons (EqA.at_ I h1 k1 r1 t1 (by show A.units + 1 + _ < cLine; omega)) (.cons (EqA.at_ I h2 k2 r2 t2 (by show A.units + 1 + _ < cLine; omega)) (.cons (EqA.at_ I h3 k3 r3 t3 (by show A.units + 1 + _ < cLine; omega)) (.nilL)))))
    have e : ([EqA.eqd a.x1 b.x1, EqA.eqd a.x2 b.x2, EqA.eqd a.x3 b.x3, EqA.eqd a.x4 b.x4].all id && [y0, y1, y2, y3].length == [z0, z1, z2, z3].length) = (EqA.eqd a.x1 b.x1 && EqA.eqd a.x2 b.x2 && EqA.eqd a.x3 b.x3 && EqA.eqd a.x4 b.x4) := by simp [Bool.and_assoc]
    rw [e] at c
    refine at_refs c fun e => ?_
    subst e
    rw [hp] at hq; cases hq
    rw [EqA.same h0 k0]; rw [EqA.same h1 k1]; rw [EqA.same h2 k2]; rw [EqA.same h3 k3]; rfl
  same := fun hx hy => by
    obtain ⟨p, y0, y1, y2, y3, rfl, hp, h0, h1, h2, h3⟩ := hx
    obtain ⟨q, z0, z1, z2, z3, e, hq, k0, k1, k2, k3⟩ := hy
    cases e
    rw [hp] at hq; cases hq
    rw [EqA.same h0 k0]; rw [EqA.same h1 k1]; rw [EqA.same h2 k2]; rw [EqA.same h3 k3]; rfl
instance {α β γ δ : Type} [Py α] [EqA α] [DecidableEq α] [EqL α] [Py β] [EqA β] [DecidableEq β] [EqL β] [Py γ] [EqA γ] [DecidableEq γ] [EqL γ] [Py δ] [EqA δ] [DecidableEq δ] [EqL δ] : EqL (T4 α β γ δ) := ⟨fun a b => by
  show (EqA.eqd a.x1 b.x1 && EqA.eqd a.x2 b.x2 && EqA.eqd a.x3 b.x3 && EqA.eqd a.x4 b.x4) = _
  rw [EqL.lw, EqL.lw, EqL.lw, EqL.lw]
  obtain ⟨c0, c1, c2, c3⟩ := a; obtain ⟨d0, d1, d2, d3⟩ := b
  rw [Bool.eq_iff_iff]; simp [and_assoc]⟩
instance {α β : Type} [Py α] [EqA α] [Py β] [EqA β] : EqA (HL2 α β) where
  eqd a b := EqA.eqd a.x1 b.x1 && EqA.eqd a.x2 b.x2
  dep := max (EqA.dep β) (max (EqA.dep α) (0)) + 1
  cmp := fun {X pins σ H s x y v u a b A} I hx hy rx ry hu => by
    obtain ⟨p, y0, y1, rfl, hp, h0, h1⟩ := hx
    obtain ⟨q, z0, z1, rfl, hq, k0, k1⟩ := hy
    cases (show v = Value.ref p from rx); cases (show u = Value.ref q from ry)
    have c := cmp_lists (A := A) (bs := [EqA.eqd a.x1 b.x1, EqA.eqd a.x2 b.x2]) I hp hq (by omega) (fun us ws v1 v2 => match us, ws, v1, v2 with | _, _, .cons r0 (.cons r1 (.nil)), .cons t0 (.cons t1 (.nil)) => .cons (EqA.at_ I h0 k0 r0 t0 (by show A.units + 1 + _ < cLine; omega)) (.cons (EqA.at_ I h1 k1 r1 t1 (by show A.units + 1 + _ < cLine; omega)) (.nilL)))
    have e : ([EqA.eqd a.x1 b.x1, EqA.eqd a.x2 b.x2].all id && [y0, y1].length == [z0, z1].length) = (EqA.eqd a.x1 b.x1 && EqA.eqd a.x2 b.x2) := by simp [Bool.and_assoc]
    rw [e] at c
    exact c
  at_ := fun {X pins σ H s x y v u a b A} I hx hy rx ry hu => by
    obtain ⟨p, y0, y1, rfl, hp, h0, h1⟩ := hx
    obtain ⟨q, z0, z1, rfl, hq, k0, k1⟩ := hy
    cases (show v = Value.ref p from rx); cases (show u = Value.ref q from ry)
    have c := cmp_lists (A := A) (bs := [EqA.eqd a.x1 b.x1, EqA.eqd a.x2 b.x2]) I hp hq (by omega) (fun us ws v1 v2 => match us, ws, v1, v2 with | _, _, .cons r0 (.cons r1 (.nil)), .cons t0 (.cons t1 (.nil)) => .cons (EqA.at_ I h0 k0 r0 t0 (by show A.units + 1 + _ < cLine; omega)) (.cons (EqA.at_ I h1 k1 r1 t1 (by show A.units + 1 + _ < cLine; omega)) (.nilL)))
    have e : ([EqA.eqd a.x1 b.x1, EqA.eqd a.x2 b.x2].all id && [y0, y1].length == [z0, z1].length) = (EqA.eqd a.x1 b.x1 && EqA.eqd a.x2 b.x2) := by simp [Bool.and_assoc]
    rw [e] at c
    refine at_refs c fun e => ?_
    subst e
    rw [hp] at hq; cases hq
    rw [EqA.same h0 k0]; rw [EqA.same h1 k1]; rfl
  same := fun hx hy => by
    obtain ⟨p, y0, y1, rfl, hp, h0, h1⟩ := hx
    obtain ⟨q, z0, z1, e, hq, k0, k1⟩ := hy
    cases e
    rw [hp] at hq; cases hq
    rw [EqA.same h0 k0]; rw [EqA.same h1 k1]; rfl
instance {α β : Type} [Py α] [EqA α] [DecidableEq α] [EqL α] [Py β] [EqA β] [DecidableEq β] [EqL β] : EqL (HL2 α β) := ⟨fun a b => by
  show (EqA.eqd a.x1 b.x1 && EqA.eqd a.x2 b.x2) = _
  rw [EqL.lw, EqL.lw]
  obtain ⟨c0, c1⟩ := a; obtain ⟨d0, d1⟩ := b
  rw [Bool.eq_iff_iff]; simp [and_assoc]⟩
instance {α β γ : Type} [Py α] [EqA α] [Py β] [EqA β] [Py γ] [EqA γ] : EqA (HL3 α β γ) where
  eqd a b := EqA.eqd a.x1 b.x1 && EqA.eqd a.x2 b.x2 && EqA.eqd a.x3 b.x3
  dep := max (EqA.dep γ) (max (EqA.dep β) (max (EqA.dep α) (0))) + 1
  cmp := fun {X pins σ H s x y v u a b A} I hx hy rx ry hu => by
    obtain ⟨p, y0, y1, y2, rfl, hp, h0, h1, h2⟩ := hx
    obtain ⟨q, z0, z1, z2, rfl, hq, k0, k1, k2⟩ := hy
    cases (show v = Value.ref p from rx); cases (show u = Value.ref q from ry)
    have c := cmp_lists (A := A) (bs := [EqA.eqd a.x1 b.x1, EqA.eqd a.x2 b.x2, EqA.eqd a.x3 b.x3]) I hp hq (by omega) (fun us ws v1 v2 => match us, ws, v1, v2 with | _, _, .cons r0 (.cons r1 (.cons r2 (.nil))), .cons t0 (.cons t1 (.cons t2 (.nil))) => .cons (EqA.at_ I h0 k0 r0 t0 (by show A.units + 1 + _ < cLine; omega)) (.cons (EqA.at_ I h1 k1 r1 t1 (by show A.units + 1 + _ < cLine; omega)) (.cons (EqA.at_ I h2 k2 r2 t2 (by show A.units + 1 + _ < cLine; omega)) (.nilL))))
    have e : ([EqA.eqd a.x1 b.x1, EqA.eqd a.x2 b.x2, EqA.eqd a.x3 b.x3].all id && [y0, y1, y2].length == [z0, z1, z2].length) = (EqA.eqd a.x1 b.x1 && EqA.eqd a.x2 b.x2 && EqA.eqd a.x3 b.x3) := by simp [Bool.and_assoc]
    rw [e] at c
    exact c
  at_ := fun {X pins σ H s x y v u a b A} I hx hy rx ry hu => by
    obtain ⟨p, y0, y1, y2, rfl, hp, h0, h1, h2⟩ := hx
    obtain ⟨q, z0, z1, z2, rfl, hq, k0, k1, k2⟩ := hy
    cases (show v = Value.ref p from rx); cases (show u = Value.ref q from ry)
    have c := cmp_lists (A := A) (bs := [EqA.eqd a.x1 b.x1, EqA.eqd a.x2 b.x2, EqA.eqd a.x3 b.x3]) I hp hq (by omega) (fun us ws v1 v2 => match us, ws, v1, v2 with | _, _, .cons r0 (.cons r1 (.cons r2 (.nil))), .cons t0 (.cons t1 (.cons t2 (.nil))) => .cons (EqA.at_ I h0 k0 r0 t0 (by show A.units + 1 + _ < cLine; omega)) (.cons (EqA.at_ I h1 k1 r1 t1 (by show A.units + 1 + _ < cLine; omega)) (.cons (EqA.at_ I h2 k2 r2 t2 (by show A.units + 1 + _ < cLine; omega)) (.nilL))))
    have e : ([EqA.eqd a.x1 b.x1, EqA.eqd a.x2 b.x2, EqA.eqd a.x3 b.x3].all id && [y0, y1, y2].length == [z0, z1, z2].length) = (EqA.eqd a.x1 b.x1 && EqA.eqd a.x2 b.x2 && EqA.eqd a.x3 b.x3) := by simp [Bool.and_assoc]
    rw [e] at c
    refine at_refs c fun e => ?_
    subst e
    rw [hp] at hq; cases hq
    rw [EqA.same h0 k0]; rw [EqA.same h1 k1]; rw [EqA.same h2 k2]; rfl
  same := fun hx hy => by
    obtain ⟨p, y0, y1, y2, rfl, hp, h0, h1, h2⟩ := hx
    obtain ⟨q, z0, z1, z2, e, hq, k0, k1, k2⟩ := hy
    cases e
    rw [hp] at hq; cases hq
    rw [EqA.same h0 k0]; rw [EqA.same h1 k1]; rw [EqA.same h2 k2]; rfl
instance {α β γ : Type} [Py α] [EqA α] [DecidableEq α] [EqL α] [Py β] [EqA β] [DecidableEq β] [EqL β] [Py γ] [EqA γ] [DecidableEq γ] [EqL γ] : EqL (HL3 α β γ) := ⟨fun a b => by
  show (EqA.eqd a.x1 b.x1 && EqA.eqd a.x2 b.x2 && EqA.eqd a.x3 b.x3) = _
  rw [EqL.lw, EqL.lw, EqL.lw]
  obtain ⟨c0, c1, c2⟩ := a; obtain ⟨d0, d1, d2⟩ := b
  rw [Bool.eq_iff_iff]; simp [and_assoc]⟩
instance {α β γ δ : Type} [Py α] [EqA α] [Py β] [EqA β] [Py γ] [EqA γ] [Py δ] [EqA δ] : EqA (HL4 α β γ δ) where
  eqd a b := EqA.eqd a.x1 b.x1 && EqA.eqd a.x2 b.x2 && EqA.eqd a.x3 b.x3 && EqA.eqd a.x4 b.x4
  dep := max (EqA.dep δ) (max (EqA.dep γ) (max (EqA.dep β) (max (EqA.dep α) (0)))) + 1
  cmp := fun {X pins σ H s x y v u a b A} I hx hy rx ry hu => by
    obtain ⟨p, y0, y1, y2, y3, rfl, hp, h0, h1, h2, h3⟩ := hx
    obtain ⟨q, z0, z1, z2, z3, rfl, hq, k0, k1, k2, k3⟩ := hy
    cases (show v = Value.ref p from rx); cases (show u = Value.ref q from ry)
    have c := cmp_lists (A := A) (bs := [EqA.eqd a.x1 b.x1, EqA.eqd a.x2 b.x2, EqA.eqd a.x3 b.x3, EqA.eqd a.x4 b.x4]) I hp hq (by omega) (fun us ws v1 v2 => match us, ws, v1, v2 with | _, _, .cons r0 (.cons r1 (.cons r2 (.cons r3 (.nil)))), .cons t0 (.cons t1 (.cons t2 (.cons t3 (.nil)))) => .cons (EqA.at_ I h0 k0 r0 t0 (by show A.units + 1 + _ < cLine; omega)) (.cons (EqA.at_ I h1 k1 r1 t1 (by show A.units + 1 + _ < cLine; omega)) (.cons (EqA.at_ I h2 k2 r2 t2 (by show A.units + 1 + _ < cLine; omega)) (.cons (EqA.at_ I h3 k3 r3 t3 (by show A.units + 1 + _ < cLine; omega)) (.nilL)))))
    have e : ([EqA.eqd a.x1 b.x1, EqA.eqd a.x2 b.x2, EqA.eqd a.x3 b.x3, EqA.eqd a.x4 b.x4].all id && [y0, y1, y2, y3].length == [z0, z1, z2, z3].length) = (EqA.eqd a.x1 b.x1 && EqA.eqd a.x2 b.x2 && EqA.eqd a.x3 b.x3 && EqA.eqd a.x4 b.x4) := by simp [Bool.and_assoc]
    rw [e] at c
    exact c
  at_ := fun {X pins σ H s x y v u a b A} I hx hy rx ry hu => by
    obtain ⟨p, y0, y1, y2, y3, rfl, hp, h0, h1, h2, h3⟩ := hx
    obtain ⟨q, z0, z1, z2, z3, rfl, hq, k0, k1, k2, k3⟩ := hy
    cases (show v = Value.ref p from rx); cases (show u = Value.ref q from ry)
    have c := cmp_lists (A := A) (bs := [EqA.eqd a.x1 b.x1, EqA.eqd a.x2 b.x2, EqA.eqd a.x3 b.x3, EqA.eqd a.x4 b.x4]) I hp hq (by omega) (fun us ws v1 v2 => match us, ws, v1, v2 with | _, _, .cons r0 (.cons r1 (.cons r2 (.cons r3 (.nil)))), .cons t0 (.cons t1 (.cons t2 (.cons t3 (.nil)))) => .cons (EqA.at_ I h0 k0 r0 t0 (by show A.units + 1 + _ < cLine; omega)) (.cons (EqA.at_ I h1 k1 r1 t1 (by show A.units + 1 + _ < cLine; omega)) (.cons (EqA.at_ I h2 k2 r2 t2 (by show A.units + 1 + _ < cLine; omega)) (.cons (EqA.at_ I h3 k3 r3 t3 (by show A.units + 1 + _ < cLine; omega)) (.nilL)))))
    have e : ([EqA.eqd a.x1 b.x1, EqA.eqd a.x2 b.x2, EqA.eqd a.x3 b.x3, EqA.eqd a.x4 b.x4].all id && [y0, y1, y2, y3].length == [z0, z1, z2, z3].length) = (EqA.eqd a.x1 b.x1 && EqA.eqd a.x2 b.x2 && EqA.eqd a.x3 b.x3 && EqA.eqd a.x4 b.x4) := by simp [Bool.and_assoc]
    rw [e] at c
    refine at_refs c fun e => ?_
    subst e
    rw [hp] at hq; cases hq
    rw [EqA.same h0 k0]; rw [EqA.same h1 k1]; rw [EqA.same h2 k2]; rw [EqA.same h3 k3]; rfl
  same := fun hx hy => by
    obtain ⟨p, y0, y1, y2, y3, rfl, hp, h0, h1, h2, h3⟩ := hx
    obtain ⟨q, z0, z1, z2, z3, e, hq, k0, k1, k2, k3⟩ := hy
    cases e
    rw [hp] at hq; cases hq
    rw [EqA.same h0 k0]; rw [EqA.same h1 k1]; rw [EqA.same h2 k2]; rw [EqA.same h3 k3]; rfl
instance {α β γ δ : Type} [Py α] [EqA α] [DecidableEq α] [EqL α] [Py β] [EqA β] [DecidableEq β] [EqL β] [Py γ] [EqA γ] [DecidableEq γ] [EqL γ] [Py δ] [EqA δ] [DecidableEq δ] [EqL δ] : EqL (HL4 α β γ δ) := ⟨fun a b => by
  show (EqA.eqd a.x1 b.x1 && EqA.eqd a.x2 b.x2 && EqA.eqd a.x3 b.x3 && EqA.eqd a.x4 b.x4) = _
  rw [EqL.lw, EqL.lw, EqL.lw, EqL.lw]
  obtain ⟨c0, c1, c2, c3⟩ := a; obtain ⟨d0, d1, d2, d3⟩ := b
  rw [Bool.eq_iff_iff]; simp [and_assoc]⟩
instance {α β γ δ ε : Type} [Py α] [EqA α] [Py β] [EqA β] [Py γ] [EqA γ] [Py δ] [EqA δ] [Py ε] [EqA ε] : EqA (HL5 α β γ δ ε) where
  eqd a b := EqA.eqd a.x1 b.x1 && EqA.eqd a.x2 b.x2 && EqA.eqd a.x3 b.x3 && EqA.eqd a.x4 b.x4 && EqA.eqd a.x5 b.x5
  dep := max (EqA.dep ε) (max (EqA.dep δ) (max (EqA.dep γ) (max (EqA.dep β) (max (EqA.dep α) (0))))) + 1
  cmp := fun {X pins σ H s x y v u a b A} I hx hy rx ry hu => by
    obtain ⟨p, y0, y1, y2, y3, y4, rfl, hp, h0, h1, h2, h3, h4⟩ := hx
    obtain ⟨q, z0, z1, z2, z3, z4, rfl, hq, k0, k1, k2, k3, k4⟩ := hy
    cases (show v = Value.ref p from rx); cases (show u = Value.ref q from ry)
    have c := cmp_lists (A := A) (bs := [EqA.eqd a.x1 b.x1, EqA.eqd a.x2 b.x2, EqA.eqd a.x3 b.x3, EqA.eqd a.x4 b.x4, EqA.eqd a.x5 b.x5]) I hp hq (by omega) (fun us ws v1 v2 => match us, ws, v1, v2 with | _, _, .cons r0 (.cons r1 (.cons r2 (.cons r3 (.cons r4 (.nil))))), .cons t0 (.cons t1 (.cons t2 (.cons t3 (.cons t4 (.nil))))) => .cons (EqA.at_ I h0 k0 r0 t0 (by show A.units + 1 + _ < cLine; omega)) (.cons (EqA.at_ I h1 k1 r1 t1 (by show A.units + 1 + _ < cLine; omega)) (.cons (EqA.at_ I h2 k2 r2 t2 (by show A.units + 1 + _ < cLine; omega)) (.cons (EqA.at_ I h3 k3 r3 t3 (by show A.units + 1 + _ < cLine; omega)) (.cons (EqA.at_ I h4 k4 r4 t4 (by show A.units + 1 + _ < cLine; omega)) (.nilL))))))
    have e : ([EqA.eqd a.x1 b.x1, EqA.eqd a.x2 b.x2, EqA.eqd a.x3 b.x3, EqA.eqd a.x4 b.x4, EqA.eqd a.x5 b.x5].all id && [y0, y1, y2, y3, y4].length == [z0, z1, z2, z3, z4].length) = (EqA.eqd a.x1 b.x1 && EqA.eqd a.x2 b.x2 && EqA.eqd a.x3 b.x3 && EqA.eqd a.x4 b.x4 && EqA.eqd a.x5 b.x5) := by simp [Bool.and_assoc]
    rw [e] at c
    exact c
  at_ := fun {X pins σ H s x y v u a b A} I hx hy rx ry hu => by
    obtain ⟨p, y0, y1, y2, y3, y4, rfl, hp, h0, h1, h2, h3, h4⟩ := hx
    obtain ⟨q, z0, z1, z2, z3, z4, rfl, hq, k0, k1, k2, k3, k4⟩ := hy
    cases (show v = Value.ref p from rx); cases (show u = Value.ref q from ry)
    have c := cmp_lists (A := A) (bs := [EqA.eqd a.x1 b.x1, EqA.eqd a.x2 b.x2, EqA.eqd a.x3 b.x3, EqA.eqd a.x4 b.x4, EqA.eqd a.x5 b.x5]) I hp hq (by omega) (fun us ws v1 v2 => match us, ws, v1, v2 with | _, _, .cons r0 (.cons r1 (.cons r2 (.cons r3 (.cons r4 (.nil))))), .cons t0 (.cons t1 (.cons t2 (.cons t3 (.cons t4 (.nil))))) => .cons (EqA.at_ I h0 k0 r0 t0 (by show A.units + 1 + _ < cLine; omega)) (.cons (EqA.at_ I h1 k1 r1 t1 (by show A.units + 1 + _ < cLine; omega)) (.cons (EqA.at_ I h2 k2 r2 t2 (by show A.units + 1 + _ < cLine; omega)) (.cons (EqA.at_ I h3 k3 r3 t3 (by show A.units + 1 + _ < cLine; omega)) (.cons (EqA.at_ I h4 k4 r4 t4 (by show A.units + 1 + _ < cLine; omega)) (.nilL))))))
    have e : ([EqA.eqd a.x1 b.x1, EqA.eqd a.x2 b.x2, EqA.eqd a.x3 b.x3, EqA.eqd a.x4 b.x4, EqA.eqd a.x5 b.x5].all id && [y0, y1, y2, y3, y4].length == [z0, z1, z2, z3, z4].length) = (EqA.eqd a.x1 b.x1 && EqA.eqd a.x2 b.x2 && EqA.eqd a.x3 b.x3 && EqA.eqd a.x4 b.x4 && EqA.eqd a.x5 b.x5) := by simp [Bool.and_assoc]
    rw [e] at c
    refine at_refs c fun e => ?_
    subst e
    rw [hp] at hq; cases hq
    rw [EqA.same h0 k0]; rw [EqA.same h1 k1]; rw [EqA.same h2 k2]; rw [EqA.same h3 k3]; rw [EqA.same h4 k4]; rfl
  same := fun hx hy => by
    obtain ⟨p, y0, y1, y2, y3, y4, rfl, hp, h0, h1, h2, h3, h4⟩ := hx
    obtain ⟨q, z0, z1, z2, z3, z4, e, hq, k0, k1, k2, k3, k4⟩ := hy
    cases e
    rw [hp] at hq; cases hq
    rw [EqA.same h0 k0]; rw [EqA.same h1 k1]; rw [EqA.same h2 k2]; rw [EqA.same h3 k3]; rw [EqA.same h4 k4]; rfl
instance {α β γ δ ε : Type} [Py α] [EqA α] [DecidableEq α] [EqL α] [Py β] [EqA β] [DecidableEq β] [EqL β] [Py γ] [EqA γ] [DecidableEq γ] [EqL γ] [Py δ] [EqA δ] [DecidableEq δ] [EqL δ] [Py ε] [EqA ε] [DecidableEq ε] [EqL ε] : EqL (HL5 α β γ δ ε) := ⟨fun a b => by
  show (EqA.eqd a.x1 b.x1 && EqA.eqd a.x2 b.x2 && EqA.eqd a.x3 b.x3 && EqA.eqd a.x4 b.x4 && EqA.eqd a.x5 b.x5) = _
  rw [EqL.lw, EqL.lw, EqL.lw, EqL.lw, EqL.lw]
  obtain ⟨c0, c1, c2, c3, c4⟩ := a; obtain ⟨d0, d1, d2, d3, d4⟩ := b
  rw [Bool.eq_iff_iff]; simp [and_assoc]⟩
/-! None beside other data -/
class NnA (α : Type) [Py α] where
  nn : ∀ {X : Cx} {pins : List (Addr × Obj)} {σ : L2.St} {H : Hp} {s : Shared} {x : V} {v : Value} {a : α} {A : Around}, Inv X pins σ H s → Py.R X.K H x a → RelV x v → A.units < cLine → (Cmp A s .none v false ∧ Cmp A s v .none false) ∧ EqAt A s .none v false ∧ EqAt A s v .none false
  ne : ∀ {K : Fr} {H : Hp} {a : α}, ¬ Py.R K H .non a
instance : NnA Int := ⟨fun {X pins σ H s x v a A} _ hx rx _ => by
  cases (show x = V.int a from hx); obtain ⟨t, rfl⟩ := rx
  exact ⟨⟨⟨SeqAt.RcAt.none_int a t, SeqAt.RcNeAt.none_int a t⟩, SeqAt.RcAt.int_none a t, SeqAt.RcNeAt.int_none a t⟩, SeqAt.EqAt.none_int a t, SeqAt.EqAt.int_none a t⟩, fun h => nomatch h⟩
instance : NnA Str := ⟨fun {X pins σ H s x v a A} _ hx rx _ => by
  cases (show x = V.str a from hx); obtain ⟨t, rfl⟩ := rx
  exact ⟨⟨⟨SeqAt.RcAt.none_str a t, SeqAt.RcNeAt.none_str a t⟩, SeqAt.RcAt.str_none a t, SeqAt.RcNeAt.str_none a t⟩, SeqAt.EqAt.none_str a t, SeqAt.EqAt.str_none a t⟩, fun h => nomatch h⟩
instance : NnA Bool := ⟨fun {X pins σ H s x v a A} _ hx rx _ => by
  cases (show x = V.bl a from hx); cases (show v = Value.bool a from rx)
  exact ⟨⟨⟨SeqAt.RcAt.none_bool a, SeqAt.RcNeAt.none_bool a⟩, SeqAt.RcAt.bool_none a, SeqAt.RcNeAt.bool_none a⟩, SeqAt.EqAt.none_bool a, SeqAt.EqAt.bool_none a⟩, fun h => nomatch h⟩
theorem nn_list {X : Cx} {pins : List (Addr × Obj)} {σ : L2.St} {H : Hp} {s : Shared} {p : Addr} {xs : List V} {A : Around} (I : Inv X pins σ H s) (hp : H p = some (.lst xs)) (hu : A.units < cLine) : (Cmp A s .none (.ref p) false ∧ Cmp A s (.ref p) .none false) ∧ EqAt A s .none (.ref p) false ∧ EqAt A s (.ref p) .none false := by
  obtain ⟨us, _, p1, _⟩ := I.list (SqL.of hp)
  exact ⟨⟨⟨SeqAt.RcAt.none_list p1.isList hu, SeqAt.RcNeAt.none_list p1.isList hu⟩, SeqAt.RcAt.list_none p1.isList hu, SeqAt.RcNeAt.list_none p1.isList hu⟩, SeqAt.EqAt.none_list p1.isList hu, SeqAt.EqAt.list_none p1.isList hu⟩
theorem nn_tuple {X : Cx} {pins : List (Addr × Obj)} {σ : L2.St} {H : Hp} {s : Shared} {p : Addr} {xs : List V} {A : Around} (I : Inv X pins σ H s) (hp : H p = some (.tup xs)) (hu : A.units < cLine) : (Cmp A s .none (.ref p) false ∧ Cmp A s (.ref p) .none false) ∧ EqAt A s .none (.ref p) false ∧ EqAt A s (.ref p) .none false := by
  obtain ⟨us, _, p1, _⟩ := I.tuple (SqT.of hp)
  exact ⟨⟨⟨SeqAt.RcAt.none_tuple p1 hu, SeqAt.RcNeAt.none_tuple p1 hu⟩, SeqAt.RcAt.tuple_none p1 hu, SeqAt.RcNeAt.tuple_none p1 hu⟩, SeqAt.EqAt.none_tuple p1 hu, SeqAt.EqAt.tuple_none p1 hu⟩
section
variable {α β γ δ ε : Type} [Py α] [Py β] [Py γ] [Py δ] [Py ε]
instance : NnA (List α) := ⟨fun I hx rx hu => by
  obtain ⟨p, xs, rfl, hp, _⟩ := hx; cases rx
  exact nn_list I hp hu, fun ⟨_, _, e, _⟩ => nomatch e⟩
instance : NnA (HL2 α β) := ⟨fun I hx rx hu => by
  obtain ⟨p, _, _, rfl, hp, _⟩ := hx; cases rx
  exact nn_list I hp hu, fun ⟨_, _, _, e, _⟩ => nomatch e⟩
instance : NnA (TL α) := ⟨fun I hx rx hu => by
  obtain ⟨p, xs, rfl, hp, _⟩ := hx; cases rx
  exact nn_tuple I hp hu, fun ⟨_, _, e, _⟩ => nomatch e⟩
instance : NnA (α × β) := ⟨fun I hx rx hu => by
  obtain ⟨p, _, _, rfl, hp, _⟩ := hx; cases rx
  exact nn_tuple I hp hu, fun ⟨_, _, _, e, _⟩ => nomatch e⟩
instance : NnA (T3 α β γ) := ⟨fun I hx rx hu => by
  obtain ⟨p, _, _, _, rfl, hp, _⟩ := hx; cases rx
  exact nn_tuple I hp hu, fun ⟨_, _, _, _, e, _⟩ => nomatch e⟩
instance : NnA (T4 α β γ δ) := ⟨fun I hx rx hu => by
  obtain ⟨p, _, _, _, _, rfl, hp, _⟩ := hx; cases rx
  exact nn_tuple I hp hu, fun ⟨_, _, _, _, _, e, _⟩ => nomatch e⟩
instance : NnA (TO α β γ) := ⟨fun {X pins σ H s x v a A} I hx rx hu => by
  obtain ⟨x1, x2, x3⟩ := a
  obtain ⟨p, _, _, rfl, _, _, h3⟩ := hx; cases rx
  cases x3 with
  | none => exact nn_tuple I h3 hu
  | some c => obtain ⟨_, hz, _⟩ := h3; exact nn_tuple I hz hu, fun {K H a} h => by obtain ⟨_, _, _, e, _⟩ := h; cases e⟩
end
instance {α : Type} [Py α] [EqA α] [NnA α] : EqA (Option α) where
  eqd a b := match a, b with
    | none, none => true
    | some a, some b => EqA.eqd a b
    | _, _ => false
  dep := EqA.dep α
  cmp := fun {X pins σ H s x y v u a b A} I hx hy rx ry hu => by
    cases a with
    | none =>
      cases (show x = V.non from hx); cases (show v = Value.none from rx)
      cases b with
      | none => cases (show y = V.non from hy); cases (show u = Value.none from ry); exact ⟨SeqAt.RcAt.none_none, SeqAt.RcNeAt.none_none⟩
      | some b => exact (NnA.nn (α := α) (a := b) I hy ry (by omega)).1.1
    | some a =>
      cases b with
      | none => cases (show y = V.non from hy); cases (show u = Value.none from ry); exact (NnA.nn (α := α) (a := a) I hx rx (by omega)).1.2
      | some b => exact EqA.cmp (α := α) I hx hy rx ry hu
  at_ := fun {X pins σ H s x y v u a b A} I hx hy rx ry hu => by
    cases a with
    | none =>
      cases (show x = V.non from hx); cases (show v = Value.none from rx)
      cases b with
      | none => cases (show y = V.non from hy); cases (show u = Value.none from ry); exact SeqAt.EqAt.same _
      | some b => exact (NnA.nn (α := α) (a := b) I hy ry (by omega)).2.1
    | some a =>
      cases b with
      | none => cases (show y = V.non from hy); cases (show u = Value.none from ry); exact (NnA.nn (α := α) (a := a) I hx rx (by omega)).2.2
      | some b => exact EqA.at_ (α := α) I hx hy rx ry hu
  same := fun {K H x a b} hx hy => by
    cases a with
    | none =>
      cases (show x = V.non from hx)
      cases b with
      | none => rfl
      | some b => exact (NnA.ne (α := α) hy).elim
    | some a =>
      cases b with
      | none => cases (show x = V.non from hy); exact (NnA.ne (α := α) hx).elim
      | some b => exact EqA.same (α := α) hx hy
instance {α : Type} [Py α] [EqA α] [NnA α] [DecidableEq α] [EqL α] : EqL (Option α) := ⟨fun a b => by
  cases a <;> cases b <;> first | rfl | simp [EqA.eqd] | skip
  rename_i a b
  exact (EqL.lw a b).trans (by simp)⟩
instance {α β γ : Type} [Py α] [EqA α] [Py β] [EqA β] [Py γ] [EqA γ] : EqA (TO α β γ) where
  eqd a b := EqA.eqd a.x1 b.x1 && (EqA.eqd a.x2 b.x2 && match a.x3, b.x3 with
    | none, none => true
    | some c, some d => EqA.eqd c d
    | _, _ => false)
  dep := max (EqA.dep α) (max (EqA.dep β) (EqA.dep γ)) + 1
  cmp := fun {X pins σ H s x y v u a b A} I hx hy rx ry hu => by
    obtain ⟨a1, a2, a3⟩ := a; obtain ⟨b1, b2, b3⟩ := b
    obtain ⟨p, y0, y1, rfl, h0, h1, h2⟩ := hx
    obtain ⟨q, z0, z1, rfl, k0, k1, k2⟩ := hy
    cases (show v = Value.ref p from rx); cases (show u = Value.ref q from ry)
    have u1 : A.in1.units + EqA.dep α < cLine := by show A.units + 1 + _ < cLine; omega
    have u2 : A.in1.units + EqA.dep β < cLine := by show A.units + 1 + _ < cLine; omega
    have u3 : A.in1.units + EqA.dep γ < cLine := by show A.units + 1 + _ < cLine; omega
    cases a3 with
    | none =>
      cases b3 with
      | none =>
        have c := cmp_tuples (A := A) (bs := [EqA.eqd a1 b1, EqA.eqd a2 b2]) I h2 k2 (by omega) (fun us ws v1 v2 => match us, ws, v1, v2 with | _, _, .cons r0 (.cons r1 .nil), .cons t0 (.cons t1 .nil) => .cons (EqA.at_ I h0 k0 r0 t0 u1) (.cons (EqA.at_ I h1 k1 r1 t1 u2) .nilL))
        simpa using c
      | some d =>
        obtain ⟨z2, k2, k3⟩ := k2
        have c := cmp_tuples (A := A) (bs := [EqA.eqd a1 b1, EqA.eqd a2 b2]) I h2 k2 (by omega) (fun us ws v1 v2 => match us, ws, v1, v2 with | _, _, .cons r0 (.cons r1 .nil), .cons t0 (.cons t1 _) => .cons (EqA.at_ I h0 k0 r0 t0 u1) (.cons (EqA.at_ I h1 k1 r1 t1 u2) .nilL))
        simpa using c
    | some c =>
      obtain ⟨y2, h2, h3⟩ := h2
      cases b3 with
      | none =>
        have c := cmp_tuples (A := A) (bs := [EqA.eqd a1 b1, EqA.eqd a2 b2]) I h2 k2 (by omega) (fun us ws v1 v2 => match us, ws, v1, v2 with | _, _, .cons r0 (.cons r1 _), .cons t0 (.cons t1 .nil) => .cons (EqA.at_ I h0 k0 r0 t0 u1) (.cons (EqA.at_ I h1 k1 r1 t1 u2) .nilR))
        simpa using c
      | some d =>
        obtain ⟨z2, k2, k3⟩ := k2
        have cc := cmp_tuples (A := A) (bs := [EqA.eqd a1 b1, EqA.eqd a2 b2, EqA.eqd c d]) I h2 k2 (by omega) (fun us ws v1 v2 => match us, ws, v1, v2 with | _, _, .cons r0 (.cons r1 (.cons r2 .nil)), .cons t0 (.cons t1 (.cons t2 .nil)) => .cons (EqA.at_ I h0 k0 r0 t0 u1) (.cons (EqA.at_ I h1 k1 r1 t1 u2) (.cons (EqA.at_ I h3 k3 r2 t2 u3) .nilL)))
        simpa using cc
  at_ := fun {X pins σ H s x y v u a b A} I hx hy rx ry hu => by
    obtain ⟨a1, a2, a3⟩ := a; obtain ⟨b1, b2, b3⟩ := b
    obtain ⟨p, y0, y1, rfl, h0, h1, h2⟩ := hx
    obtain ⟨q, z0, z1, rfl, k0, k1, k2⟩ := hy
    cases (show v = Value.ref p from rx); cases (show u = Value.ref q from ry)
    have u1 : A.in1.units + EqA.dep α < cLine := by show A.units + 1 + _ < cLine; omega
    have u2 : A.in1.units + EqA.dep β < cLine := by show A.units + 1 + _ < cLine; omega
    have u3 : A.in1.units + EqA.dep γ < cLine := by show A.units + 1 + _ < cLine; omega
    cases a3 with
    | none =>
      cases b3 with
      | none =>
        have c := cmp_tuples (A := A) (bs := [EqA.eqd a1 b1, EqA.eqd a2 b2]) I h2 k2 (by omega) (fun us ws v1 v2 => match us, ws, v1, v2 with | _, _, .cons r0 (.cons r1 .nil), .cons t0 (.cons t1 .nil) => .cons (EqA.at_ I h0 k0 r0 t0 u1) (.cons (EqA.at_ I h1 k1 r1 t1 u2) .nilL))
        refine at_refs (by simpa using c) fun e => ?_
        subst e; rw [h2] at k2; cases k2
        rw [EqA.same h0 k0, EqA.same h1 k1]; rfl
      | some d =>
        obtain ⟨z2, k2, k3⟩ := k2
        have c := cmp_tuples (A := A) (bs := [EqA.eqd a1 b1, EqA.eqd a2 b2]) I h2 k2 (by omega) (fun us ws v1 v2 => match us, ws, v1, v2 with | _, _, .cons r0 (.cons r1 .nil), .cons t0 (.cons t1 _) => .cons (EqA.at_ I h0 k0 r0 t0 u1) (.cons (EqA.at_ I h1 k1 r1 t1 u2) .nilL))
        refine at_refs (by simpa using c) fun e => ?_
        subst e; rw [h2] at k2; cases k2
    | some c =>
      obtain ⟨y2, h2, h3⟩ := h2
      cases b3 with
      | none =>
        have c := cmp_tuples (A := A) (bs := [EqA.eqd a1 b1, EqA.eqd a2 b2]) I h2 k2 (by omega) (fun us ws v1 v2 => match us, ws, v1, v2 with | _, _, .cons r0 (.cons r1 _), .cons t0 (.cons t1 .nil) => .cons (EqA.at_ I h0 k0 r0 t0 u1) (.cons (EqA.at_ I h1 k1 r1 t1 u2) .nilR))
        refine at_refs (by simpa using c) fun e => ?_
        subst e; rw [h2] at k2; cases k2
      | some d =>
        obtain ⟨z2, k2, k3⟩ := k2
        have cc := cmp_tuples (A := A) (bs := [EqA.eqd a1 b1, EqA.eqd a2 b2, EqA.eqd c d]) I h2 k2 (by omega) (fun us ws v1 v2 => match us, ws, v1, v2 with | _, _, .cons r0 (.cons r1 (.cons r2 .nil)), .cons t0 (.cons t1 (.cons t2 .nil)) => .cons (EqA.at_ I h0 k0 r0 t0 u1) (.cons (EqA.at_ I h1 k1 r1 t1 u2) (.cons (EqA.at_ I h3 k3 r2 t2 u3) .nilL)))
        refine at_refs (by simpa using cc) fun e => ?_
        subst e; rw [h2] at k2; cases k2
        show (EqA.eqd a1 b1 && (EqA.eqd a2 b2 && EqA.eqd c d)) = true
        rw [EqA.same h0 k0, EqA.same h1 k1, EqA.same h3 k3]; rfl
  same := fun {K H x a b} hx hy => by
    obtain ⟨a1, a2, a3⟩ := a; obtain ⟨b1, b2, b3⟩ := b
    obtain ⟨p, y0, y1, rfl, h0, h1, h2⟩ := hx
    obtain ⟨q, z0, z1, e, k0, k1, k2⟩ := hy
    cases e
    cases a3 with
    | none =>
      cases b3 with
      | none => rw [h2] at k2; cases k2; dsimp only; rw [EqA.same h0 k0, EqA.same h1 k1]; rfl
      | some d => obtain ⟨z2, k2, k3⟩ := k2; rw [h2] at k2; cases k2
    | some c =>
      obtain ⟨y2, h2, h3⟩ := h2
      cases b3 with
      | none => rw [h2] at k2; cases k2
      | some d => obtain ⟨z2, k2, k3⟩ := k2; rw [h2] at k2; cases k2; show (EqA.eqd a1 b1 && (EqA.eqd a2 b2 && EqA.eqd c d)) = true; rw [EqA.same h0 k0, EqA.same h1 k1, EqA.same h3 k3]; rfl
instance {α β γ : Type} [Py α] [EqA α] [DecidableEq α] [EqL α] [Py β] [EqA β] [DecidableEq β] [EqL β] [Py γ] [EqA γ] [DecidableEq γ] [EqL γ] : EqL (TO α β γ) := ⟨fun a b => by
  obtain ⟨a1, a2, a3⟩ := a; obtain ⟨b1, b2, b3⟩ := b
  show (EqA.eqd a1 b1 && (EqA.eqd a2 b2 && _)) = _
  rw [EqL.lw, EqL.lw]
  cases a3 <;> cases b3 <;> (try dsimp only) <;> (try rw [EqL.lw]) <;> rw [Bool.eq_iff_iff] <;> simp⟩
/-! ### the comparison itself; dicts -/
class EqC (α : Type) [Py α] where
  eqc : α → α → Bool
  dpc : Nat
  cmp : ∀ {X : Cx} {pins : List (Addr × Obj)} {σ : L2.St} {H : Hp} {s : Shared} {x y : V} {v u : Value} {a b : α} {A : Around}, Inv X pins σ H s → Py.R X.K H x a → Py.R X.K H y b → RelV x v → RelV y u → A.units + dpc < cLine →
    (∀ (E Q : Value → Shared → Prop), Q (.bool (eqc a b)) s → wpAny (model X.prog X.w) A (compareOp .Eq v u) Q E s) ∧ ∀ (E Q : Value → Shared → Prop), Q (.bool (!eqc a b)) s → wpAny (model X.prog X.w) A (compareOp .NotEq v u) Q E s
instance {α : Type} [Py α] [EqA α] : EqC α where
  eqc := EqA.eqd
  dpc := EqA.dep α
  cmp := fun I hx hy rx ry hu => let c := EqA.cmp I hx hy rx ry hu; ⟨fun E Q q => c.1 _ _ E Q q, fun E Q q => c.2 _ _ E Q q⟩
section
variable {κ α : Type} [Sc κ] [DecidableEq κ] [Kt κ] [Py α] [EqA α]
def eqDs (m n : Dct κ α) : Bool := m.kv.length == n.kv.length && m.kv.all fun p => match dGet n.kv p.1 with
  | none => false
  | some b => EqA.eqd p.2 b
theorem hitsD {X : Cx} {pins : List (Addr × Obj)} {σ : L2.St} {H : Hp} {s : Shared} {A : Around} (I : Inv X pins σ H s) (hu : A.units + EqA.dep α < cLine) {n : List (κ × α)} {kb : List (Key × V)} {vb : List (Key × Value)} (pb : Paired (EntK X.K H) kb n) (rb : KV kb vb) :
    ∀ {m : List (κ × α)} {ka : List (Key × V)} {va : List (Key × Value)}, Paired (EntK X.K H) ka m → KV ka va → PySem.W.KeqHits A s vb va (m.all fun p => match dGet n p.1 with | none => false | some b => EqA.eqd p.2 b)
  | _, _, _, .nil, .nil => .nil
  | _, _, (key, v) :: r, .cons (b := q) e t, .cons h t2 => by
    have e1 : Kt.key q.1 = key := e.1.symm.trans h.1
    rw [List.all_cons]
    have rr := rb.val key
    rw [← e1] at rr ⊢
    rcases ent_get q.1 pb with ⟨h1, h2⟩ | ⟨w, a, h1, h2, h3⟩
    · rw [h2]
      dsimp only
      rw [Bool.false_and]
      rw [h1] at rr
      refine .miss ?_
      cases hv : valueAt vb (Kt.key q.1) with
      | none => rfl
      | some y => rw [hv] at rr; exact rr.elim
    · rw [h2]
      dsimp only
      rw [h1] at rr
      obtain ⟨y, hy, ry⟩ := rr.some_of
      exact .hit hy (EqA.at_ I e.2 h3 h.2 ry hu) (hitsD I hu pb rb t t2)
instance : EqC (Dct κ α) where
  eqc := eqDs
  dpc := EqA.dep α + 1
  cmp := fun {X pins σ H s x y v u a b A} I hx hy rx ry hu => by
    obtain ⟨p, ka, rfl, hp, h1⟩ := hx
    obtain ⟨q, kb, rfl, hq, h2⟩ := hy
    cases (show v = Value.ref p from rx); cases (show u = Value.ref q from ry)
    obtain ⟨_, ya, va, ra, da⟩ := (show ObjOk X.prog X.w H s.heap p (.dK ka) from I.hok p _ hp)
    obtain ⟨_, yb, vb, rb, db⟩ := (show ObjOk X.prog X.w H s.heap q (.dK kb) from I.hok q _ hq)
    have hits := hitsD (A := A.in1) I (by show A.units + 1 + _ < cLine; omega) h2 rb h1 ra
    have la : va.length = a.kv.length := by rw [← ra.length]; exact h1.pLen
    have lb : vb.length = b.kv.length := by rw [← rb.length]; exact h2.pLen
    refine ⟨fun E Q hQ => PySem.W.keq_eq (knd := mixKind X.prog X.w) ya yb da db (by omega) (fun _ => hits) ?_, fun E Q hQ => PySem.W.keq_ne (knd := mixKind X.prog X.w) ya yb da db (by omega) (fun _ => hits) ?_⟩
    · rw [la, lb]; exact hQ
    · rw [la, lb]; exact hQ
end
def rEqC (K : Fr) : R2 := fun x y H Q => ∃ (b : Bool) (n : Nat), n ≤ 64 ∧ (∀ {X : Cx} {pins : List (Addr × Obj)} {σ : L2.St} {s : Shared} {v u : Value}, X.K = K → Inv X pins σ H s → RelV x v → RelV y u → X.A.units + n < cLine →
  ∀ (E Q : Value → Shared → Prop), Q (.bool b) s → wpAny (model X.prog X.w) X.A (compareOp .Eq v u) Q E s) ∧ Q (.bl b) H
def rNeC (K : Fr) : R2 := fun x y H Q => ∃ (b : Bool) (n : Nat), n ≤ 64 ∧ (∀ {X : Cx} {pins : List (Addr × Obj)} {σ : L2.St} {s : Shared} {v u : Value}, X.K = K → Inv X pins σ H s → RelV x v → RelV y u → X.A.units + n < cLine →
  ∀ (E Q : Value → Shared → Prop), Q (.bool b) s → wpAny (model X.prog X.w) X.A (compareOp .NotEq v u) Q E s) ∧ Q (.bl b) H
theorem op_eqC {X : Cx} (hu : X.A.units + 64 < cLine) : OpR X (compareOp .Eq) (rEqC X.K) := by
  intro pins s σ H x y v u Q I rx ry h
  obtain ⟨b, n, hn, h, q⟩ := h
  exact h rfl I rx ry (by omega) _ _ ⟨.bl b, H, I, rfl, q⟩
theorem op_neC {X : Cx} (hu : X.A.units + 64 < cLine) : OpR X (compareOp .NotEq) (rNeC X.K) := by
  intro pins s σ H x y v u Q I rx ry h
  obtain ⟨b, n, hn, h, q⟩ := h
  exact h rfl I rx ry (by omega) _ _ ⟨.bl b, H, I, rfl, q⟩
/-- what a value tells now -/
structure Rn {α : Type} [Py α] (K : Fr) (H : Hp) (v : V) (a : α) : Prop where
  r : Py.R K H v a
section
variable {K : Fr} {Z H Z0 H0 : Hp} {Q : VK} {α : Type} [Py α]
theorem Rn.tel {v : V} {a : α} (zh : Same Z H) (h : Py.R K Z v a) : Rn K H v a := ⟨Py.mono zh h⟩
theorem Rn.own {S : Sh α} [Dat S] {v : V} {ps : List Addr} {a : α} (zh : Same Z H) (o : OwnO S K H0 Z H v ps a) : Rn K H v a := ⟨Py.mono (o.seez zh) o.see⟩
theorem Rn.ownG {S : Sh α} [Dat S] {v : V} {a : α} {G : List Rt} (h : Sep K Z0 H0 Z H G) (i : Nat) (e : G[i]? = some ⟨S, v, a⟩) : Rn K H v a := let ⟨_, o⟩ := h.nth i e; Rn.own h.zh o
theorem Rn.sc {α : Type} [Sc α] {a : α} : Rn K H (Sc.emb a) a := ⟨rfl⟩
theorem Rn.some {v : V} {a : α} (h : Rn K H v a) : Rn K H v (some a) := ⟨h.r⟩
theorem Rn.none : Rn K H .non (none : Option α) := ⟨rfl⟩
theorem k_eqC [EqC α] {x y : V} {a b : α} (hx : Rn K H x a) (hy : Rn K H y b) (hd : EqC.dpc α ≤ 64) (k : Q (.bl (EqC.eqc a b)) H) : rEqC K x y H Q :=
  ⟨_, _, hd, fun e I rx ry hu E Q' q => (EqC.cmp (A := _) I (by rw [e]; exact hx.r) (by rw [e]; exact hy.r) rx ry hu).1 E Q' q, k⟩
theorem k_neC [EqC α] {x y : V} {a b : α} (hx : Rn K H x a) (hy : Rn K H y b) (hd : EqC.dpc α ≤ 64) (k : Q (.bl (!EqC.eqc a b)) H) : rNeC K x y H Q :=
  ⟨_, _, hd, fun e I rx ry hu E Q' q => (EqC.cmp (A := _) I (by rw [e]; exact hx.r) (by rw [e]; exact hy.r) rx ry hu).2 E Q' q, k⟩
theorem k_eqL [EqA α] [DecidableEq α] [EqL α] {x y : V} {a b : α} (hx : Rn K H x a) (hy : Rn K H y b) (hd : EqA.dep α ≤ 64) (k : Q (.bl (decide (a = b))) H) : rEqC K x y H Q := k_eqC hx hy hd (by rw [show EqC.eqc a b = decide (a = b) from EqL.lw a b]; exact k)
theorem k_neL [EqA α] [DecidableEq α] [EqL α] {x y : V} {a b : α} (hx : Rn K H x a) (hy : Rn K H y b) (hd : EqA.dep α ≤ 64) (k : Q (.bl (!decide (a = b))) H) : rNeC K x y H Q := k_neC hx hy hd (by rw [show EqC.eqc a b = decide (a = b) from EqL.lw a b]; exact k)
end
end Cd

set_option Elab.async false
set_option linter.all false
set_option maxRecDepth 100000
set_option maxHeartbeats 4000000
namespace Cd
open PySem L2 PyProof.Rows
/-! ### a dict that is locked while it is walked -/
class AllND (G : List Rt) : Prop where
  nd : ∀ r ∈ G, NDS r.S
instance : AllND [] := ⟨fun _ h => nomatch h⟩
instance {α : Type} {S : Sh α} [h : NDS S] {v : V} {a : α} {G : List Rt} [t : AllND G] : AllND (⟨S, v, a⟩ :: G) := ⟨fun r hr => (List.mem_cons.mp hr).elim (fun e => e ▸ h) (t.nd r)⟩
section
variable {K : Fr} {Z0 H0 Z H Z' H' : Hp} {G : List Rt} {d : Addr} {kvs : List (Key × V)} {od : Obj}
theorem Sep.lock (h : Sep K Z0 H0 Z H G) [AllND G] (hd : Z d = some (.dK kvs)) (od : Obj) : Sep K (delL Z0 [d]) (delL H0 [d]) (upd Z d (.frz od (.dK kvs))) (upd H d (.frz od (.dK kvs))) G := by
  obtain ⟨c, f, h1, h2⟩ := h
  exact ⟨c.lock hd od, f, fun i r e => by
    haveI := AllND.nd r (List.mem_of_getElem? e)
    exact (h1 i r e).lock hd, h2⟩
theorem Sep.unlock (h : Sep K (delL Z0 [d]) (delL H0 [d]) Z' H' G) [AllND G] (c : Step Z0 H0 Z H) (hd : Z d = some (.dK kvs)) (hf : Z' d = some (.frz od (.dK kvs))) : Sep K Z0 H0 (upd Z' d (.dK kvs)) (upd H' d (.dK kvs)) G := by
  obtain ⟨c2, f, h1, h2⟩ := h
  exact ⟨Step.unlock c hd c2, f, fun i r e => by
    haveI := AllND.nd r (List.mem_of_getElem? e)
    exact (h1 i r e).unlock hf, h2⟩
end
/-- lent while a scalar is reckoned -/
structure BorS (Z H Zb : Hp) (ps : List Addr) : Prop where
  zz : Same Z Zb
  nz : ∀ q ∈ ps, Z q = none
  zb : ∀ q, q ∉ ps → Zb q = Z q
theorem Sep.bor0S {K : Fr} {Z0 H0 Z H : Hp} {G : List Rt} (h : Sep K Z0 H0 Z H G) : BorS Z H Z [] := ⟨Same.refl _, (fun _ h => nomatch h), fun _ _ => rfl⟩
theorem Sep.borS {K : Fr} {Z0 H0 Z H Zb : Hp} {G : List Rt} {ps : List Addr} {α : Type} [Py α] {S : Sh α} [Dat S] {v : V} {a : α} (h : Sep K Z0 H0 Zb H G) (b : BorS Z H Zb ps) (i : Nat) (e : G[i]? = some ⟨S, v, a⟩) : ∃ Zc qs, BorS Z H Zc qs ∧ Sep K Z0 H0 Zc H (G.set i ⟨Sh.told, v, a⟩) := by
  have c := h.st
  obtain ⟨qs, o, g⟩ := h.chg i e
  obtain ⟨Zc, c', s, r, hz⟩ := o.tell c
  refine ⟨Zc, qs ++ ps, ⟨b.zz.trans s, fun q hq => ?_, fun q hq => ?_⟩, g c' s (fun q u hq hu => ⟨hu, hz q hq⟩) (OwnO.ofR r) fun _ h => nomatch h⟩
  · rcases List.mem_append.mp hq with hq | hq
    · exact b.zz.free (o.nz q hq)
    · exact b.nz q hq
  · rw [List.mem_append, not_or] at hq
    rw [hz q hq.1, b.zb q hq.2]
theorem BorS.back {Z H Zb Z2 H2 : Hp} {ps : List Addr} (b : BorS Z H Zb ps) (zh : Same Z H) (st : Step Zb H Z2 H2) : Step Z H (delL Z2 ps) H2 := by
  refine ⟨st.hh, fun q u e => ?_, fun q u e => ?_, fun q u e => ?_⟩
  · unfold delL
    rw [if_neg (fun hm => by rw [b.nz q hm] at e; cases e)]
    exact st.zz _ _ (b.zz _ _ e)
  · unfold delL at e
    split at e
    · cases e
    · exact st.zh _ _ e
  · unfold delL
    by_cases hm : q ∈ ps
    · rw [if_pos hm, b.nz q hm]
    · rw [if_neg hm, st.fr q u e, b.zb q hm]
/-- what came new out of a lending -/
theorem Bor.own2 {α : Type} {S : Sh α} [ImmS S] {K : Fr} {Z H Z2 H2 Zb H' : Hp} {ps : List Addr} {v : V} {qs : List Addr} {a : α} (b : Bor K Z H Zb ps) (h : Same H H') (st : Step Zb H Z2 H2) (o : OwnO S K H' Z2 H2 v qs a) : OwnO S K H (delL Z2 ps) H2 v qs a :=
  ⟨ImmS.imm (b.im st) o.r, o.nd, fun q hq => by unfold delL; split; rfl; exact o.nz q hq, fun q hq => h.free (o.n0 q hq)⟩
theorem iteTe {b : Bool} {A B : Prop} (e : b = true) (h : A) : if b = true then A else B := by rw [if_pos e]; exact h
theorem iteFe {b : Bool} {A B : Prop} (e : b = false) (h : B) : if b = true then A else B := by rw [if_neg (by rw [e]; decide)]; exact h
section
variable {Q : VK} {H : Hp} {p : Addr}
end
end Cd

set_option Elab.async false
set_option linter.all false
set_option maxRecDepth 100000
set_option maxHeartbeats 4000000
namespace Cd
open PySem L2
/-! ### the plain laws: what is reckoned, and what it is -/
def Yes {α : Type} (m : R α) (Q : α → Prop) : Prop := ∃ a, m = .ok a ∧ Q a
section
variable {α β γ S T : Type} {m : R α} {k : α → R β} {Q : α → Prop} {P : α → Prop} {V : β → Prop}
theorem Yes.ok {a : α} (h : Q a) : Yes (.ok a) Q := ⟨a, rfl, h⟩
theorem Yes.bind (h : Yes m P) (h2 : ∀ a, P a → Yes (k a) V) : Yes (m.bind k) V := by
  obtain ⟨a, rfl, p⟩ := h
  exact h2 a p
theorem Yes.bindE {a : α} (h : m = .ok a) (h2 : Yes (k a) V) : Yes (m.bind k) V := by rw [h]; exact h2
theorem Yes.imp (h : Yes m P) (h2 : ∀ a, P a → Q a) : Yes m Q := let ⟨a, e, p⟩ := h; ⟨a, e, h2 a p⟩
theorem Yes.chk {p : Prop} (hp : p) (h : Yes m Q) : Yes (Cd.chk p m) Q := by rw [chk_t hp]; exact h
theorem Yes.vl {a : α} (h : Yes (k a) V) : Yes (Cd.vl a k) V := h
theorem Yes.vli {a : α} (h : ∀ x, x = a → Yes (k x) V) : Yes (Cd.vl a k) V := h a rfl
theorem Yes.ite {c : Prop} [Decidable c] {n : R α} (h1 : c → Yes m Q) (h2 : ¬ c → Yes n Q) : Yes (if c then m else n) Q := by
  by_cases h : c
  · rw [if_pos h]; exact h1 h
  · rw [if_neg h]; exact h2 h
theorem Yes.iteT {c : Prop} [Decidable c] {n : R α} (h : c) (h1 : Yes m Q) : Yes (if c then m else n) Q := by rw [if_pos h]; exact h1
theorem Yes.iteF {c : Prop} [Decidable c] {n : R α} (h : ¬ c) (h1 : Yes n Q) : Yes (if c then m else n) Q := by rw [if_neg h]; exact h1
theorem Yes.opt {o : Option β} {n : R α} {f : β → R α} (h1 : o = none → Yes n Q) (h2 : ∀ b, o = some b → Yes (f b) Q) : Yes (optB o n f) Q := by
  cases o with
  | none => exact h1 rfl
  | some b => exact h2 b rfl
theorem Yes.eq (h : Yes m fun r => r = a) : m = .ok a := by obtain ⟨b, e, rfl⟩ := h; exact e
theorem Yes.of {a : α} (h : m = .ok a) (q : Q a) : Yes m Q := ⟨a, h, q⟩
theorem Yes.nx (h : Yes m Q) : Yes m.nx Q := by obtain ⟨a, rfl, q⟩ := h; exact ⟨a, rfl, q⟩
theorem Yes.and (h : Yes m P) (h2 : Yes m Q) : Yes m fun a => P a ∧ Q a := by
  obtain ⟨a, rfl, p⟩ := h
  obtain ⟨b, e, q⟩ := h2
  cases e
  exact ⟨a, rfl, p, q⟩
/-- a loop: I of what was walked -/
theorem Yes.forR {f : S → α → R S} {l : List α} {s : S} {W : S → Prop} (I : List α → S → Prop) (h0 : I [] s) (st : ∀ p x r, l = p ++ x :: r → ∀ s, I p s → Yes (f s x) (I (p ++ [x]))) (hw : ∀ s, I l s → W s) : Yes (Cd.forR f s l) W := by
  have key : ∀ (r p : List α) (s : S), l = p ++ r → I p s → Yes (Cd.forR f s r) (I l) := by
    intro r
    induction r with
    | nil => intro p s e h; rw [List.append_nil] at e; subst e; exact Yes.ok h
    | cons x r ih => intro p s e h; exact Yes.bind (st p x r e s h) fun s' h' => ih (p ++ [x]) s' (by rw [e]; simp) h'
  exact (key l [] s rfl h0).imp hw
/-- what a turn may come to -/
def Tn (N B : S → Prop) (V : T → Prop) : LR S T → Prop
  | .nxt s => N s
  | .brk s => B s
  | .ret v => V v
theorem Yes.forL {f : S → α → R (LR S T)} {l : List α} {s : S} {W : LR S T → Prop} (I : List α → S → Prop) (B : S → Prop) (V : T → Prop) (h0 : I [] s) (st : ∀ p x r, l = p ++ x :: r → ∀ s, I p s → Yes (f s x) (Tn (I (p ++ [x])) B V)) (hw : ∀ o, Tn (I l) B V o → W o) : Yes (Cd.forL f s l) W := by
  have key : ∀ (r p : List α) (s : S), l = p ++ r → I p s → Yes (Cd.forL f s r) (Tn (I l) B V) := by
    intro r
    induction r with
    | nil => intro p s e h; rw [List.append_nil] at e; subst e; exact Yes.ok h
    | cons x r ih =>
      intro p s e h
      refine Yes.bind (st p x r e s h) fun o ho => ?_
      cases o with
      | nxt s' => exact ih (p ++ [x]) s' (by rw [e]; simp) ho
      | brk s' => exact ⟨_, rfl, ho⟩
      | ret v => exact ⟨_, rfl, ho⟩
  exact (key l [] s rfl h0).imp hw
theorem Yes.go {N B : S → Prop} {W : T → Prop} {m : R (LR S T)} {k : S → R β} {k2 : T → R β} (h : Yes m (Tn N B W)) (h1 : ∀ s, N s → Yes (k s) V) (h2 : ∀ s, B s → Yes (k s) V) (h3 : ∀ v, W v → Yes (k2 v) V) : Yes (m.bind fun o => LR.go o k k2) V :=
  Yes.bind h fun o ho => match o, ho with
    | .nxt s, ho => h1 s ho
    | .brk s, ho => h2 s ho
    | .ret v, ho => h3 v ho
/-- a loop with returns (no breaks): I of what was walked, V of what is returned -/
theorem Yes.forLg {f : S → α → R (LR S T)} {l : List α} {s : S} {k : S → R β} {k2 : T → R β} (I : List α → S → Prop) (W : T → Prop) (h0 : I [] s) (st : ∀ p x r, l = p ++ x :: r → ∀ s, I p s → Yes (f s x) (Tn (I (p ++ [x])) (fun _ => False) W)) (h1 : ∀ s, I l s → Yes (k s) V) (h3 : ∀ v, W v → Yes (k2 v) V) : Yes ((Cd.forL f s l).bind fun o => LR.go o k k2) V :=
  Yes.go (Yes.forL I (fun _ => False) W h0 st fun _ h => h) h1 (fun _ h => h.elim) h3
theorem Yes.whR {c : S → R Bool} {f : S → R S} {s : S} {W : S → Prop} (I : S → Prop) (mu : S → Nat) (h0 : I s) (hc : ∀ s, I s → Yes (c s) fun b => if b = true then Yes (f s) (fun s' => I s' ∧ mu s' < mu s) else W s) {n : Nat} (hn : mu s < n) : Yes (Cd.whR c f n s) W := by
  induction n generalizing s with
  | zero => omega
  | succ n ih =>
    refine Yes.bind (hc s h0) fun b hb => ?_
    cases b with
    | false => exact ⟨_, rfl, hb⟩
    | true => exact Yes.bind (P := fun s' => I s' ∧ mu s' < mu s) hb fun s' h' => ih h'.1 (by omega)
theorem Yes.whL {c : S → R Bool} {f : S → R (LR S T)} {s : S} {W : LR S T → Prop} (I : S → Prop) (mu : S → Nat) (h0 : I s) (hc : ∀ s, I s → Yes (c s) fun b => if b = true then Yes (f s) (Tn (fun s' => I s' ∧ mu s' < mu s) (fun s' => W (.brk s')) (fun v => W (.ret v))) else W (.nxt s)) {n : Nat} (hn : mu s < n) : Yes (Cd.whL c f n s) W := by
  induction n generalizing s with
  | zero => omega
  | succ n ih =>
    refine Yes.bind (hc s h0) fun b hb => ?_
    cases b with
    | false => exact ⟨_, rfl, hb⟩
    | true =>
      refine Yes.bind (P := Tn (fun s' => I s' ∧ mu s' < mu s) (fun s' => W (.brk s')) (fun v => W (.ret v))) hb fun o ho => ?_
      cases o with
      | nxt s' => exact ih ho.1 (by have := ho.2; omega)
      | brk s' => exact ⟨_, rfl, ho⟩
      | ret v => exact ⟨_, rfl, ho⟩
theorem Yes.lcR {F : γ → R (Option β)} {l : List γ} {W : List β → Prop} (I : List γ → List β → Prop) (h0 : I [] []) (st : ∀ p x r, l = p ++ x :: r → ∀ s, I p s → Yes (F x) fun o => I (p ++ [x]) (s ++ o.toList)) (hw : ∀ s, I l s → W s) : Yes (Cd.lcR F l) W := by
  have key : ∀ (r p : List γ) (s : List β), l = p ++ r → I p s → Yes (Cd.lcR F r) fun t => I l (s ++ t) := by
    intro r
    induction r with
    | nil => intro p s e h; rw [List.append_nil] at e; subst e; exact ⟨[], rfl, by show I _ (s ++ []); rw [List.append_nil]; exact h⟩
    | cons x r ih =>
      intro p s e h
      refine Yes.bind (st p x r e s h) fun o ho => Yes.bind (ih (p ++ [x]) (s ++ o.toList) (by rw [e]; simp) ho) fun t ht => Yes.ok ?_
      show I l (s ++ (o.toList ++ t)); rw [← List.append_assoc]; exact ht
  exact (key l [] [] rfl h0).imp fun t ht => hw t ht
end
theorem mem_mid {α : Type} {l p r : List α} {x : α} (e : l = p ++ x :: r) : x ∈ l := by rw [e]; simp
theorem len_mid {α : Type} {l p r : List α} {x : α} (e : l = p ++ x :: r) : p.length < l.length := by rw [e]; simp
theorem b2 {b : Bool} (h : ¬ b = true) : b = false := by cases b <;> first | rfl | exact absurd rfl h
end Cd

set_option Elab.async false
set_option linter.all false
set_option maxRecDepth 100000
set_option maxHeartbeats 4000000
namespace Cd
open PySem L2
/-! ### cards, signs, columns, dealing (plain) -/
def KN : List Nat := [32, 48, 49, 50, 51, 52, 53, 54, 55, 56, 57, 65, 66, 67, 68, 69, 70, 71, 72, 73, 74, 75, 76, 77, 78, 79, 80, 81, 82, 83, 84, 85, 86, 87, 88, 89, 90]
def signOk (z : Str) : Prop := ∃ c ∈ KN, z = sg c
def textOk (z : Str) : Prop := ∀ c ∈ codes z, c ∈ KN
def cardOk (z : Str) : Prop := z.length = 40 ∧ textOk z
def markOk (z : Str) : Prop := z.length = 4 ∧ textOk z
def menuOk (z : Str) : Prop := (0 < z.length ∧ z.length ≤ 37) ∧ textOk z
def colsOk (l : List Int) : Prop := ∀ x ∈ l, 1 ≤ x ∧ x ≤ 40
theorem sign_in {z : Str} {i : Int} (h : textOk z) (h0 : 0 ≤ i) (h1 : i < (z.length : Int)) : signOk (chS z i) := by
  obtain ⟨c, hc, e⟩ := chS_mem h0 h1
  exact ⟨c, h c hc, e⟩
theorem text_app {a b : Str} (ha : textOk a) (hb : textOk b) : textOk (a ++ b) := fun c hc => by
  rw [codes_app, List.mem_append] at hc
  exact hc.elim (ha c) (hb c)
theorem text_sign {a : Str} (h : signOk a) : textOk a := by
  obtain ⟨c, hc, rfl⟩ := h
  intro d hd
  rw [codes_sg, List.mem_singleton] at hd
  rw [hd]; exact hc
theorem all_app1 {α : Type} {P : α → Prop} {l : List α} {a : α} (h : ∀ z ∈ l, P z) (ha : P a) : ∀ z ∈ l ++ [a], P z := fun z hz => by
  rw [List.mem_append, List.mem_singleton] at hz
  rcases hz with hz | rfl
  · exact h z hz
  · exact ha
theorem toStr_digits (n : Nat) : ∀ c ∈ codes (toStr (n : Int)), 48 ≤ c ∧ c ≤ 57 := fun c hc => by
  rw [toStr_codes, List.mem_map] at hc
  obtain ⟨d, hd, rfl⟩ := hc
  have h := Nat.isDigit_of_mem_toDigits (by decide) (by decide) hd
  unfold Char.isDigit at h
  rw [Bool.and_eq_true] at h
  have h1 := of_decide_eq_true h.1
  have h2 := of_decide_eq_true h.2
  exact ⟨UInt32.le_iff_toNat_le.mp h1, UInt32.le_iff_toNat_le.mp h2⟩
theorem codes_zfill {z : Str} {k : Int} (hd : ∀ c ∈ codes z, 48 ≤ c ∧ c ≤ 57) : codes (Txt.zfill z k) = List.replicate (k.toNat - z.length) 48 ++ codes z := by
  unfold Txt.zfill
  by_cases h : k ≤ z.length
  · rw [if_pos h, show k.toNat - z.length = 0 by omega]; rfl
  · rw [if_neg h]
    have e : zfilled z (k.toNat - z.length) = Builtin.Str.padded z (k.toNat - z.length) 0 48 := by
      unfold zfilled
      split
      · rename_i h1
        have : 43 ∈ codes z := by unfold codes; exact Array.mem_toList_iff.mpr (Array.mem_of_getElem? h1)
        have := hd 43 this
        omega
      · rename_i h1
        have : 45 ∈ codes z := by unfold codes; exact Array.mem_toList_iff.mpr (Array.mem_of_getElem? h1)
        have := hd 45 this
        omega
      · rfl
    rw [e]
    unfold Builtin.Str.padded codes
    simp
theorem mark_ok {i : Int} (h0 : 0 ≤ i) (h1 : i < 10000) : markOk (Txt.zfill (toStr i) (4 : Int)) := by
  obtain ⟨n, rfl⟩ := Int.eq_ofNat_of_zero_le h0
  have hd := toStr_digits n
  have hl := (toStr_lenp (n : Int) h0).2.1 h1
  refine ⟨?_, fun c hc => ?_⟩
  · rw [len_codes, codes_zfill hd, List.length_append, List.length_replicate, ← len_codes]
    omega
  · rw [codes_zfill hd, List.mem_append, List.mem_replicate] at hc
    have h2 : 48 ≤ c ∧ c ≤ 57 := by
      rcases hc with ⟨_, rfl⟩ | hc
      · omega
      · exact hd c hc
    have : c = 48 ∨ c = 49 ∨ c = 50 ∨ c = 51 ∨ c = 52 ∨ c = 53 ∨ c = 54 ∨ c = 55 ∨ c = 56 ∨ c = 57 := by omega
    rcases this with rfl | rfl | rfl | rfl | rfl | rfl | rfl | rfl | rfl | rfl <;> decide
def deckOk (l : List Str) : Prop := ∀ z ∈ l, cardOk z
theorem deck_nil : deckOk [] := fun z h => nomatch h
theorem deck_app {l : List Str} {a : Str} (h : deckOk l) (ha : cardOk a) : deckOk (l ++ [a]) := all_app1 h ha
theorem deck_ins {l : List Str} {a : Str} {i : Int} (h : deckOk l) (ha : cardOk a) : deckOk (insI l i a) := fun z hz => by
  unfold insI at hz
  rw [List.mem_append, List.mem_append, List.mem_singleton] at hz
  rcases hz with (hz | rfl) | hz
  · exact h z (List.mem_of_mem_take hz)
  · exact ha
  · exact h z (List.mem_of_mem_drop hz)
theorem deck_get {l : List Str} {i : Int} (h : deckOk l) (hi : inR l.length i) : cardOk (getI l i) := h _ (getI_mem hi)
def codeAt (c : Int) (z : Str) : Nat := (codes z).getD (c - 1).toNat 0
theorem codeAt_sg {z : Str} {c : Int} (h : cardOk z) (hc : 1 ≤ c ∧ c ≤ 40) : chS z (c - 1) = sg (codeAt c z) ∧ codeAt c z ∈ KN := by
  have hl : (codes z).length = 40 := by rw [← len_codes]; exact h.1
  have e := chS_nat (z := z) (i := c - 1) (by omega) (by have := h.1; omega)
  have e2 : codeAt c z = (codes z)[(c - 1).toNat]'(by omega) := by
    unfold codeAt
    rw [List.getD_eq_getElem?_getD, List.getElem?_eq_getElem (by omega)]
    rfl
  exact ⟨by rw [e, e2], by rw [e2]; exact h.2 _ (List.getElem_mem _)⟩
def buckets (c : Int) (l : List Str) : List (List Str) := KN.map (fun s => l.filter (fun z => decide (codeAt c z = s)))
def dealt (c : Int) (l : List Str) : List Str := (buckets c l).flatten
def dealtAll : List Int → List Str → List Str
  | [], l => l
  | c :: r, l => dealtAll r (dealt c l)
def keyOf (cols : List Int) (z : Str) : List Nat := cols.map (fun c => codeAt c z)
theorem idx_lt : ∀ s ∈ KN, ∀ t ∈ KN, (KN.idxOf s < KN.idxOf t ↔ s < t) := by decide
def stepOf (l : List Str) (p : TO Str Int Str) : List Str := if p.x1 = "deal" then dealt p.x2 l else l.filter (fun z => decide (chS z (p.x2 - 1) = p.x3.getD default))
def digL : Nat → Int → List Nat
  | 0, _ => []
  | w + 1, v => digL w (v / 10) ++ [48 + (v % 10).toNat]
theorem sz_le {n : Nat} (h : n ≤ 1000000) : n ≤ sizeLine := Nat.le_trans h (by decide)
theorem sz_lt {n : Nat} (h : n < 1000000) : n < sizeLine := Nat.lt_of_lt_of_le h (by decide)
theorem rangeL_mem {lo : Int} {n : Nat} {x : Int} (h : x ∈ rangeL lo n) : lo ≤ x ∧ x < lo + (n : Int) := by
  unfold rangeL at h
  obtain ⟨i, hi, rfl⟩ := List.mem_map.mp h
  have := List.mem_range.mp hi
  omega
theorem getI_k {α : Type} [Inhabited α] {l : List α} {n : Nat} (h : n < l.length) : getI l (n : Int) = l[n] := getI_eq (by omega) (by simpa using h)
/-! the signs -/
theorem sgs_codes : codes (" 0123456789ABCDEFGHIJKLMNOPQRSTUVWXYZ" : Str) = KN := by decide +kernel
theorem card_ix {z : Str} {c : Int} (h : cardOk z) (hc : 1 ≤ c ∧ c ≤ 40) : okIx z (c - 1) := ⟨by rw [h.1]; decide, by rw [h.1]; unfold inR; omega⟩
/-! dealing: the same cards, in the order of the column, else as they were -/
end Cd

set_option Elab.async false
set_option linter.all false
set_option maxRecDepth 100000
set_option maxHeartbeats 4000000
namespace Cd
open PySem L2 PyProof.Rows
/-! ### a thing of one's own goes into a list of one's own -/
theorem Sep.tyL {K : Fr} {Z0 H0 Z H : Hp} {G : List Rt} {β : Type} {T : ShL β} {p : Addr} {l : β} (h : Sep K Z0 H0 Z H G) (i : Nat) (e : G[i]? = some ⟨Sh.lst T, .ref p, l⟩) : tyV K "list" (.ref p) H := by
  obtain ⟨ps, o⟩ := h.nth i e
  obtain ⟨p', xs, qs, e1, _, h1, _⟩ := o.r
  cases e1
  exact .inl ⟨rfl, xs, SqL.of h1⟩
end Cd

set_option Elab.async false
set_option linter.all false
set_option maxRecDepth 100000
set_option maxHeartbeats 4000000
namespace Cd
open PySem L2
/-! ### boards (plain) -/
def wireOk (w : Int × Int) : Prop := (1 ≤ w.1 ∧ w.1 ≤ 40) ∧ 1 ≤ w.2 ∧ w.2 ≤ 36
def boardOk (l : List (Int × Int)) : Prop := ∀ w ∈ l, wireOk w
theorem nodup_bound : ∀ (n : Nat) (l : List Int), l.Nodup → (∀ x ∈ l, 1 ≤ x ∧ x ≤ (n : Int)) → l.length ≤ n
  | 0, l, _, h => by
    cases l with
    | nil => exact Nat.le_refl _
    | cons a r => have := h a List.mem_cons_self; omega
  | n + 1, l, hn, h => by
    by_cases hm : ((n + 1 : Nat) : Int) ∈ l
    · have h1 := nodup_bound n (l.erase ((n + 1 : Nat) : Int)) (hn.erase _) (fun x hx => by
        have h2 := h x (List.mem_of_mem_erase hx)
        have h3 : x ≠ ((n + 1 : Nat) : Int) := fun e => hn.not_mem_erase (e ▸ hx)
        omega)
      rw [List.length_erase_of_mem hm] at h1
      omega
    · have h1 := nodup_bound n l hn (fun x hx => by
        have h2 := h x hx
        have h3 : x ≠ ((n + 1 : Nat) : Int) := fun e => hm (e ▸ hx)
        omega)
      omega
def swp (w : Int × Int) : Int × Int := (w.2, w.1)
/-- the board as the law writes it -/
def due (l : List (Int × Int)) : List (Int × Int) := (sortP (l.map swp)).map swp
/-! texts joined and split again -/
/-! numbers up to forty as texts -/
def NumOk (n : Nat) : Bool := let z := toStr (n : Int); decide (PySem.intText? z = some (n : Int)) && (decide (z.length ≤ 2) && (decide (1 ≤ z.length) && (((codes z).all fun c => decide (48 ≤ c) && decide (c ≤ 57)) && (!decide (chS z 0 = ("0" : Str))))))
structure Num (z : Str) (n : Int) : Prop where
  it : PySem.intText? z = some n
  l2 : z.length ≤ 2
  l1 : 1 ≤ z.length
  fg : ∀ c ∈ codes z, 48 ≤ c ∧ c ≤ 57
  n0 : ¬ chS z 0 = "0"
theorem Num.int {z : Str} {n : Int} (h : Num z n) : intS z = n := by unfold intS; rw [h.it]; rfl
/-- a run of wires -/
def ex (p : (Int × Int) × (Int × Int)) : List (Int × Int) := (rangeL 0 (p.2.1 - p.1.1 + 1).toNat).map fun k => (p.1.1 + k, p.1.2 + k)
structure RunOk (p : (Int × Int) × (Int × Int)) : Prop where
  a : wireOk p.1
  b : wireOk p.2
  le : p.1.1 ≤ p.2.1
  w : p.2.1 - p.1.1 = p.2.2 - p.1.2
def sideT (a b : Int) : Str := if a = b then toStr a else toStr a ++ "-" ++ toStr b
def pieceT (p : (Int × Int) × (Int × Int)) : Str := sideT p.1.1 p.2.1 ++ ">" ++ sideT p.1.2 p.2.2
/-- the runs of a board -/
def rStep (rs : List ((Int × Int) × (Int × Int))) (w : Int × Int) : List ((Int × Int) × (Int × Int)) := match rs.getLast? with
  | none => [(w, w)]
  | some p => if w = (p.2.1 + 1, p.2.2 + 1) then rs.dropLast ++ [(p.1, w)] else rs ++ [(w, w)]
def runs (l : List (Int × Int)) : List ((Int × Int) × (Int × Int)) := l.foldl rStep []
end Cd

set_option Elab.async false
set_option linter.all false
set_option maxRecDepth 100000
set_option maxHeartbeats 4000000
namespace Cd
open PySem L2 PyProof.Rows
/-! ### a list of two taken apart by a target -/
end Cd

set_option Elab.async false
set_option linter.all false
set_option maxRecDepth 100000
set_option maxHeartbeats 4000000
/-! ### several except clauses, with names or without, and else -/
namespace L2
open PySem PySem.Spec PyProof.Rows
/-- the reading of a clause that names the refusal, in slot i -/
def asT (i : Nat) (ts : Addr → Value → Option Addr → TS) : Addr → Value → Option Addr → TS := fun a cls d D σ H =>
  ts a cls d { nx := fun σ' H' => D.nx (σ'.set i none) H', rt := D.rt, bk := fun σ' H' => D.bk (σ'.set i none) H', ct := fun σ' H' => D.ct (σ'.set i none) H' } (σ.set i (some (.ref a))) H
/-- the clauses, one after the other, and their readings -/
inductive HdsN (X : Cx) : List ExceptHandler → List (Value × (Addr → Value → Option Addr → TS)) → Prop
  | nil : HdsN X [] []
  | cons {x : Str} {c : Value} {ts : Addr → Value → Option Addr → TS} {b₀ : Stmt} {suite : List Stmt} {np pos' : Pos} {hds : List ExceptHandler} {l : List (Value × (Addr → Value → Option Addr → TS))} (hc : Names X x c)
      (hsu : ∀ (a : Addr) (oe : Obj) (cls : Value) (d : Option Addr) (pn : List (Addr × Obj)), Zc cls d oe → (∃ vs, oe.data = .fields vs) → PSs (X.suite a ((a, oe) :: pn)) (b₀ :: suite) (ts a cls d)) (r : HdsN X hds l) :
      HdsN X (.ExceptHandler (some (.Name x np)) none (b₀ :: suite) pos' :: hds) ((c, ts) :: l)
  | named {x n : Str} {i : Nat} {c : Value} {ts : Addr → Value → Option Addr → TS} {b₀ : Stmt} {suite : List Stmt} {np pos' : Pos} {hds : List ExceptHandler} {l : List (Value × (Addr → Value → Option Addr → TS))} (hN : X.N.Nodup) (hi : X.N[i]? = some n) (hln : X.env.kindOf n = some .local) (hc : Names X x c)
      (hsu : ∀ (a : Addr) (oe : Obj) (cls : Value) (d : Option Addr) (pn : List (Addr × Obj)), Zc cls d oe → (∃ vs, oe.data = .fields vs) → PSs (X.suite a ((a, oe) :: pn)) (b₀ :: suite) (ts a cls d)) (r : HdsN X hds l) :
      HdsN X (.ExceptHandler (some (.Name x np)) (some n) (b₀ :: suite) pos' :: hds) ((c, asT i ts) :: l)
section
variable {X : Cx} {body : List Stmt} {h₀ : ExceptHandler} {hds : List ExceptHandler} {l : List (Value × (Addr → Value → Option Addr → TS))} {pos : Pos} {tb : WX → TS} {Wout : WX}
end
end L2
namespace Cd
open PySem L2
/-! ### a try, as a mirror -/
/-- what is not caught goes on -/
def R.tr {α β : Type} (m : R α) (k : α → R β) (f : Er → R β) : R β := match m with
  | .ok a => k a
  | .ex e => f e
  | .bad => .bad
theorem Good.tr {α β : Type} {m : R α} {k : α → R β} {f : Er → R β} {V : β → Prop} {E : Er → Prop} (h : Good (m.tr k f) V E) : Good m (fun a => Good (k a) V E) (fun e => Good (f e) V E) := by
  cases m with
  | ok a => exact h
  | ex e => exact h
  | bad => exact h
theorem Yes.trE {α β : Type} {m : R α} {k : α → R β} {f : Er → R β} {e : Er} {V : β → Prop} (h : m = .ex e) (h2 : Yes (f e) V) : Yes (m.tr k f) V := by rw [h]; exact h2
end Cd

set_option Elab.async false
set_option linter.all false
set_option maxRecDepth 100000
set_option maxHeartbeats 4000000
namespace Cd
open PySem L2 PyProof.Rows
/-! ### objects: a husk and its attributes, each a thing by itself -/
/-- an instance of the class that the module's name nm names -/
def Sh.objK {β : Type} (nm : Str) (ns : List Str) (T : ShL β) : Sh β where
  R := fun K Z H v ps b => ∃ C, PySem.W.nsIn K mainGlobals nm = some (some (.ref C)) ∧ (Sh.ins C ns T).R K Z H v ps b
  keep := fun s h ⟨C, e, r⟩ => ⟨C, e, (Sh.ins C ns T).keep s h r⟩
  stands := fun ⟨C, _, r⟩ q hq => (Sh.ins C ns T).stands r q hq
/-- the object without its attributes' things: what it holds is the list of its attributes' values -/
def Sh.husk (nm : Str) (ns : List Str) : Sh (List V) where
  R := fun K Z H v ps vs => ∃ C p dx, PySem.W.nsIn K mainGlobals nm = some (some (.ref C)) ∧ v = .ref p ∧ ps = [p, dx] ∧ H p = some (.ins C dx (ns.zip vs)) ∧ H dx = some (.own p) ∧ vs.length = ns.length
  keep := fun s h ⟨C, p, dx, e0, e1, e2, h1, h2, hl⟩ => ⟨C, p, dx, e0, e1, e2, (h p (by rw [e2]; simp)).trans h1, (h dx (by rw [e2]; simp)).trans h2, hl⟩
  stands := fun ⟨C, p, dx, e0, e1, e2, h1, h2, hl⟩ q hq => by
    rw [e2] at hq
    rcases List.mem_cons.mp hq with rfl | hq
    · exact ⟨_, h1⟩
    · rw [List.mem_singleton] at hq; subst hq; exact ⟨_, h2⟩
/-- the attributes' things, at the values vs -/
def Sh.rowS {β : Type} (T : ShL β) (vs : List V) : Sh β where
  R := fun K Z H _ ps b => T.R K Z H vs ps b
  keep := fun s h r => T.keep s h r
  stands := fun r q hq => T.stands r q hq
section
variable {K : Fr} {Z0 H0 Z H : Hp} {G : List Rt} {α β γ : Type}
theorem Sep.split2 {S1 : Sh α} {S2 : Sh β} {S3 : Sh γ} {v1 v2 v3 : V} {a1 : α} {a2 : β} {a3 : γ} (h : Sep K Z0 H0 Z H (⟨S3, v3, a3⟩ :: G)) {f : Nat → List Addr} (hf : f = f)
    (c : ∀ rs, S3.R K Z H v3 rs a3 → ∃ ps qs, rs = ps ++ qs ∧ S1.R K Z H v1 ps a1 ∧ S2.R K Z H v2 qs a2) : Sep K Z0 H0 Z H (⟨S1, v1, a1⟩ :: ⟨S2, v2, a2⟩ :: G) := by
  obtain ⟨st, f, h1, h2⟩ := h
  have o : OwnO S3 K H0 Z H v3 (f 0) a3 := h1 0 _ rfl
  obtain ⟨ps, qs, e, r1, r2⟩ := c _ o.r
  obtain ⟨n1, n2, n3⟩ := List.nodup_append.mp (e ▸ o.nd)
  have i1 : ∀ q ∈ ps, q ∈ f 0 := fun q hq => by rw [e]; exact List.mem_append_left _ hq
  have i2 : ∀ q ∈ qs, q ∈ f 0 := fun q hq => by rw [e]; exact List.mem_append_right _ hq
  refine ⟨st, fun i => match i with | 0 => ps | 1 => qs | i + 2 => f (i + 1), fun i r er => ?_, fun i j r s ne er es => ?_⟩
  · match i with
    | 0 => simp only [List.getElem?_cons_zero, Option.some.injEq] at er; subst er; exact ⟨r1, n1, fun q hq => o.nz q (i1 q hq), fun q hq => o.n0 q (i1 q hq)⟩
    | 1 => simp only [List.getElem?_cons_succ, List.getElem?_cons_zero, Option.some.injEq] at er; subst er; exact ⟨r2, n2, fun q hq => o.nz q (i2 q hq), fun q hq => o.n0 q (i2 q hq)⟩
    | i + 2 => exact h1 (i + 1) r (by simpa using er)
  · have key : ∀ i r, G[i]? = some r → ∀ q ∈ f (i + 1), q ∉ f 0 := fun i r e => h2 (i + 1) 0 r _ (by omega) (by simpa using e) rfl
    match i, j with
    | 0, 0 => exact (ne rfl).elim
    | 0, 1 => exact fun q hq hq2 => n3 q hq q hq2 rfl
    | 1, 0 => exact fun q hq hq2 => n3 q hq2 q hq rfl
    | 1, 1 => exact (ne rfl).elim
    | 0, j + 2 => exact fun q hq hq2 => key j s (by simpa using es) q hq2 (i1 q hq)
    | 1, j + 2 => exact fun q hq hq2 => key j s (by simpa using es) q hq2 (i2 q hq)
    | i + 2, 0 => exact fun q hq hq2 => key i r (by simpa using er) q hq (i1 q hq2)
    | i + 2, 1 => exact fun q hq hq2 => key i r (by simpa using er) q hq (i2 q hq2)
    | i + 2, j + 2 => exact h2 (i + 1) (j + 1) r s (by omega) (by simpa using er) (by simpa using es)
theorem Sep.join2 {S1 : Sh α} {S2 : Sh β} {S3 : Sh γ} {v1 v2 v3 : V} {a1 : α} {a2 : β} {a3 : γ} (h : Sep K Z0 H0 Z H (⟨S1, v1, a1⟩ :: ⟨S2, v2, a2⟩ :: G))
    (c : ∀ ps qs, S1.R K Z H v1 ps a1 → S2.R K Z H v2 qs a2 → S3.R K Z H v3 (ps ++ qs) a3) : Sep K Z0 H0 Z H (⟨S3, v3, a3⟩ :: G) := by
  obtain ⟨st, f, h1, h2⟩ := h
  have o : OwnO S1 K H0 Z H v1 (f 0) a1 := h1 0 _ rfl
  have o2 : OwnO S2 K H0 Z H v2 (f 1) a2 := h1 1 _ rfl
  refine ⟨st, fun i => match i with | 0 => f 0 ++ f 1 | i + 1 => f (i + 2), fun i r er => ?_, fun i j r s ne er es => ?_⟩
  · match i with
    | 0 =>
      simp only [List.getElem?_cons_zero, Option.some.injEq] at er
      subst er
      exact ⟨c _ _ o.r o2.r, List.nodup_append.mpr ⟨o.nd, o2.nd, fun x hx y hy e => h2 0 1 _ _ (by decide) rfl rfl x hx (e ▸ hy)⟩, fun q hq => (List.mem_append.mp hq).elim (o.nz q) (o2.nz q), fun q hq => (List.mem_append.mp hq).elim (o.n0 q) (o2.n0 q)⟩
    | i + 1 => exact h1 (i + 2) r (by simpa using er)
  · have key : ∀ i r, G[i]? = some r → ∀ q ∈ f (i + 2), q ∉ f 0 ++ f 1 := fun i r e q hq hm => by
      rcases List.mem_append.mp hm with hm | hm
      · exact h2 (i + 2) 0 r _ (by omega) (by simpa using e) rfl q hq hm
      · exact h2 (i + 2) 1 r _ (by omega) (by simpa using e) rfl q hq hm
    match i, j with
    | 0, 0 => exact (ne rfl).elim
    | 0, j + 1 => exact fun q hq hq2 => key j s (by simpa using es) q hq2 hq
    | i + 1, 0 => exact fun q hq hq2 => key i r (by simpa using er) q hq hq2
    | i + 1, j + 1 => exact h2 (i + 2) (j + 2) r s (by omega) (by simpa using er) (by simpa using es)
/-- an object is opened -/
theorem Sep.opnObj {nm : Str} {ns : List Str} {T : ShL β} {f : α → β} {v : V} {a : α} (h : Sep K Z0 H0 Z H (⟨(Sh.objK nm ns T).via f, v, a⟩ :: G)) :
    ∃ p vs, v = .ref p ∧ vs.length = ns.length ∧ Sep K Z0 H0 Z H (⟨Sh.husk nm ns, .ref p, vs⟩ :: ⟨Sh.rowS T vs, .non, f a⟩ :: G) := by
  obtain ⟨ps, o⟩ := h.nth 0 rfl
  obtain ⟨C, eC, p, dx, xs, qs, e1, e2, h1, h2, hl, h3⟩ := o.r
  have e1 : v = .ref p := e1
  subst e1
  refine ⟨p, xs, rfl, hl, h.split2 (f := fun _ => []) rfl fun rs r => ?_⟩
  obtain ⟨C', eC', p', dx', xs', qs', e1', e2', h1', h2', hl', h3'⟩ := r
  cases e1'
  rw [h1] at h1'
  injection h1' with h1'
  injection h1' with i1 i2 h5
  subst i2
  have ex : xs = xs' := by
    have h6 := congrArg (List.map Prod.snd) h5
    rw [List.map_snd_zip (by omega), List.map_snd_zip (by omega)] at h6
    exact h6
  subst ex
  exact ⟨[p, dx], qs', by rw [e2']; rfl, ⟨C, p, dx, eC, rfl, rfl, h1, h2, hl⟩, h3'⟩
/-- .. and closed -/
theorem Sep.clsObj {nm : Str} {ns : List Str} {T : ShL β} {f : α → β} {v : V} {vs : List V} {a : α} {b : β} (e : b = f a) (h : Sep K Z0 H0 Z H (⟨Sh.husk nm ns, v, vs⟩ :: ⟨Sh.rowS T vs, .non, b⟩ :: G)) : Sep K Z0 H0 Z H (⟨(Sh.objK nm ns T).via f, v, a⟩ :: G) := by
  subst e
  refine h.join2 fun ps qs r1 r2 => ?_
  obtain ⟨C, p, dx, e0, e1, e2, h1, h2, hl⟩ := r1
  exact ⟨C, e0, p, dx, vs, qs, e1, by rw [e2]; rfl, h1, h2, hl, r2⟩
theorem Sep.unrow {S : Sh α} {T : ShL β} {vs : List V} {c : α × β} (h : Sep K Z0 H0 Z H (⟨Sh.rowS (ShL.cons S T) vs, .non, c⟩ :: G)) :
    ∃ v ws, vs = v :: ws ∧ Sep K Z0 H0 Z H (⟨S, v, c.1⟩ :: ⟨Sh.rowS T ws, .non, c.2⟩ :: G) := by
  obtain ⟨ps, o⟩ := h.nth 0 rfl
  obtain ⟨v, ws, qs, rs, e1, e2, r1, r2⟩ := o.r
  have e1 : vs = v :: ws := e1
  subst e1
  refine ⟨v, ws, rfl, h.split2 (f := fun _ => []) rfl fun ts r => ?_⟩
  obtain ⟨v', ws', qs', rs', e1', e2', r1', r2'⟩ := r
  cases e1'
  exact ⟨qs', rs', e2', r1', r2'⟩
theorem Sep.nilrow {vs : List V} {c : Unit} (h : Sep K Z0 H0 Z H (⟨Sh.rowS ShL.nil vs, .non, c⟩ :: G)) : vs = [] ∧ Sep K Z0 H0 Z H G := by
  obtain ⟨ps, o⟩ := h.nth 0 rfl
  exact ⟨o.r.1, h.drop⟩
theorem Sep.mknil (h : Sep K Z0 H0 Z H G) : Sep K Z0 H0 Z H (⟨Sh.rowS ShL.nil [], .non, ()⟩ :: G) :=
  h.pushO (ps := []) ⟨⟨rfl, rfl⟩, List.nodup_nil, (fun _ h => nomatch h), (fun _ h => nomatch h)⟩ fun _ _ _ _ _ _ _ h => nomatch h
theorem Sep.mkrow {S : Sh α} {T : ShL β} {v : V} {ws : List V} {a : α} {b : β} (h : Sep K Z0 H0 Z H (⟨S, v, a⟩ :: ⟨Sh.rowS T ws, .non, b⟩ :: G)) : Sep K Z0 H0 Z H (⟨Sh.rowS (ShL.cons S T) (v :: ws), .non, (a, b)⟩ :: G) :=
  h.join2 fun ps qs r1 r2 => ⟨v, ws, ps, qs, rfl, rfl, r1, r2⟩
/-- a scalar attribute -/
theorem Sep.scal {α : Type} [Sc α] {v : V} {a : α} (h : Sep K Z0 H0 Z H (⟨Sh.told (α := α), v, a⟩ :: G)) : v = Sc.emb a ∧ Sep K Z0 H0 Z H G := ⟨h.fact 0 rfl, h.drop⟩
theorem Sep.mkscal {α : Type} [Sc α] {a : α} (h : Sep K Z0 H0 Z H G) : Sep K Z0 H0 Z H (⟨Sh.told (α := α), Sc.emb a, a⟩ :: G) := h.tel rfl
end
end Cd

set_option Elab.async false
set_option linter.all false
set_option maxRecDepth 100000
set_option maxHeartbeats 4000000
namespace Cd
open PySem L2 PyProof.Rows
instance {β : Type} {nm : Str} {ns : List Str} {T : ShL β} : IsRef (Sh.objK nm ns T) := ⟨fun ⟨_, _, p, _, _, _, e, _⟩ => ⟨p, e⟩⟩
instance {nm : Str} {ns : List Str} : IsRef (Sh.husk nm ns) := ⟨fun ⟨_, p, _, _, e, _⟩ => ⟨p, e⟩⟩
theorem zip_none : ∀ {ns : List Str} {xs : List V} {m : Str}, m ∉ ns → (ns.zip xs).lookup m = none
  | [], _, _, _ => rfl
  | n :: r, [], _, _ => rfl
  | n :: r, x :: xs, m, h => by
    rw [List.zip_cons_cons, List.lookup_cons]
    have h1 : ¬ m = n := fun e => h (by rw [e]; exact List.mem_cons_self)
    rw [show (m == n) = false by simpa using h1]
    exact zip_none fun q => h (List.mem_cons_of_mem _ q)
section
variable {K : Fr} {Z0 H0 Z H : Hp} {G : List Rt} {α β : Type} {nm : Str} {ns : List Str} {p A : Addr} {vs : List V} {Q : VK}
theorem Sep.hus (h : Sep K Z0 H0 Z H G) (i : Nat) (e : G[i]? = some ⟨Sh.husk nm ns, .ref p, vs⟩) (nk : PySem.W.nsIn K mainGlobals nm = some (some (.ref A))) : ∃ dx, H p = some (.ins A dx (ns.zip vs)) ∧ H dx = some (.own p) ∧ vs.length = ns.length := by
  obtain ⟨ps, o⟩ := h.nth i e
  obtain ⟨C, p', dx, e0, e1, e2, h1, h2, hl⟩ := o.r
  cases e1
  rw [nk] at e0
  cases e0
  exact ⟨dx, h1, h2, hl⟩
/-- self.f -/
theorem Sep.fld {f : Str} {v : V} {P : V → Prop} (h : Sep K Z0 H0 Z H G) (i : Nat) (e : G[i]? = some ⟨Sh.husk nm ns, .ref p, vs⟩) (nk : PySem.W.nsIn K mainGlobals nm = some (some (.ref A))) (cl : Cls K A) (na : NoAttr K A f) (lk : (ns.zip vs).lookup f = some v) (k : P v) :
    ∃ a C dx fs v, V.ref p = .ref a ∧ H a = some (.ins C dx fs) ∧ Cls K C ∧ NoAttr K C f ∧ fs.lookup f = some v ∧ P v := by
  obtain ⟨dx, h1, _, _⟩ := h.hus i e nk
  exact ⟨p, A, dx, _, v, rfl, h1, cl, na, lk, k⟩
theorem Sep.put0 {f : Str} {v : V} {ns' : List Str} {vs' : List V} {dx : Addr} (h : Sep K Z0 H0 Z H G) (i : Nat) (e : G[i]? = some ⟨Sh.husk nm ns, .ref p, vs⟩) (nk : PySem.W.nsIn K mainGlobals nm = some (some (.ref A))) (hd : H p = some (.ins A dx (ns.zip vs))) (e2 : putF f v (ns.zip vs) = ns'.zip vs') (hl : vs'.length = ns'.length) :
    Sep K Z0 H0 Z (upd H p (.ins A dx (putF f v (ns.zip vs)))) (G.set i ⟨Sh.husk nm ns', .ref p, vs'⟩) := by
  obtain ⟨ps, o, g⟩ := h.chg1 i e
  obtain ⟨⟨C, p', dx', e0, e1, e3, h1, h2, _⟩, nd, nz, n0⟩ := o
  cases e1
  rw [nk] at e0
  cases e0
  rw [hd] at h1
  injection h1 with h1
  injection h1 with _ i2 _
  subst i2
  have hp : p ∈ ps := by rw [e3]; simp
  have hne : dx ≠ p := fun q => by rw [q, hd] at h2; cases h2
  refine g p _ _ hp ⟨⟨A, p, dx, nk, rfl, e3, ?_, ?_, hl⟩, nd, nz, n0⟩
  · rw [upd_same, e2]
  · rw [upd_ne hne]; exact h2
/-- self.f = v -/
theorem Sep.put {f : Str} {v : V} {ns' : List Str} {vs' : List V} {P : Hp → Prop} (h : Sep K Z0 H0 Z H G) (i : Nat) (e : G[i]? = some ⟨Sh.husk nm ns, .ref p, vs⟩) (nk : PySem.W.nsIn K mainGlobals nm = some (some (.ref A))) (cl : Cls K A) (na : NoAttr K A f) (hn : (ns.zip vs).length < 1000) (e2 : putF f v (ns.zip vs) = ns'.zip vs') (hl : vs'.length = ns'.length)
    (k : ∀ H', Sep K Z0 H0 Z H' (G.set i ⟨Sh.husk nm ns', .ref p, vs'⟩) → P H') : ∃ a C dx fs, V.ref p = .ref a ∧ H a = some (.ins C dx fs) ∧ Cls K C ∧ NoAttr K C f ∧ fs.length < 1000 ∧ P (upd H a (.ins C dx (putF f v fs))) := by
  obtain ⟨dx, h1, _, _⟩ := h.hus i e nk
  exact ⟨p, A, dx, _, rfl, h1, cl, na, hn, k _ (h.put0 i e nk h1 e2 hl)⟩
/-- an object of one's own, its method looked up -/
theorem Sep.mth {T : ShL β} {f : α → β} {a : α} {m : Str} {P : Prop} (h : Sep K Z0 H0 Z H G) (i : Nat) (e : G[i]? = some ⟨(Sh.objK nm ns T).via f, .ref p, a⟩) (nk : PySem.W.nsIn K mainGlobals nm = some (some (.ref A))) (hm : m ∉ ns) (k : P) : ∃ a dx fs, V.ref p = .ref a ∧ H a = some (.ins A dx fs) ∧ fs.lookup m = none ∧ P := by
  obtain ⟨ps, o⟩ := h.nth i e
  obtain ⟨C, eC, p', dx, xs, qs, e1, e2, h1, h2, hl, h3⟩ := o.r
  cases e1
  rw [nk] at eC
  cases eC
  exact ⟨p, dx, _, rfl, h1, zip_none hm, k⟩
/-! rows at the head -/
theorem Sep.swap {r s : Rt} (h : Sep K Z0 H0 Z H (r :: s :: G)) : Sep K Z0 H0 Z H (s :: r :: G) := by
  obtain ⟨c, f, h1, h2⟩ := h
  have ix : ∀ (i : Nat) (t : Rt), (s :: r :: G)[i]? = some t → (r :: s :: G)[match i with | 0 => 1 | 1 => 0 | i => i]? = some t := fun i t e => by
    match i with
    | 0 => exact e
    | 1 => exact e
    | i + 2 => exact e
  refine ⟨c, fun i => f (match i with | 0 => 1 | 1 => 0 | i => i), fun i t e => h1 _ t (ix i t e), fun i j t u ne e1 e2 => h2 _ _ t u ?_ (ix i t e1) (ix j u e2)⟩
  match i, j with
  | 0, 0 => exact (ne rfl).elim
  | 1, 1 => exact (ne rfl).elim
  | 0, 1 => decide
  | 1, 0 => decide
  | 0, j + 2 => show 1 ≠ j + 2; omega
  | 1, j + 2 => show 0 ≠ j + 2; omega
  | i + 2, 0 => show i + 2 ≠ 1; omega
  | i + 2, 1 => show i + 2 ≠ 0; omega
  | i + 2, j + 2 => exact ne
theorem Sep.unr {S : Sh α} {T : ShL β} {vs : List V} {c : α × β} (h : Sep K Z0 H0 Z H (⟨Sh.rowS (ShL.cons S T) vs, .non, c⟩ :: G)) : ∃ v ws, vs = v :: ws ∧ Sep K Z0 H0 Z H (⟨Sh.rowS T ws, .non, c.2⟩ :: ⟨S, v, c.1⟩ :: G) := by
  obtain ⟨v, ws, e, h2⟩ := h.unrow
  exact ⟨v, ws, e, h2.swap⟩
theorem Sep.unrS {α : Type} [Sc α] {T : ShL β} {vs : List V} {c : α × β} (h : Sep K Z0 H0 Z H (⟨Sh.rowS (ShL.cons (Sh.told (α := α)) T) vs, .non, c⟩ :: G)) : ∃ ws, vs = Sc.emb c.1 :: ws ∧ Sep K Z0 H0 Z H (⟨Sh.rowS T ws, .non, c.2⟩ :: G) := by
  obtain ⟨v, ws, e, h2⟩ := h.unrow
  obtain ⟨e2, h3⟩ := h2.scal
  exact ⟨ws, by rw [e, e2], h3⟩
theorem Sep.mkr {S : Sh α} {T : ShL β} {v : V} {ws : List V} {a : α} {b : β} (h : Sep K Z0 H0 Z H (⟨Sh.rowS T ws, .non, b⟩ :: ⟨S, v, a⟩ :: G)) : Sep K Z0 H0 Z H (⟨Sh.rowS (ShL.cons S T) (v :: ws), .non, (a, b)⟩ :: G) := h.swap.mkrow
theorem Sep.mkrS {α : Type} [Sc α] (a : α) {T : ShL β} {ws : List V} {b : β} (h : Sep K Z0 H0 Z H (⟨Sh.rowS T ws, .non, b⟩ :: G)) : Sep K Z0 H0 Z H (⟨Sh.rowS (ShL.cons (Sh.told (α := α)) T) (Sc.emb a :: ws), .non, (a, b)⟩ :: G) := (h.mkscal (a := a)).mkrow
theorem Sep.clsO {T : ShL β} {f : α → β} {v : V} {vs : List V} {a : α} {b : β} (e : b = f a) (h : Sep K Z0 H0 Z H (⟨Sh.rowS T vs, .non, b⟩ :: ⟨Sh.husk nm ns, v, vs⟩ :: G)) : Sep K Z0 H0 Z H (⟨(Sh.objK nm ns T).via f, v, a⟩ :: G) := Sep.clsObj e h.swap
theorem Sep.opnO {T : ShL β} {f : α → β} {v : V} {a : α} (h : Sep K Z0 H0 Z H (⟨(Sh.objK nm ns T).via f, v, a⟩ :: G)) :
    ∃ p vs, v = .ref p ∧ vs.length = ns.length ∧ Sep K Z0 H0 Z H (⟨Sh.rowS T vs, .non, f a⟩ :: ⟨Sh.husk nm ns, .ref p, vs⟩ :: G) := by
  obtain ⟨p, vs, e1, e2, h2⟩ := h.opnObj
  exact ⟨p, vs, e1, e2, h2.swap⟩
end
/-! ### new objects, methods -/
theorem Sep.newH {K : Fr} {Z H : Hp} {nm : Str} {C p dx : Addr} (zh : Same Z (delL H [p, dx])) (nk : PySem.W.nsIn K mainGlobals nm = some (some (.ref C))) (hp : H p = some (.ins C dx [])) (hd : H dx = some (.own p)) : Sep K Z (delL H [p, dx]) Z H [⟨Sh.husk nm [], .ref p, []⟩] := by
  have ne : dx ≠ p := fun e => by rw [e, hp] at hd; cases hd
  have st : Step Z (delL H [p, dx]) Z H := Step.lent (zh.trans delL_same)
  refine (Sep.base (K := K) st).pushO (ps := [p, dx]) ⟨⟨C, p, dx, nk, rfl, rfl, hp, hd, rfl⟩, ?_, fun q hq => zh.free (delL_in hq), fun q hq => delL_in hq⟩ fun _ _ _ _ e => by simp at e
  exact List.nodup_cons.mpr ⟨fun h => ne (List.mem_singleton.mp h).symm, by simp⟩
theorem new_zh {Z H : Hp} {x dx C : Addr} (zh : Same Z H) (nx : H x = none) (ndx : H dx = none) (ne : dx ≠ x) : Same Z (delL (upd (upd H dx (.own x)) x (.ins C dx [])) [x, dx]) := by rw [del_new nx ndx ne]; exact zh
theorem new_dx {H : Hp} {x dx C : Addr} (ne : dx ≠ x) : (upd (upd H dx (.own x)) x (.ins C dx [])) dx = some (.own x) := by rw [upd_ne ne, upd_same]
structure MetX (P : Program) (w : World) (K : PySem.W.Frag) (mg : Str → Option Value) (base : Heap) (CX : CXT) (k : Nat) (C : Addr) (m : Str) (ps : List Str) (sp : Sp) : Prop where
  ex : ∃ (f : Addr) (fd : FuncData), Cls K C ∧ Meth K C m f ∧ FnOk P w K mg base CX k f fd ps sp ∧ Binds K fd ps []
structure MakX (P : Program) (w : World) (K : PySem.W.Frag) (mg : Str → Option Value) (base : Heap) (CX : CXT) (k : Nat) (x : Str) (C : Addr) (ps : List Str) (sp : Sp) : Prop where
  ex : ∃ (f : Addr) (fd : FuncData), Mk K C f ∧ FnOk P w K mg base CX k f fd ps sp ∧ mg x = some (.ref C) ∧ Binds K fd ps []
section
variable {X : Cx} {CX : CXT} {k : Nat} {C : Addr} {x m : Str} {ps : List Str} {sp : Sp} {E : XK} {ta : TE} {t : TA} {o e : Expr} {es : List Expr} {p pos apos : Pos}
theorem pe_mtX {pl : Sem Bool} (c : MetX X.prog X.w X.K X.mg X.base CX k C m ps sp) (hr : Room k X.A) (hx : Passes CX X E) (he : PE X o ta) (ha : PA X (e :: es) t)
    (hst : starEach (e :: es) X.env = (false, eval e X.env) :: starEach es X.env := by rfl) (hpl : (backTo pos (starEach es X.env)).any (·.1) = false := by rfl)
    (ht : eval (.Call (.Attribute o m apos) (e :: es) [] pos) X.env = (do
      let ov ← eval o X.env
      standAt apos.atName
      let (f, first) ← holding [ov] (getMethod ov m pl)
      callWith pos f first (backTo pos (starEach (e :: es) X.env)) (backToKw pos (keywordEach [] X.env))) := by rfl) :
    PE X (.Call (.Attribute o m apos) (e :: es) [] pos) (tMeth C m sp [] E ta t) := by
  obtain ⟨f, fd, cl, hm, F, hb⟩ := c.ex
  exact pe_meth he cl hm F hr hb .nil hx ha hst hpl ht
theorem pe_mtX0 {pl : Sem Bool} (c : MetX X.prog X.w X.K X.mg X.base CX k C m ps sp) (hr : Room k X.A) (hx : Passes CX X E) (he : PE X o ta)
    (ht : eval (.Call (.Attribute o m apos) [] [] pos) X.env = (do
      let ov ← eval o X.env
      standAt apos.atName
      let (f, first) ← holding [ov] (getMethod ov m pl)
      callWith pos f first (backTo pos (starEach [] X.env)) (backToKw pos (keywordEach [] X.env))) := by rfl) :
    PE X (.Call (.Attribute o m apos) [] [] pos) (tMeth C m sp [] E ta tNil) := by
  obtain ⟨f, fd, cl, hm, F, hb⟩ := c.ex
  exact pe_meth0 he cl hm F hr hb .nil hx ht
theorem pe_mkX (c : MakX X.prog X.w X.K X.mg X.base CX k x C ps sp) (hr : Room (k + 1) X.A) (hx : Passes CX X E) (ha : PA X (e :: es) t) (hg : Gl X x := by rfl) (hdb : (x == ("__debug__" : Str)) = false := by decide) (he : starEach (e :: es) X.env = (false, eval e X.env) :: starEach es X.env := by rfl) (hpl : (backTo pos (starEach es X.env)).any (·.1) = false := by rfl) :
    PE X (.Call (.Name x p) (e :: es) [] pos) (tMake C sp [] E t) := by
  obtain ⟨f, fd, M, F, hm, hb⟩ := c.ex
  exact pe_make M F hr hg hm hb .nil hx ha hdb he hpl
end
end Cd

set_option Elab.async false
set_option linter.all false
set_option maxRecDepth 100000
set_option maxHeartbeats 4000000
namespace Cd
open PySem L2 PyProof.Rows
/-! ### a thing lent to be changed; with it comes a new thing -/
end Cd

set_option Elab.async false
set_option linter.all false
set_option maxRecDepth 100000
set_option maxHeartbeats 4000000
namespace Cd
open PySem L2 PyProof.Rows
/-! ### objects as told data -/
class PyRow (β : Type) where
  R : Fr → Hp → List V → β → Prop
  mono : ∀ {K : Fr} {Z Z' : Hp} {vs : List V} {b : β}, Same Z Z' → R K Z vs b → R K Z' vs b
instance : PyRow Unit := ⟨fun _ _ vs _ => vs = [], fun _ h => h⟩
instance {α β : Type} [Py α] [PyRow β] : PyRow (α × β) := ⟨fun K Z vs c => ∃ v ws, vs = v :: ws ∧ Py.R K Z v c.1 ∧ PyRow.R K Z ws c.2, fun s ⟨v, ws, e, h1, h2⟩ => ⟨v, ws, e, Py.mono s h1, PyRow.mono s h2⟩⟩
def objR {β : Type} [PyRow β] (nm : Str) (ns : List Str) (K : Fr) (Z : Hp) (v : V) (b : β) : Prop :=
  ∃ C p dx vs, PySem.W.nsIn K mainGlobals nm = some (some (.ref C)) ∧ v = .ref p ∧ Z p = some (.ins C dx (ns.zip vs)) ∧ Z dx = some (.own p) ∧ vs.length = ns.length ∧ PyRow.R K Z vs b
def pyObj {α β : Type} [PyRow β] (nm : Str) (ns : List Str) (f : α → β) : Py α :=
  ⟨fun K Z v a => objR nm ns K Z v (f a), fun s ⟨C, p, dx, vs, e0, e1, h1, h2, hl, h3⟩ => ⟨C, p, dx, vs, e0, e1, s _ _ h1, s _ _ h2, hl, PyRow.mono s h3⟩⟩
class DatL {β : Type} [PyRow β] (T : ShL β) : Prop where
  dat : ∀ {K : Fr} {Z : Hp} {vs : List V} {ps : List Addr} {b : β}, T.R K Z Z vs ps b → PyRow.R K Z vs b
instance : DatL ShL.nil := ⟨fun h => h.1⟩
instance {α β : Type} [Py α] [PyRow β] {S : Sh α} {T : ShL β} [Dat S] [DatL T] : DatL (ShL.cons S T) := ⟨fun ⟨v, ws, qs, rs, e1, _, h1, h2⟩ => ⟨v, ws, e1, Dat.dat h1, DatL.dat h2⟩⟩
theorem dat_obj {α β : Type} [PyRow β] {nm : Str} {ns : List Str} {T : ShL β} [DatL T] {f : α → β} : @Dat α (pyObj nm ns f) ((Sh.objK nm ns T).via f) :=
  @Dat.mk α (pyObj nm ns f) _ fun ⟨C, eC, p, dx, xs, qs, e1, e2, h1, h2, hl, h3⟩ => ⟨C, p, dx, xs, eC, e1, h1, h2, hl, DatL.dat h3⟩
class MutL {β : Type} (T : ShL β) : Prop where
  mt : ∀ {K : Fr} {Z H : Hp} {vs : List V} {ps : List Addr} {b : β}, T.R K Z H vs ps b → ∀ q ∈ ps, ∃ u, H q = some u ∧ MutO u
instance : MutL ShL.nil := ⟨fun ⟨_, e⟩ q hq => by rw [e] at hq; cases hq⟩
instance {α β : Type} {S : Sh α} {T : ShL β} [MutS S] [MutL T] : MutL (ShL.cons S T) := ⟨fun ⟨v, ws, qs, rs, _, e2, h1, h2⟩ q hq => by
  rw [e2] at hq
  exact (List.mem_append.mp hq).elim (MutS.mt h1 q) (MutL.mt h2 q)⟩
theorem mut_obj {α β : Type} {nm : Str} {ns : List Str} {T : ShL β} [MutL T] {f : α → β} : MutS ((Sh.objK nm ns T).via f) := ⟨fun ⟨C, eC, p, dx, xs, qs, e1, e2, h1, h2, hl, h3⟩ q hq => by
  rw [e2] at hq
  rcases List.mem_cons.mp hq with rfl | hq
  · exact ⟨_, h1, trivial⟩
  · rcases List.mem_cons.mp hq with rfl | hq
    · exact ⟨_, h2, trivial⟩
    · exact MutL.mt h3 q hq⟩
instance {α : Type} {S : Sh α} [MutS S] : MutS (Sh.opt S) := ⟨fun {K Z H v ps a} r => by
  cases a with
  | none => intro q hq; rw [r.2] at hq; cases hq
  | some a => exact MutS.mt (S := S) r⟩
section
variable {K : Fr} {Z H : Hp} {β : Type} [PyRow β] {nm : Str} {ns : List Str} {v : V} {b : β} {A : Addr}
theorem objR.at (h : objR nm ns K Z v b) (zh : Same Z H) (nk : PySem.W.nsIn K mainGlobals nm = some (some (.ref A))) : ∃ p dx vs, v = .ref p ∧ H p = some (.ins A dx (ns.zip vs)) ∧ vs.length = ns.length ∧ PyRow.R K Z vs b := by
  obtain ⟨C, p, dx, vs, e0, e1, h1, h2, hl, h3⟩ := h
  rw [nk] at e0
  cases e0
  exact ⟨p, dx, vs, e1, zh _ _ h1, hl, h3⟩
/-- its method looked up -/
theorem k_mthT {m : Str} {P : Prop} (zh : Same Z H) (h : objR nm ns K Z v b) (nk : PySem.W.nsIn K mainGlobals nm = some (some (.ref A))) (hm : m ∉ ns) (k : P) : ∃ a dx fs, v = .ref a ∧ H a = some (.ins A dx fs) ∧ fs.lookup m = none ∧ P := by
  obtain ⟨p, dx, vs, e1, h1, _, _⟩ := h.at zh nk
  exact ⟨p, dx, _, e1, h1, zip_none hm, k⟩
end
theorem some_val {α : Type} [Sc α] [Inhabited α] {K : Fr} {Z : Hp} {v : V} {o : Option α} (h : Py.R K Z v o) (g : o.isSome = true) : Sc.emb (o.getD default) = v := by
  cases o with
  | none => cases g
  | some a => exact (show v = Sc.emb a from h).symm
/-- the method of an opened object looked up -/
theorem Sep.mthH {K : Fr} {Z0 H0 Z H : Hp} {G : List Rt} {nm m : Str} {ns : List Str} {p A : Addr} {vs : List V} {P : Prop} (h : Sep K Z0 H0 Z H G) (i : Nat) (e : G[i]? = some ⟨Sh.husk nm ns, .ref p, vs⟩) (nk : PySem.W.nsIn K mainGlobals nm = some (some (.ref A))) (hm : m ∉ ns) (k : P) : ∃ a dx fs, V.ref p = .ref a ∧ H a = some (.ins A dx fs) ∧ fs.lookup m = none ∧ P := by
  obtain ⟨dx, h1, _, _⟩ := h.hus i e nk
  exact ⟨p, dx, _, rfl, h1, zip_none hm, k⟩
end Cd

set_option Elab.async false
set_option linter.all false
set_option maxRecDepth 100000
set_option maxHeartbeats 4000000
namespace Cd
open PySem L2 PyProof.Rows
/-! ### a list of one's own things, of which one is taken out and put in again -/
/-- the things but the one at n -/
def allX {α : Type} (S : Sh α) (K : Fr) (Z H : Hp) : Nat → List V → List Addr → List α → Prop
  | 0, vs, ps, [] => vs = [] ∧ ps = []
  | _ + 1, vs, ps, [] => vs = [] ∧ ps = []
  | 0, vs, ps, _ :: r => ∃ v ws, vs = v :: ws ∧ allR S K Z H ws ps r
  | n + 1, vs, ps, a :: r => ∃ v ws qs rs, vs = v :: ws ∧ ps = qs ++ rs ∧ S.R K Z H v qs a ∧ allX S K Z H n ws rs r
section
variable {α : Type} {S : Sh α} {K : Fr} {Z Z' H H' : Hp}
theorem allX_keep : ∀ {n : Nat} {l : List α} {vs : List V} {ps : List Addr}, Same Z Z' → (∀ q ∈ ps, H' q = H q) → allX S K Z H n vs ps l → allX S K Z' H' n vs ps l
  | 0, [], _, _, _, _, h => h
  | _ + 1, [], _, _, _, _, h => h
  | 0, _ :: _, _, _, s, h, ⟨v, ws, e, r⟩ => ⟨v, ws, e, allR_keep s h r⟩
  | n + 1, a :: r, _, _, s, h, ⟨v, ws, qs, rs, e1, e2, h1, h2⟩ => ⟨v, ws, qs, rs, e1, e2, S.keep s (fun q hq => h q (by rw [e2]; exact List.mem_append_left _ hq)) h1, allX_keep s (fun q hq => h q (by rw [e2]; exact List.mem_append_right _ hq)) h2⟩
theorem allX_stands : ∀ {n : Nat} {l : List α} {vs : List V} {ps : List Addr}, allX S K Z H n vs ps l → ∀ q ∈ ps, ∃ u, H q = some u
  | 0, [], _, _, ⟨_, e⟩, q, hq => by rw [e] at hq; cases hq
  | _ + 1, [], _, _, ⟨_, e⟩, q, hq => by rw [e] at hq; cases hq
  | 0, _ :: _, _, _, ⟨v, ws, e, r⟩, q, hq => allR_stands r q hq
  | n + 1, a :: r, _, _, ⟨v, ws, qs, rs, e1, e2, h1, h2⟩, q, hq => by
    rw [e2] at hq
    exact (List.mem_append.mp hq).elim (S.stands h1 q) (allX_stands h2 q)
theorem allX_len : ∀ {n : Nat} {l : List α} {vs : List V} {ps : List Addr}, allX S K Z H n vs ps l → vs.length = l.length
  | 0, [], _, _, ⟨e, _⟩ => by rw [e]; rfl
  | _ + 1, [], _, _, ⟨e, _⟩ => by rw [e]; rfl
  | 0, _ :: _, _, _, ⟨v, ws, e, r⟩ => by rw [e, List.length_cons, List.length_cons, allR_len r]
  | n + 1, a :: r, _, _, ⟨v, ws, qs, rs, e1, e2, h1, h2⟩ => by rw [e1, List.length_cons, List.length_cons, allX_len h2]
/-- taken out -/
theorem allX_take : ∀ {n : Nat} {l : List α} {vs : List V} {ps : List Addr} (hn : n < l.length), allR S K Z H vs ps l → ∃ v qs rs, vs[n]? = some v ∧ ps.Perm (qs ++ rs) ∧ S.R K Z H v qs l[n] ∧ allX S K Z H n vs rs l
  | 0, a :: r, _, _, _, ⟨v, ws, qs, rs, e1, e2, h1, h2⟩ => ⟨v, qs, rs, by rw [e1]; rfl, by rw [e2], h1, v, ws, e1, h2⟩
  | n + 1, a :: r, _, _, hn, ⟨v, ws, qs, rs, e1, e2, h1, h2⟩ => by
    obtain ⟨v2, q2, r2, g1, g2, g3, g4⟩ := allX_take (n := n) (by simpa using hn) h2
    refine ⟨v2, q2, qs ++ r2, by rw [e1]; simpa using g1, ?_, g3, v, ws, qs, r2, e1, rfl, h1, g4⟩
    rw [e2]
    refine (List.Perm.append_left qs g2).trans ?_
    rw [← List.append_assoc, ← List.append_assoc]
    exact List.Perm.append_right r2 List.perm_append_comm
/-- put in again -/
theorem allX_give : ∀ {n : Nat} {l : List α} {vs : List V} {rs qs : List Addr} {v : V} {b : α} (hn : n < l.length), allX S K Z H n vs rs l → vs[n]? = some v → S.R K Z H v qs b → ∃ ps, ps.Perm (qs ++ rs) ∧ allR S K Z H vs ps (l.set n b)
  | 0, a :: r, _, rs, qs, v, b, _, ⟨w, ws, e, h⟩, hv, hb => by
    rw [e] at hv
    obtain rfl : w = v := by simpa using hv
    exact ⟨qs ++ rs, .refl _, w, ws, qs, rs, e, rfl, hb, h⟩
  | n + 1, a :: r, _, _, qs, v, b, hn, ⟨w, ws, q1, r1, e1, e2, h1, h2⟩, hv, hb => by
    rw [e1] at hv
    obtain ⟨p2, g1, g2⟩ := allX_give (n := n) (by simpa using hn) h2 (by simpa using hv) hb
    refine ⟨q1 ++ p2, ?_, w, ws, q1, p2, e1, rfl, h1, g2⟩
    rw [e2]
    refine (List.Perm.append_left q1 g1).trans ?_
    rw [← List.append_assoc, ← List.append_assoc]
    exact List.Perm.append_right r1 List.perm_append_comm
end
/-- a list whose values are xs -/
def Sh.lstV {α : Type} (xs : List V) (S : Sh α) : Sh (List α) where
  R := fun K Z H v ps l => ∃ p qs, v = .ref p ∧ ps = p :: qs ∧ H p = some (.lst xs) ∧ allR S K Z H xs qs l
  keep := fun s h ⟨p, qs, e1, e2, h1, h2⟩ => ⟨p, qs, e1, e2, (h p (by rw [e2]; exact List.mem_cons_self)).trans h1, allR_keep s (fun q hq => h q (by rw [e2]; exact List.mem_cons_of_mem _ hq)) h2⟩
  stands := fun ⟨p, qs, e1, e2, h1, h2⟩ q hq => by
    rw [e2] at hq
    rcases List.mem_cons.mp hq with rfl | hq
    · exact ⟨_, h1⟩
    · exact allR_stands h2 q hq
/-- .. the thing at n taken out -/
def Sh.lstH {α : Type} (xs : List V) (n : Nat) (S : Sh α) : Sh (List α) where
  R := fun K Z H v ps l => ∃ p qs, v = .ref p ∧ ps = p :: qs ∧ H p = some (.lst xs) ∧ allX S K Z H n xs qs l
  keep := fun s h ⟨p, qs, e1, e2, h1, h2⟩ => ⟨p, qs, e1, e2, (h p (by rw [e2]; exact List.mem_cons_self)).trans h1, allX_keep s (fun q hq => h q (by rw [e2]; exact List.mem_cons_of_mem _ hq)) h2⟩
  stands := fun ⟨p, qs, e1, e2, h1, h2⟩ q hq => by
    rw [e2] at hq
    rcases List.mem_cons.mp hq with rfl | hq
    · exact ⟨_, h1⟩
    · exact allX_stands h2 q hq
instance {α : Type} {xs : List V} {S : Sh α} : IsRef (Sh.lstV xs S) := ⟨fun ⟨p, _, e, _⟩ => ⟨p, e⟩⟩
instance {α : Type} {xs : List V} {n : Nat} {S : Sh α} : IsRef (Sh.lstH xs n S) := ⟨fun ⟨p, _, e, _⟩ => ⟨p, e⟩⟩
section
variable {K : Fr} {Z0 H0 Z H : Hp} {G : List Rt} {α β γ : Type}
theorem OwnO.perm {S : Sh α} {T : Sh β} {v w : V} {ps qs : List Addr} {a : α} {b : β} (o : OwnO S K H0 Z H v ps a) (r : T.R K Z H w qs b) (e : qs.Perm ps) : OwnO T K H0 Z H w qs b :=
  ⟨r, e.nodup_iff.mpr o.nd, fun q hq => o.nz q (e.mem_iff.mp hq), fun q hq => o.n0 q (e.mem_iff.mp hq)⟩
/-- the head's shape is another -/
theorem Sep.head {S : Sh α} {T : Sh β} {v w : V} {a : α} {b : β} (h : Sep K Z0 H0 Z H (⟨S, v, a⟩ :: G)) (c : ∀ rs, S.R K Z H v rs a → ∃ ts, ts.Perm rs ∧ T.R K Z H w ts b) : Sep K Z0 H0 Z H (⟨T, w, b⟩ :: G) := by
  obtain ⟨st, f, h1, h2⟩ := h
  have o : OwnO S K H0 Z H v (f 0) a := h1 0 _ rfl
  obtain ⟨ts, p, r⟩ := c _ o.r
  refine ⟨st, fun i => match i with | 0 => ts | i + 1 => f (i + 1), fun i r er => ?_, fun i j r s ne er es => ?_⟩
  · match i with
    | 0 => simp only [List.getElem?_cons_zero, Option.some.injEq] at er; subst er; exact o.perm (by assumption) p
    | i + 1 => exact h1 (i + 1) r (by simpa using er)
  · have key : ∀ i r, G[i]? = some r → ∀ q ∈ f (i + 1), q ∉ ts := fun i r e q hq hm => h2 (i + 1) 0 r _ (by omega) (by simpa using e) rfl q hq (p.mem_iff.mp hm)
    match i, j with
    | 0, 0 => exact (ne rfl).elim
    | 0, j + 1 => exact fun q hq hq2 => key j s (by simpa using es) q hq2 hq
    | i + 1, 0 => exact key i r (by simpa using er)
    | i + 1, j + 1 => exact h2 (i + 1) (j + 1) r s ne (by simpa using er) (by simpa using es)
/-- two shapes as one, for a while -/
def Sh.two {α β : Type} (S : Sh α) (T : Sh β) (v w : V) : Sh (α × β) where
  R := fun K Z H _ ps c => ∃ qs rs, ps = qs ++ rs ∧ S.R K Z H v qs c.1 ∧ T.R K Z H w rs c.2
  keep := fun s h ⟨qs, rs, e, h1, h2⟩ => ⟨qs, rs, e, S.keep s (fun q hq => h q (by rw [e]; exact List.mem_append_left _ hq)) h1, T.keep s (fun q hq => h q (by rw [e]; exact List.mem_append_right _ hq)) h2⟩
  stands := fun ⟨qs, rs, e, h1, h2⟩ q hq => by rw [e] at hq; exact (List.mem_append.mp hq).elim (S.stands h1 q) (T.stands h2 q)
theorem Sep.split2P {S1 : Sh α} {S2 : Sh β} {S3 : Sh γ} {v1 v2 v3 : V} {a1 : α} {a2 : β} {a3 : γ} (h : Sep K Z0 H0 Z H (⟨S3, v3, a3⟩ :: G))
    (c : ∀ rs, S3.R K Z H v3 rs a3 → ∃ ps qs, rs.Perm (ps ++ qs) ∧ S1.R K Z H v1 ps a1 ∧ S2.R K Z H v2 qs a2) : Sep K Z0 H0 Z H (⟨S1, v1, a1⟩ :: ⟨S2, v2, a2⟩ :: G) :=
  (h.head (T := Sh.two S1 S2 v1 v2) (w := .non) (b := (a1, a2)) fun rs r => by
    obtain ⟨ps, qs, e, r1, r2⟩ := c rs r
    exact ⟨ps ++ qs, e.symm, ps, qs, rfl, r1, r2⟩).split2 (f := fun _ => []) rfl fun rs ⟨ps, qs, e, r1, r2⟩ => ⟨ps, qs, e, r1, r2⟩
theorem Sep.join2P {S1 : Sh α} {S2 : Sh β} {S3 : Sh γ} {v1 v2 v3 : V} {a1 : α} {a2 : β} {a3 : γ} (h : Sep K Z0 H0 Z H (⟨S1, v1, a1⟩ :: ⟨S2, v2, a2⟩ :: G))
    (c : ∀ ps qs, S1.R K Z H v1 ps a1 → S2.R K Z H v2 qs a2 → ∃ rs, rs.Perm (ps ++ qs) ∧ S3.R K Z H v3 rs a3) : Sep K Z0 H0 Z H (⟨S3, v3, a3⟩ :: G) :=
  (h.join2 (S3 := Sh.two S1 S2 v1 v2) (v3 := .non) (a3 := (a1, a2)) fun ps qs r1 r2 => ⟨ps, qs, rfl, r1, r2⟩).head fun rs ⟨ps, qs, e, r1, r2⟩ => by
    obtain ⟨ts, p, r⟩ := c ps qs r1 r2
    exact ⟨ts, e ▸ p, r⟩
variable {S : Sh α} {v : V} {l : List α}
/-- the list's values -/
theorem Sep.vals (h : Sep K Z0 H0 Z H (⟨Sh.lst (ShL.all S), v, l⟩ :: G)) : ∃ xs, xs.length = l.length ∧ Sep K Z0 H0 Z H (⟨Sh.lstV xs S, v, l⟩ :: G) := by
  obtain ⟨ps, o⟩ := h.nth 0 rfl
  obtain ⟨p, xs, qs, e1, e2, h1, h2⟩ := o.r
  have e1 : v = .ref p := e1
  subst e1
  have h2 : allR S K Z H xs qs l := h2
  refine ⟨xs, allR_len h2, h.head fun rs r => ⟨rs, .refl _, ?_⟩⟩
  obtain ⟨p', xs', qs', e1', e2', h1', h2'⟩ := r
  cases e1'
  have h1 : H p = some (.lst xs) := h1
  have h1' : H p = some (.lst xs') := h1'
  rw [h1] at h1'
  cases h1'
  exact ⟨p, qs', rfl, e2', h1, h2'⟩
theorem Sep.unvals {xs : List V} (h : Sep K Z0 H0 Z H (⟨Sh.lstV xs S, v, l⟩ :: G)) : Sep K Z0 H0 Z H (⟨Sh.lst (ShL.all S), v, l⟩ :: G) :=
  h.head fun rs ⟨p, qs, e1, e2, h1, h2⟩ => ⟨rs, .refl _, p, xs, qs, e1, e2, h1, h2⟩
theorem Sep.take {xs : List V} {n : Nat} (hn : n < l.length) (h : Sep K Z0 H0 Z H (⟨Sh.lstV xs S, v, l⟩ :: G)) : ∃ x, xs[n]? = some x ∧ Sep K Z0 H0 Z H (⟨S, x, l[n]⟩ :: ⟨Sh.lstH xs n S, v, l⟩ :: G) := by
  obtain ⟨ps, o⟩ := h.nth 0 rfl
  obtain ⟨p, qs, e1, e2, h1, h2⟩ := o.r
  obtain ⟨x, q1, r1, g1, g2, g3, g4⟩ := allX_take hn h2
  refine ⟨x, g1, h.split2P fun rs r => ?_⟩
  obtain ⟨p', qs', e1', e2', h1', h2'⟩ := r
  obtain ⟨x', q1', r1', g1', g2', g3', g4'⟩ := allX_take hn h2'
  rw [g1] at g1'
  cases g1'
  refine ⟨q1', p' :: r1', ?_, g3', p', r1', e1', rfl, h1', g4'⟩
  rw [e2']
  exact (List.Perm.cons p' g2').trans (List.perm_middle.symm)
theorem Sep.give {xs : List V} {n : Nat} {x : V} {b : α} (hn : n < l.length) (hx : xs[n]? = some x) (h : Sep K Z0 H0 Z H (⟨S, x, b⟩ :: ⟨Sh.lstH xs n S, v, l⟩ :: G)) : Sep K Z0 H0 Z H (⟨Sh.lstV xs S, v, l.set n b⟩ :: G) :=
  h.join2P fun ps qs r1 ⟨p, q1, e1, e2, h1, h2⟩ => by
    obtain ⟨ts, g1, g2⟩ := allX_give hn h2 hx r1
    exact ⟨p :: ts, by rw [e2]; exact (List.Perm.cons p g1).trans List.perm_middle.symm, p, ts, e1, rfl, h1, g2⟩
theorem Sep.atV {xs : List V} {p : Addr} (h : Sep K Z0 H0 Z H G) (i : Nat) (e : G[i]? = some ⟨Sh.lstV xs S, .ref p, l⟩) : H p = some (.lst xs) ∧ xs.length = l.length := by
  obtain ⟨ps, o⟩ := h.nth i e
  obtain ⟨p', qs, e1, e2, h1, h2⟩ := o.r
  cases e1
  exact ⟨h1, allR_len h2⟩
end
end Cd

set_option Elab.async false
set_option linter.all false
set_option maxRecDepth 100000
set_option maxHeartbeats 4000000
namespace Cd
open PySem L2 PyProof.Rows
/-! ### a walk over one's own things that changes them: by the index -/
structure SrcG {γ : Type} (J : It) (Kp : Hp → Prop) (L : List γ) (Y : γ → V → Hp → Hp → Prop) : Prop where
  go : ∀ i a H, L[i]? = some a → Kp H → J.go i H
  yld : ∀ i a H x H', L[i]? = some a → Kp H → J.yld i H x H' → Y a x H H'
  stop : ∀ H, Kp H → J.stop L.length H
section
variable {K : Fr} {Z H : Hp}
theorem k_ixV {p : Addr} {xs : List V} {i : Int} {x : V} {Q : VK} (h : H p = some (.lst xs)) (e : atI xs i = some x) (k : Q x H) : rIxL K (.ref p) (.int i) H Q := ⟨p, xs, i, x, rfl, rfl, SqL.of h, e, k⟩
end
/-- the index as a number of places -/
def jx (n : Nat) (i : Int) : Nat := (ixN n i).getD 0
theorem jx_lt {n : Nat} {i : Int} (h : inR n i) : jx n i < n ∧ ixN n i = some (jx n i) := by
  obtain ⟨j, e, hl⟩ := ixN_some h
  unfold jx
  rw [e]
  exact ⟨hl, rfl⟩
theorem getI_jx {α : Type} [Inhabited α] {l : List α} {i : Int} (h : inR l.length i) : getI l i = l[jx l.length i]'(jx_lt h).1 := by
  have e := atI_get h
  unfold atI at e
  rw [(jx_lt h).2] at e
  have e2 : l[jx l.length i]? = some (getI l i) := e
  rw [List.getElem?_eq_getElem (jx_lt h).1] at e2
  exact (Option.some.inj e2).symm
theorem setI_jx {α : Type} {l : List α} {i : Int} {a : α} (h : inR l.length i) : setI l i a = l.set (jx l.length i) a := by
  unfold setI
  rw [(jx_lt h).2]
section
variable {K : Fr} {Z0 H0 Z H : Hp} {G : List Rt} {α : Type} [Inhabited α] {S : Sh α} {v x : V} {l : List α} {xs : List V} {i : Int}
theorem Sep.takeI (hi : inR l.length i) (h : Sep K Z0 H0 Z H (⟨Sh.lstV xs S, v, l⟩ :: G)) : ∃ x, atI xs i = some x ∧ Sep K Z0 H0 Z H (⟨S, x, getI l i⟩ :: ⟨Sh.lstH xs (jx l.length i) S, v, l⟩ :: G) := by
  obtain ⟨ps, o⟩ := h.nth 0 rfl
  obtain ⟨p, qs, e1, e2, h1, h2⟩ := o.r
  have hl := allR_len h2
  obtain ⟨x, hx, h3⟩ := h.take (jx_lt hi).1
  refine ⟨x, ?_, by rw [getI_jx hi]; exact h3⟩
  unfold atI
  rw [hl, (jx_lt hi).2]
  exact hx
theorem Sep.takeX (hi : inR l.length i) (hx : atI xs i = some x) (h : Sep K Z0 H0 Z H (⟨Sh.lstV xs S, v, l⟩ :: G)) : Sep K Z0 H0 Z H (⟨S, x, getI l i⟩ :: ⟨Sh.lstH xs (jx l.length i) S, v, l⟩ :: G) := by
  obtain ⟨y, hy, h2⟩ := h.takeI hi
  rw [hx] at hy
  cases hy
  exact h2
theorem Sep.giveI {b : α} (hi : inR l.length i) (hx : atI xs i = some x) (h : Sep K Z0 H0 Z H (⟨S, x, b⟩ :: ⟨Sh.lstH xs (jx l.length i) S, v, l⟩ :: G)) : Sep K Z0 H0 Z H (⟨Sh.lstV xs S, v, setI l i b⟩ :: G) := by
  obtain ⟨ps, o⟩ := h.drop.nth 0 rfl
  obtain ⟨p, qs, e1, e2, h1, h2⟩ := o.r
  have hl := allX_len h2
  rw [setI_jx hi]
  refine h.give (jx_lt hi).1 ?_
  unfold atI at hx
  rw [hl, (jx_lt hi).2] at hx
  exact hx
end
end Cd

set_option Elab.async false
set_option linter.all false
set_option maxRecDepth 100000
set_option maxHeartbeats 4000000
namespace Cd
open PySem L2 PyProof.Rows
/-! ### enumerate(list, start=k) -/
section
variable {X : Cx} {elts : List Expr} {kk : Nat} {tpos : Pos}
def iEnumK (K : Fr) (ta tk : TA) : TI := fun σ H R => ta σ H fun vs H1 => tk σ H1 fun zs H2 => ∃ a k xs, vs = [V.ref a] ∧ zs = [V.int k] ∧ -(2 ^ 63) ≤ k ∧ k < 2 ^ 63 ∧ SqL K H2 a xs ∧
  R (Iteg k (fun H n => ∃ xs, SqL K H a xs ∧ xs.length = n) (fun i H v => ∀ xs, SqL K H a xs → xs[i]? = some v)) H2
end
theorem new_fitP {α : Type} {S : Sh α} {K : Fr} {Z H : Hp} {x dx C : Addr} {r : α} {P : Hp → Prop} (nx : H x = none) (ndx : H dx = none) (ne : dx ≠ x) (k : ∀ ps' Z' H', Step Z H Z' H' → OwnO S K H Z' H' (.ref x) ps' r → P H') :
    ∀ (Z' H' : Hp) (ps' : List Addr), Step Z (delL (upd (upd H dx (.own x)) x (.ins C dx [])) [x, dx]) Z' H' → OwnO S K (delL (upd (upd H dx (.own x)) x (.ins C dx [])) [x, dx]) Z' H' (.ref x) ps' r → (V.non = V.non ∧ P H') := by
  rw [del_new nx ndx ne]
  exact fun Z' H' ps' st o => ⟨rfl, k ps' Z' H' st o⟩
class ImmL {β : Type} (T : ShL β) : Prop where
  imm : ∀ {K : Fr} {Z Z' H : Hp} {vs : List V} {ps : List Addr} {b : β}, (∀ b u, Z b = some u → ¬ MutO u → Z' b = some u) → T.R K Z H vs ps b → T.R K Z' H vs ps b
instance : ImmL ShL.nil := ⟨fun _ h => h⟩
instance {α β : Type} {S : Sh α} {T : ShL β} [ImmS S] [ImmL T] : ImmL (ShL.cons S T) := ⟨fun s ⟨v, ws, qs, rs, e1, e2, h1, h2⟩ => ⟨v, ws, qs, rs, e1, e2, ImmS.imm s h1, ImmL.imm s h2⟩⟩
theorem imm_obj {α β : Type} {nm : Str} {ns : List Str} {T : ShL β} [ImmL T] {f : α → β} : ImmS ((Sh.objK nm ns T).via f) := ⟨fun s ⟨C, eC, p, dx, xs, qs, e1, e2, h1, h2, hl, h3⟩ => ⟨C, eC, p, dx, xs, qs, e1, e2, h1, h2, hl, ImmL.imm s h3⟩⟩
end Cd

set_option Elab.async false
set_option linter.all false
set_option maxRecDepth 100000
set_option maxHeartbeats 4000000
namespace Cd
open PySem L2
/-! ### fields, numbers, lines of a counter: plain -/
/-! the figures of a number, k of them -/
def dg : Nat → Nat → List Nat
  | 0, _ => []
  | k + 1, n => dg k (n / 10) ++ [48 + n % 10]
def fieldOk (f : Int × Int) : Prop := 1 ≤ f.1 ∧ f.1 ≤ f.2 ∧ f.2 ≤ 36
def fieldsOk (l : List (Int × Int)) : Prop := ∀ f ∈ l, fieldOk f
def partT (z : Str) (f : Int × Int) : Str := cutS z (some (f.1 - 1)) (some f.2)
def digV (c : Nat) : Int := if 48 ≤ c ∧ c ≤ 57 then ((c - 48 : Nat) : Int) else 0
def valN (l : List Nat) : Int := l.foldl (fun t c => 10 * t + digV c) 0
def numT (z : Str) (f : Int × Int) : Int := valN (codes (partT z f))
theorem part_codes {z : Str} {f : Int × Int} (h : fieldOk f) : codes (partT z f) = ((codes z).take f.2.toNat).drop (f.1 - 1).toNat := by
  unfold partT
  rw [codes_cut, cutL_some (by have := h.1; omega) (by have := h.1; have := h.2.1; omega)]
/-! the card laid by a board -/
def boardD (z : Str) (bd : List (Int × Int)) : List (Int × Str) := bd.foldl (fun d w => dPut d w.2 (chS z (w.1 - 1))) []
def sAt (z : Str) (bd : List (Int × Int)) (c : Int) : Str := (dGet (boardD z bd) c).getD " "
def layT (z : Str) (bd : List (Int × Int)) : Str := Txt.join "" ((rangeL 1 36).map (sAt z bd))
/-! ### rows of wheels, by their totals -/
def pw (F : Int) : Int := 10 ^ F.toNat
def stepW (full : Int) (s : List Int × List (Int × Bool)) (q : Int × Int) : List Int × List (Int × Bool) :=
  (setI s.1 q.1 ((getI s.1 q.1 + q.2) % full), if full ≤ getI s.1 q.1 + q.2 then dPut s.2 q.1 true else s.2)
def raiseW (full : Int) (row : List Int) (vals : List Int) (ev : List (Int × Bool)) : List Int × List (Int × Bool) := ((rangeL 0 row.length).zip vals).foldl (stepW full) (row, ev)
/-- the list of those run over: which they may be -/
def EvOk (n : Nat) (ev : List (Int × Bool)) : Prop := (ev.map (·.1)).Nodup ∧ ∀ x ∈ ev, 0 ≤ x.1 ∧ x.1 < (n : Int) ∧ x.2 = true
theorem EvOk.len {n : Nat} {ev : List (Int × Bool)} (h : EvOk n ev) : ev.length ≤ n := by
  have e : (ev.map (·.1)).length ≤ n := by
    have := nodup_bound n ((ev.map (·.1)).map (· + 1)) (by
      rw [List.nodup_iff_pairwise_ne, List.pairwise_map]
      exact (List.nodup_iff_pairwise_ne.mp h.1).imp fun q z => q (by omega)) (fun x hx => by
      obtain ⟨y, hy, rfl⟩ := List.mem_map.mp hx
      obtain ⟨z, hz, rfl⟩ := List.mem_map.mp hy
      have := h.2 z hz
      omega)
    rwa [List.length_map] at this
  rwa [List.length_map] at e
theorem EvOk.nil (n : Nat) : EvOk n [] := ⟨List.nodup_nil, fun x h => nomatch h⟩
theorem EvOk.put {n : Nat} {ev : List (Int × Bool)} {k : Int} (h : EvOk n ev) (hk : 0 ≤ k ∧ k < (n : Int)) : EvOk n (dPut ev k true) := by
  refine ⟨dPut_nodup h.1, fun x hx => ?_⟩
  unfold dPut at hx
  split at hx
  · obtain ⟨y, hy, rfl⟩ := List.mem_map.mp hx
    have := h.2 y hy
    show 0 ≤ (if y.1 = k then (y.1, true) else y).1 ∧ (if y.1 = k then (y.1, true) else y).1 < (n : Int) ∧ (if y.1 = k then (y.1, true) else y).2 = true
    split
    · exact ⟨this.1, this.2.1, rfl⟩
    · exact this
  · rcases List.mem_append.mp hx with hx | hx
    · exact h.2 x hx
    · rw [List.mem_singleton] at hx; subst hx; exact ⟨hk.1, hk.2, rfl⟩
/-! what a raise comes to, place by place -/
def addM (full : Int) (row vals : List Int) : List Int := List.zipWith (fun t v => (t + v) % full) row vals
/-! ### a counter, plainly -/
structure CS where
  rows : List (List Int)
  ever : List (Int × Bool)
  last : Option Str
def CS.row (s : CS) (k : Int) : List Int := getI s.rows k
def raiseS (full : Int) (k : Int) (vals : List Int) (s : CS) : CS := ⟨setI s.rows k (raiseW full (s.row k) vals s.ever).1, (raiseW full (s.row k) vals s.ever).2, s.last⟩
def lineS (bs : List (Int × Int)) (F : Int) (k : Int) (s : CS) : Str :=
  Txt.join " " ([Txt.mul "*" ((bs.length : Int) + 1 - k)] ++ (cutL bs none (some k)).map (partT (s.last.getD default)) ++ (s.row k).map fun t => Txt.zfill (toStr t) F)
def zeroS (k : Int) (s : CS) : CS := ⟨setI s.rows k (List.replicate (s.row k).length 0), s.ever, s.last⟩
def closeS (full : Int) (k : Int) (s : CS) : CS := zeroS k (if 0 < k then raiseS full (k - 1) (s.row k) s else s)
def totS (bs : List (Int × Int)) (F : Int) (ks : List Int) (s : List Str × CS) : List Str × CS := ks.foldl (fun s k => (s.1 ++ [lineS bs F k s.2], closeS (pw F) k s.2)) s
def downL (n : Int) (o : Int) : List Int := rangeC n (-(1 : Int)) (n - (o - 1)).toNat
def brokenS (bs : List (Int × Int)) (z w : Str) : Int := match (enumL 1 bs).find? fun q => !decide (partT z q.2 = partT w q.2) with
  | some q => q.1
  | none => (bs.length : Int) + 1
def lineC (z : Str) (bd : List (Int × Int)) : Str := (cutS z (some 36) none ++ " ") ++ layT z bd
def headS (bs : List (Int × Int)) (F : Int) (s : CS) (z : Str) : List Str × CS := match s.last with
  | none => ([], s)
  | some l => totS bs F (downL (bs.length : Int) (brokenS bs z l)) ([], s)
def feedS (bs ss : List (Int × Int)) (F : Int) (bd : List (Int × Int)) (s : CS) (z : Str) : List Str × CS :=
  let t := headS bs F s z
  let u := raiseS (pw F) (bs.length : Int) (ss.map (numT z)) t.2
  (t.1 ++ [lineC z bd], ⟨u.rows, u.ever, some z⟩)
def finS (bs : List (Int × Int)) (F : Int) (s : CS) : List Str × CS := match s.last with
  | none => ([lineS bs F 0 s], closeS (pw F) 0 s)
  | some _ => totS bs F (downL (bs.length : Int) 0) ([], s)
/-- what a counter may be -/
structure CSOk (bs : List (Int × Int)) (n : Nat) (F : Int) (s : CS) : Prop where
  ln : s.rows.length = bs.length + 1
  rw : ∀ r ∈ s.rows, r.length = n ∧ ∀ t ∈ r, 0 ≤ t ∧ t < pw F
  ev : EvOk n s.ever
  lz : ∀ z, s.last = some z → z.length = 40
def start (bs ss : List (Int × Int)) : CS := ⟨List.replicate (bs.length + 1) (List.replicate ss.length 0), [], none⟩
end Cd

set_option Elab.async false
set_option linter.all false
set_option maxRecDepth 100000
set_option maxHeartbeats 4000000
/-! ### refusals that bear something; what is inherited from a class -/
namespace L2
open PySem PySem.Spec PyProof.Rows PySem.HandSPX
def oexB (K : PySem.W.Frag) (C : Addr) : Bool := match K.lookup C with
  | some ⟨.type "type", _, .cls cd, sl⟩ => (match cd.mro, sl.toList with
    | .ref C' :: bm, [_, _, _, _, some (.builtin n), _] => C' == C && n == "ValueError.__new__" && !cd.hasDel && cd.hasDict && refsVE bm
    | _, _ => false)
  | _ => false
theorem oexB_ok {K : PySem.W.Frag} {C : Addr} (q : oexB K C = true) : ∃ nm q N bs bm sn sub ab col dd k0 k1 k2 k3 k5, K.lookup C = some (excClassObj nm q C N bs bm true sn sub ab col dd k0 k1 k2 k3 k5 "ValueError.__new__") ∧ PySem.HandSPX.refsVE bm = true := by
  unfold oexB at q
  split at q
  · rename_i dd cd sl ho
    split at q
    · rename_i C' bm k0 k1 k2 k3 n k5 hm hs
      simp only [Bool.and_eq_true, beq_iff_eq, Bool.not_eq_true'] at q
      obtain ⟨⟨⟨⟨rfl, rfl⟩, hdel⟩, hdct⟩, ht⟩ := q
      obtain ⟨nm, bs, mro, ns, qn, hd, sn, sub, ab, col, del⟩ := cd
      dsimp only at hm hdel hdct
      subst hm hdel hdct
      have hsl : sl = #[k0, k1, k2, k3, some (.builtin "ValueError.__new__"), k5] := by
        obtain ⟨l⟩ := sl
        simp only at hs
        rw [hs]
      subst hsl
      exact ⟨nm, qn, ns, bs, bm, sn, sub, ab, col, dd, k0, k1, k2, k3, k5, ho, ht⟩
    · cases q
  · cases q
/-- a class whose attributes are read plainly -/
structure CRd (K : PySem.W.Frag) (A : Addr) : Prop where
  rd : PySem.W.readsIn K A (.type "type") = true
  ga : PySem.W.specialIn K (.ref A) "__getattribute__" = some (some (.builtin "type.__getattribute__"))
section
variable {X : Cx} {o e : Expr} {es : List Expr} {to te : TE} {ta : TA} {f x : Str} {A : Addr} {p p' p1 p2 pos : Pos}
theorem pe_cinit {pl : Sem Bool} (hg : Gl X x) (hm : X.mg x = some (.ref A)) (r : CRd X.K A) (at_ : PySem.W.findCls X.K (.ref A) (.type "type") "__init__" = some (.val (.builtin "ValueError.__init__"))) (ha : PA X (e :: es) ta) (hdb : (x == ("__debug__" : Str)) = false := by decide)
    (hc : eval (.Call (.Attribute (.Name x p1) "__init__" p2) (e :: es) [] pos) X.env = (do
      let ov ← eval (.Name x p1) X.env
      standAt p2.atName
      let (f, first) ← holding [ov] (getMethod ov "__init__" pl)
      callWith pos f first (backTo pos (starEach (e :: es) X.env)) (backToKw pos (keywordEach [] X.env))) := by rfl)
    (he : starEach (e :: es) X.env = (false, eval e X.env) :: starEach es X.env := by rfl) (hpl : (backTo pos (starEach es X.env)).any (·.1) = false := by rfl) :
    PE X (.Call (.Attribute (.Name x p1) "__init__" p2) (e :: es) [] pos) (tVeI X.K ta) := by
  refine ⟨fun pins s σ H Q I h => ?_⟩
  refine PySem.W.methodCall_KW (ld_glob I hg hm ?_ hdb) hc
  refine PySem.W.method_cls I.kIn r.ga (PySem.W.cls_value I.kIn r.rd at_ (by decide +kernel) ?_)
  show wpAny _ _ (callWith _ (Value.builtin "ValueError.__init__") [] (backTo pos (starEach (e :: es) X.env)) []) _ _ _
  refine PyProof.Rows.callWith_method1 (thn (ha.run pos pins _ σ H _ (I.tok _) h) fun us s1 ⟨vs, H1, I1, r1, a, C, ws, ev, hl, T, ea, q⟩ => ?_) he hpl
  subst ev
  cases r1 with
  | @cons _ u0 _ ur ra rw' =>
    obtain rfl : u0 = Value.ref a := ra
    have hlen : ur.length ≤ sizeLine := by
      rw [← Paired.length rw', sizeLine_eq]
      omega
    exact oinit_ok T I1 ea hlen fun s' J => ⟨.non, H1, J, rfl, q⟩
end
end L2
namespace Cd
open PySem L2 PyProof.Rows
structure MkE (P : Program) (w : World) (K : PySem.W.Frag) (mg : Str → Option Value) (base : Heap) (k : Nat) (x : Str) (C : Addr) (ps : List Str) (sp : Sp) : Prop where
  ex : ∃ (f : Addr) (fd : FuncData), OexC K C ∧ PySem.W.findIn K (.ref C) "__init__" = some (some (.ref f)) ∧ PySem.W.typeIn K (.ref f) = some (.type "function") ∧ FnOk P w K mg base CX0 k f fd ps sp ∧ Binds K fd ps [] ∧ mg x = some (.ref C)
section
variable {X : Cx} {e : Expr} {es : List Expr} {ta : TA} {x : Str} {C : Addr} {k : Nat} {ps : List Str} {sp : Sp} {p pos : Pos}
end
/-- NoOrder(d, p) -/
def sp_NoOrder (K : Fr) : Sp := fun vs H Q _ => ∃ (a C : Addr) (d p : Int), vs = [.ref a, .int d, .int p] ∧ OexC K C ∧ PySem.W.findIn K (.ref C) "deck" = some none ∧ PySem.W.findIn K (.ref C) "place" = some none ∧ H a = some (exo a C none) ∧
  ∀ dx, H dx = none → dx ≠ a → Q .non (upd (upd (upd H dx (exd dx [("deck", .int d)])) a (exo a C (some dx))) dx (exd dx [("place", .int p), ("deck", .int d)]))
def sp_Meet (K : Fr) : Sp := fun vs H Q _ => ∃ (a C : Addr) (u v : V), vs = [.ref a, u, v] ∧ OexC K C ∧ PySem.W.findIn K (.ref C) "one" = some none ∧ PySem.W.findIn K (.ref C) "other" = some none ∧ H a = some (exo a C none) ∧
  ∀ dx, H dx = none → dx ≠ a → Q .non (upd (upd (upd H dx (exd dx [("one", u)])) a (exo a C (some dx))) dx (exd dx [("other", v), ("one", u)]))
theorem xd_heap {H : Hp} {a dx : Addr} {o1 o2 o3 o4 o5 : HO} (na : H a = none) (ne : dx ≠ a) : upd (del (upd (upd (upd (upd H a o1) dx o2) a o3) dx o4) a) dx o5 = upd H dx o5 := by
  funext b
  by_cases h1 : b = dx
  · subst h1; rw [upd_same, upd_same]
  · rw [upd_ne h1, upd_ne h1]
    by_cases h2 : b = a
    · subst h2; rw [del_same, na]
    · rw [del_ne h2, upd_ne h1, upd_ne h2, upd_ne h1, upd_ne h2]
section
variable {K : Fr} {Z H : Hp} {C : Addr} {Q : XK}
theorem raise_noorder {d p : Int} (zh : Same Z H) (T : OexC K C) (n1 : PySem.W.findIn K (.ref C) "deck" = some none) (n2 : PySem.W.findIn K (.ref C) "place" = some none)
    (k : ∀ dx Z' H', Step Z H Z' H' → Z' dx = some (.xd [("place", .int p), ("deck", .int d)]) → Q (.ref C) (some dx) H') : ∀ a, H a = none → sp_NoOrder K (.ref a :: ([.int d, .int p] ++ [])) (upd H a (exo a C none))
      (fun v H2 => v = .non ∧ ∃ (d : Addr) (fs : List (Str × V)), H2 a = some (exo a C (some d)) ∧ H2 d = some (exd d fs) ∧ H d = none ∧ Q (.ref C) (some d) (upd (del H2 a) d (.xd fs))) (fun _ _ _ => False) := fun a na =>
  ⟨a, C, d, p, rfl, T, n1, n2, upd_same, fun dx hdx ne => by
    rw [upd_ne ne] at hdx
    refine ⟨rfl, dx, _, by rw [upd_ne ne.symm, upd_same], upd_same, hdx, ?_⟩
    rw [xd_heap na ne]
    exact k dx _ _ (Step.new zh hdx) upd_same⟩
end
/-! ### a value of which nothing is asked -/
structure AnyV where
deriving Inhabited
instance : Py AnyV := ⟨fun _ _ _ _ => True, fun _ _ => trivial⟩
theorem xinit_done {p : Prop} (h : p) : p := h
/-! ### what a refusal bears, told -/
structure Xd where
  fs : List (Str × V)
deriving Inhabited
instance : Py Xd where
  R K Z v a := ∃ p, v = .ref p ∧ Z p = some (.xd a.fs)
  mono := fun s ⟨p, e, h⟩ => ⟨p, e, s _ _ h⟩
theorem xd_at {K : Fr} {Z H : Hp} {p : Addr} {a : Xd} (zh : Same Z H) (h : Py.R K Z (.ref p) a) : H p = some (.xd a.fs) := by
  obtain ⟨q, e, h⟩ := h
  cases e
  exact zh _ _ h
def rIsEx (K : Fr) (cls : Value) (d : Option Addr) (a : Addr) : List V → Hp → VK → Prop := fun xs H Q => ∃ (D : Addr) (c : V) (cv : Value) (b : Bool), cls = .ref D ∧ (d = none ∨ ∃ dd fs, d = some dd ∧ H dd = some (.xd fs)) ∧ ExcC K D ∧ xs = [.ref a, c] ∧ (∀ u, RelV c u → u = cv) ∧ PySem.W.kitOne K (.ref D) cv = some b ∧ Q (.bl b) H
theorem k_isEx {K : Fr} {D a : Addr} {d : Option Addr} {c : V} {cv : Value} {b : Bool} {H : Hp} {Q : VK} (hd : d = none ∨ ∃ dd fs, d = some dd ∧ H dd = some (.xd fs)) (C : ExcC K D) (hc : ∀ u, RelV c u → u = cv) (hk : PySem.W.kitOne K (.ref D) cv = some b) (k : Q (.bl b) H) : rIsEx K (.ref D) d a [.ref a, c] H Q := ⟨D, c, cv, b, rfl, hd, C, rfl, hc, hk, k⟩
theorem isx_run {X : Cx} {a D : Addr} {oe : Obj} {d : Option Addr} {pins : List Pn} {σ : L2.St} {H : Hp} {s : Shared} {c : Value} {b : Bool} {Q : VK} (C : ExcC X.K D) (I : Inv X pins σ H s) (hget : s.heap.get? a = some oe) (hz : Zc (.ref D) d oe) (hf : ∃ vs, oe.data = .fields vs)
    (hd : d = none ∨ ∃ dd fs, d = some dd ∧ H dd = some (.xd fs)) (e : PySem.W.kitOne X.K (.ref D) c = some b) (q : Q (.bl b) H) : wpAny (model X.prog X.w) X.A (call (.builtin "isinstance") [.ref a, c]) (EP X pins σ Q) X.xe s := by
  obtain ⟨vs, hv⟩ := hf
  have J : ∃ od, PySem.W.InstAt s.heap a oe D od := by
    rcases hd with rfl | ⟨dd, fs, rfl, hx⟩
    · refine ⟨none, hget, hz.1, by unfold PySem.W.notCls; rw [hv] <;> rfl, by rw [hz.2]; trivial⟩
    · have hx : ObjOk X.prog X.w H s.heap dd (.xd fs) := I.hok dd _ hx
      obtain ⟨mA, hns, hr⟩ := hx
      obtain ⟨od, ho, hl⟩ := lookIn_ns hns
      exact ⟨some od, hget, hz.1, by unfold PySem.W.notCls; rw [hv] <;> rfl, by rw [hz.2]; exact ho⟩
  obtain ⟨od, J⟩ := J
  have hcl : (PySem.W.clsIn X.K D).isSome = true := by obtain ⟨cd, hc, _⟩ := PySem.W.any_some C.hd; rw [hc]; rfl
  exact PySem.W.kia_one (PySem.W.kitx_exc hcl C.hg C.hk C.hs C.ha C.hn C.ht C.hm) I.kIn J e (fun z => nomatch z) fun tk => ⟨.bl b, H, I.kept (t' := tk) fun _ _ z => z, rfl, q⟩
theorem call_isPx {X : Cx} {K : Fr} (eK : X.K = K) {a D : Addr} {d : Option Addr} {p : Pn} (hp : p ∈ X.pn) (h : Rf (.ref D) d a p) : CallR X (.builtin "isinstance") (rIsEx K (.ref D) d a) := by
  subst eK
  obtain ⟨rfl, hz, hf⟩ := h
  intro pins s σ H xs us Q I r h
  obtain ⟨D', c, cv, b, eD, hd, C, rfl, hcv, e, q⟩ := h
  cases eD
  cases r with
  | cons rx rr =>
    cases rr with
    | cons rt rr =>
      cases rr
      cases rx
      obtain rfl := hcv _ rt
      exact isx_run C I (I.pin p (List.mem_append_left _ hp)).1 hz hf hd e q
theorem Good.trW {α β : Type} {m : R α} {k : α → R β} {f : Er → R β} {V : β → Prop} {E : Er → Prop} (h : Good (m.tr k f) V E) : ∃ (W' : α → Prop) (E' : Er → Prop), Good m W' E' ∧ (∀ a, W' a → Good (k a) V E) ∧ ∀ e, E' e → Good (f e) V E := ⟨_, _, Good.tr h, fun _ h => h, fun _ h => h⟩
end Cd

set_option Elab.async false
set_option linter.all false
set_option maxRecDepth 100000
set_option maxHeartbeats 4000000
namespace L2
open PySem PySem.Spec PyProof.Rows PySem.HandSPX
/-- what is asked of a refusal's class object -/
theorem oexB_of {K : PySem.W.Frag} {C : Addr} {o : Obj} (h : K.lookup C = some o) (q : oexO C o = true) : oexB K C = true := by
  unfold oexB
  rw [h]
  exact q
end L2
namespace Cd
open PySem L2 PyProof.Rows
/-! ### < of told data of one shape -/
class AlkD (α : Type) [Py α] [DecidableEq α] [PyD α] : Prop where
  alike : ∀ a b : α, PySem.W.alike (PyD.d a) (PyD.d b) = true
  nn : ∀ a : α, PyD.d a ≠ .none
instance : AlkD Int := ⟨fun a b => SrtD.alike a b, fun a => by simp [PyD.d]⟩
instance : AlkD Str := ⟨fun a b => SrtD.alike a b, fun a => by simp [PyD.d]⟩
instance {α : Type} [Py α] [DecidableEq α] [PyD α] [AlkD α] : AlkD (List α) := ⟨fun a b => by
  show PySem.W.alikeAll (a.map PyD.d) (b.map PyD.d) = true
  induction a generalizing b with
  | nil => simp [PySem.W.alikeAll]
  | cons x r ih => cases b with
    | nil => simp [PySem.W.alikeAll]
    | cons y s => simp only [List.map_cons, PySem.W.alikeAll, AlkD.alike, ih, Bool.and_self], fun a => by simp [PyD.d]⟩
instance {α β : Type} [Py α] [DecidableEq α] [PyD α] [AlkD α] [Py β] [DecidableEq β] [PyD β] [AlkD β] : AlkD (α × β) := ⟨fun a b => by
  show PySem.W.alikeAll [PyD.d a.1, PyD.d a.2] [PyD.d b.1, PyD.d b.2] = true
  simp [PySem.W.alikeAll, AlkD.alike], fun a => by simp [PyD.d]⟩
/-- less, as data -/
def ltD {α : Type} [Py α] [DecidableEq α] [PyD α] (a b : α) : Bool := PySem.W.dataLt (PyD.d a) (PyD.d b)
def rLtC (K : Fr) : R2 := fun x y H Q => ∃ d e, Dp K H x d ∧ Dp K H y e ∧ PySem.W.alike d e = true ∧ d ≠ .none ∧ d.depth ≤ 64 ∧ Q (.bl (PySem.W.dataLt d e)) H
end Cd
/-! ### list(range(a, b, -1)) -/
namespace L2
open PySem PySem.Spec PyProof.Rows
def rcV (i c : Int) (n : Nat) : List V := (List.range n).map fun k => V.int (i + (k : Nat) * c)
def rLst3 (i c : Int) (n : Nat) (H : Hp) (Q : VK) : Prop := n ≤ 2 ^ 24 ∧ ∀ q, H q = none → Q (.ref q) (upd H q (.lst (rcV i c n)))
def tLstRg3 (ta : TA) : TE := fun σ H Q => ta σ H fun vs H1 => ∃ (i j c : Int) (n : Nat), vs = [.int i, .int j, .int c] ∧ RgC i j c n ∧ rLst3 i c n H1 Q
end L2
namespace Cd
open PySem L2 PyProof.Rows
end Cd

set_option Elab.async false
set_option linter.all false
set_option maxRecDepth 100000
set_option maxHeartbeats 4000000
namespace Cd
open PySem L2 PyProof.Rows
/-! ### a list of one's own things, of which some are taken out -/
def allP {α : Type} (S : Sh α) (K : Fr) (Z H : Hp) : (Nat → Bool) → List V → List Addr → List α → Prop
  | _, vs, ps, [] => vs = [] ∧ ps = []
  | sk, vs, ps, a :: r => ∃ v ws qs rs, vs = v :: ws ∧ ps = qs ++ rs ∧ (if sk 0 = true then qs = [] else S.R K Z H v qs a) ∧ allP S K Z H (fun i => sk (i + 1)) ws rs r
section
variable {α : Type} {S : Sh α} {K : Fr} {Z Z' H H' : Hp}
theorem allP_keep : ∀ {l : List α} {sk : Nat → Bool} {vs : List V} {ps : List Addr}, Same Z Z' → (∀ q ∈ ps, H' q = H q) → allP S K Z H sk vs ps l → allP S K Z' H' sk vs ps l
  | [], _, _, _, _, _, h => h
  | a :: r, sk, _, _, s, h, ⟨v, ws, qs, rs, e1, e2, h1, h2⟩ => by
    refine ⟨v, ws, qs, rs, e1, e2, ?_, allP_keep s (fun q hq => h q (by rw [e2]; exact List.mem_append_right _ hq)) h2⟩
    split
    · rename_i c; rw [if_pos c] at h1; exact h1
    · rename_i c; rw [if_neg c] at h1; exact S.keep s (fun q hq => h q (by rw [e2]; exact List.mem_append_left _ hq)) h1
theorem allP_stands : ∀ {l : List α} {sk : Nat → Bool} {vs : List V} {ps : List Addr}, allP S K Z H sk vs ps l → ∀ q ∈ ps, ∃ u, H q = some u
  | [], _, _, _, ⟨_, e⟩, q, hq => by rw [e] at hq; cases hq
  | a :: r, sk, _, _, ⟨v, ws, qs, rs, e1, e2, h1, h2⟩, q, hq => by
    rw [e2] at hq
    rcases List.mem_append.mp hq with hq | hq
    · by_cases c : sk 0 = true
      · rw [if_pos c] at h1; rw [h1] at hq; cases hq
      · rw [if_neg c] at h1; exact S.stands h1 q hq
    · exact allP_stands h2 q hq
end
def Sh.lstP {α : Type} (xs : List V) (sk : Nat → Bool) (S : Sh α) : Sh (List α) where
  R := fun K Z H v ps l => ∃ p qs, v = .ref p ∧ ps = p :: qs ∧ H p = some (.lst xs) ∧ allP S K Z H sk xs qs l
  keep := fun s h ⟨p, qs, e1, e2, h1, h2⟩ => ⟨p, qs, e1, e2, (h p (by rw [e2]; exact List.mem_cons_self)).trans h1, allP_keep s (fun q hq => h q (by rw [e2]; exact List.mem_cons_of_mem _ hq)) h2⟩
  stands := fun ⟨p, qs, e1, e2, h1, h2⟩ q hq => by
    rw [e2] at hq
    rcases List.mem_cons.mp hq with rfl | hq
    · exact ⟨_, h1⟩
    · exact allP_stands h2 q hq
instance {α : Type} {xs : List V} {sk : Nat → Bool} {S : Sh α} : IsRef (Sh.lstP xs sk S) := ⟨fun ⟨p, _, e, _⟩ => ⟨p, e⟩⟩
section
variable {K : Fr} {Z0 H0 Z H : Hp} {G : List Rt} {α β γ : Type} {S : Sh α} {v : V} {l : List α} {xs : List V} {sk : Nat → Bool}
instance {α β : Type} {S : Sh α} {T : Sh β} {v w : V} [ImmS S] [ImmS T] : ImmS (Sh.two S T v w) := ⟨fun s ⟨qs, rs, e, h1, h2⟩ => ⟨qs, rs, e, ImmS.imm s h1, ImmS.imm s h2⟩⟩
end
end Cd
namespace Cd
open PySem L2
/-! ### a comprehension's own names are taken away again -/
end Cd

set_option Elab.async false
set_option linter.all false
set_option maxRecDepth 100000
set_option maxHeartbeats 4000000
namespace Cd
open PySem L2 PyProof.Rows
/-! ### told data of any kind -/
mutual
inductive Dyr (K : Fr) (Z : Hp) : V → PyData → Prop
  | non : Dyr K Z .non .none
  | bl (b : Bool) : Dyr K Z (.bl b) (.bool b)
  | int (i : Int) : Dyr K Z (.int i) (.int i)
  | str (x : Str) : Dyr K Z (.str x) (.str x)
  | lst {a : Addr} {xs : List V} {ds : List PyData} : Z a = some (.lst xs) → DyrAll K Z xs ds → Dyr K Z (.ref a) (.list ds)
  | tup {a : Addr} {xs : List V} {ds : List PyData} : Z a = some (.tup xs) → DyrAll K Z xs ds → Dyr K Z (.ref a) (.tuple ds)
inductive DyrAll (K : Fr) (Z : Hp) : List V → List PyData → Prop
  | nil : DyrAll K Z [] []
  | cons {v : V} {vs : List V} {d : PyData} {ds : List PyData} : Dyr K Z v d → DyrAll K Z vs ds → DyrAll K Z (v :: vs) (d :: ds)
end
mutual
theorem Dyr.mono {K : Fr} {Z Z' : Hp} (s : Same Z Z') : ∀ (d : PyData) (v : V), Dyr K Z v d → Dyr K Z' v d
  | .none, _, h => by cases h; exact .non
  | .bool b, _, h => by cases h; exact .bl b
  | .int i, _, h => by cases h; exact .int i
  | .str x, _, h => by cases h; exact .str x
  | .list ds, _, h => by
    cases h with
    | lst hs ha => exact .lst (s _ _ hs) (DyrAll.mono s ds _ ha)
  | .tuple ds, _, h => by
    cases h with
    | tup hs ha => exact .tup (s _ _ hs) (DyrAll.mono s ds _ ha)
  | .dict _, _, h => by cases h
theorem DyrAll.mono {K : Fr} {Z Z' : Hp} (s : Same Z Z') : ∀ (ds : List PyData) (vs : List V), DyrAll K Z vs ds → DyrAll K Z' vs ds
  | [], _, h => by cases h; exact .nil
  | d :: ds, _, h => by
    cases h with
    | cons h1 h2 => exact .cons (Dyr.mono s d _ h1) (DyrAll.mono s ds _ h2)
end
mutual
/-- as the kit's == wants it -/
theorem Dyr.dp {K : Fr} {Z : Hp} : ∀ (d : PyData) (v : V), Dyr K Z v d → Dp K Z v d
  | .none, _, h => by cases h; exact .non
  | .bool b, _, h => by cases h; exact .bl b
  | .int i, _, h => by cases h; exact .int i
  | .str x, _, h => by cases h; exact .str x
  | .list ds, _, h => by
    cases h with
    | lst hs ha => exact .lst (SqL.of hs) (DyrAll.dp ds _ ha)
  | .tuple ds, _, h => by
    cases h with
    | tup hs ha => exact .tup (SqT.of hs) (DyrAll.dp ds _ ha)
  | .dict _, _, h => by cases h
theorem DyrAll.dp {K : Fr} {Z : Hp} : ∀ (ds : List PyData) (vs : List V), DyrAll K Z vs ds → DpAll K Z vs ds
  | [], _, h => by cases h; exact .nil
  | d :: ds, _, h => by
    cases h with
    | cons h1 h2 => exact .cons (Dyr.dp d _ h1) (DyrAll.dp ds _ h2)
end
instance : Py PyData := ⟨fun K Z v d => Dyr K Z v d, fun s h => Dyr.mono s _ _ h⟩
theorem dyAll_pr {K : Fr} {Z : Hp} : ∀ {vs : List V} {ds : List PyData}, DyrAll K Z vs ds → Paired (Py.R K Z) vs ds
  | _, _, .nil => .nil
  | _, _, .cons h t => .cons h (dyAll_pr t)
theorem pr_dyAll {K : Fr} {Z : Hp} : ∀ {vs : List V} {ds : List PyData}, Paired (Py.R K Z) vs ds → DyrAll K Z vs ds
  | _, _, .nil => .nil
  | _, _, .cons h t => .cons h (pr_dyAll t)
/-! ### typed data as data -/
class ToD (α : Type) [Py α] where
  td : α → PyData
  tr : ∀ {K : Fr} {Z : Hp} {v : V} {a : α}, Py.R K Z v a → Dyr K Z v (td a)
instance : ToD PyData := ⟨id, fun h => h⟩
instance : ToD Int := ⟨.int, fun {K Z v a} h => by cases (show v = V.int a from h); exact .int a⟩
instance : ToD Bool := ⟨.bool, fun {K Z v a} h => by cases (show v = V.bl a from h); exact .bl a⟩
instance : ToD Str := ⟨.str, fun {K Z v a} h => by cases (show v = V.str a from h); exact .str a⟩
instance : ToD Unit := ⟨fun _ => .none, fun {K Z v a} h => by cases (show v = V.non from h); exact .non⟩
theorem toAll {α : Type} [Py α] [ToD α] {K : Fr} {Z : Hp} : ∀ {vs : List V} {l : List α}, Paired (Py.R K Z) vs l → DyrAll K Z vs (l.map ToD.td)
  | _, _, .nil => .nil
  | _, _, .cons h t => .cons (ToD.tr h) (toAll t)
instance {α : Type} [Py α] [ToD α] : ToD (List α) := ⟨fun l => .list (l.map ToD.td), fun h => by
  obtain ⟨a, xs, rfl, hz, p⟩ := h
  exact .lst hz (toAll p)⟩
instance {α β : Type} [Py α] [ToD α] [Py β] [ToD β] : ToD (α × β) := ⟨fun p => .tuple [ToD.td p.1, ToD.td p.2], fun h => by
  obtain ⟨a, x, y, rfl, hz, h1, h2⟩ := h
  exact .tup hz (.cons (ToD.tr h1) (.cons (ToD.tr h2) .nil))⟩
instance {α : Type} [Py α] [ToD α] : ToD (Option α) := ⟨fun o => match o with | none => .none | some a => ToD.td a, fun {K Z v a} h => by
  cases a with
  | none => cases (show v = V.non from h); exact .non
  | some a => exact ToD.tr (show Py.R K Z v a from h)⟩
/-! ### data as typed data -/
class FromD (α : Type) [Py α] where
  fd : PyData → Option α
  ok : ∀ {K : Fr} {Z : Hp} {v : V} {d : PyData} {a : α}, fd d = some a → Dyr K Z v d → Py.R K Z v a
instance : FromD Int := ⟨fun d => match d with | .int i => some i | _ => none, fun {K Z v d a} e h => by
  cases d with
  | int i => cases e; cases h; rfl
  | _ => cases e⟩
instance : FromD Bool := ⟨fun d => match d with | .bool i => some i | _ => none, fun {K Z v d a} e h => by
  cases d with
  | bool i => cases e; cases h; rfl
  | _ => cases e⟩
instance : FromD Str := ⟨fun d => match d with | .str i => some i | _ => none, fun {K Z v d a} e h => by
  cases d with
  | str i => cases e; cases h; rfl
  | _ => cases e⟩
instance : FromD PyData := ⟨some, fun {K Z v d a} e h => by cases e; exact h⟩
instance {α β : Type} [Py α] [FromD α] [Py β] [FromD β] : FromD (α × β) := ⟨fun d => match d with
    | .tuple [x, y] => (match FromD.fd (α := α) x, FromD.fd (α := β) y with | some a, some b => some (a, b) | _, _ => none)
    | _ => none, fun {K Z v d a} e h => by
  split at e
  · rename_i x y
    split at e
    · rename_i p q h1 h2
      cases e
      cases h with
      | tup hs ha =>
        cases ha with
        | cons g1 g =>
          cases g with
          | cons g2 g3 =>
            cases g3
            exact ⟨_, _, _, rfl, hs, FromD.ok h1 g1, FromD.ok h2 g2⟩
    · cases e
  · cases e⟩
/-! ### what is asked of data -/
def dyItems : PyData → List PyData
  | .list l => l
  | .tuple l => l
  | _ => []
def dySeq : PyData → Bool
  | .list _ => true
  | .tuple _ => true
  | _ => false
def dyAt (d : PyData) (i : Int) : PyData := (atI (dyItems d) i).getD .none
def dyT : PyData → String
  | .none => "NoneType"
  | .bool _ => "bool"
  | .int _ => "int"
  | .str _ => "str"
  | .list _ => "list"
  | .tuple _ => "tuple"
  | .dict _ => "dict"
theorem Pt.dy {K : Fr} {Z H : Hp} {v : V} {d : PyData} (zh : Same Z H) (h : Py.R K Z v d) : Pt K H v (dyT d) := by
  have h : Dyr K Z v d := h
  cases h with
  | non => exact Pt.non ()
  | bl b => exact Pt.bl b
  | int i => exact Pt.int i
  | str x => exact Pt.str x
  | lst hs ha => exact .of (.base (.lst (zh _ _ hs)))
  | tup hs ha => exact .of (.base (.tup (zh _ _ hs)))
def rIxD (K : Fr) : R2 := fun x y H Q => rIxL K x y H Q ∨ rIxT K x y H Q
theorem ix_dyK {X : Cx} {K : Fr} (e : X.K = K) : IxR X (rIxD K) := fun value slice pins s σ H x y v u Q I rx ry h hs => h.elim (fun h => ix_listK e value slice pins s σ H x y v u Q I rx ry h hs) (fun h => ix_tupK e value slice pins s σ H x y v u Q I rx ry h hs)
theorem dyAll_at {K : Fr} {Z : Hp} : ∀ {vs : List V} {ds : List PyData} {j : Nat} {d : PyData}, DyrAll K Z vs ds → ds[j]? = some d → ∃ v, vs[j]? = some v ∧ Dyr K Z v d
  | _, _, 0, _, .cons h _, e => by cases e; exact ⟨_, rfl, h⟩
  | _, _, j + 1, _, .cons _ t, e => by
    obtain ⟨v, h1, h2⟩ := dyAll_at (j := j) t (by simpa using e)
    exact ⟨v, by simpa using h1, h2⟩
theorem dyAll_len {K : Fr} {Z : Hp} : ∀ {vs : List V} {ds : List PyData}, DyrAll K Z vs ds → vs.length = ds.length
  | _, _, .nil => rfl
  | _, _, .cons _ t => by rw [List.length_cons, List.length_cons, dyAll_len t]
theorem dyAll_atI {K : Fr} {Z : Hp} {vs : List V} {ds : List PyData} {i : Int} (h : DyrAll K Z vs ds) (hi : inR ds.length i) : ∃ v, atI vs i = some v ∧ Dyr K Z v ((atI ds i).getD .none) := by
  obtain ⟨j, e, hl⟩ := ixN_some hi
  obtain ⟨v, h1, h2⟩ := dyAll_at h (List.getElem?_eq_getElem hl)
  refine ⟨v, by unfold atI; rw [dyAll_len h, e]; exact h1, ?_⟩
  have : atI ds i = some ds[j] := by unfold atI; rw [e]; exact List.getElem?_eq_getElem hl
  rw [this]
  exact h2
theorem k_ixD {K : Fr} {Z H : Hp} {Q : VK} {v : V} {d : PyData} {i : Int} (zh : Same Z H) (h : Py.R K Z v d) (hs : dySeq d = true) (hi : inR (dyItems d).length i) (k : ∀ u, Py.R K Z u (dyAt d i) → Q u H) : rIxD K v (.int i) H Q := by
  have h : Dyr K Z v d := h
  cases h with
  | lst hq ha =>
    obtain ⟨u, h1, h2⟩ := dyAll_atI ha hi
    exact .inl ⟨_, _, i, u, rfl, rfl, SqL.of (zh _ _ hq), h1, k u h2⟩
  | tup hq ha =>
    obtain ⟨u, h1, h2⟩ := dyAll_atI ha hi
    exact .inr ⟨_, _, i, u, rfl, rfl, SqT.of (zh _ _ hq), h1, k u h2⟩
  | _ => cases hs
/-! == -/
end Cd

set_option Elab.async false
set_option linter.all false
set_option maxRecDepth 100000
set_option maxHeartbeats 4000000
namespace Cd
open PySem L2 PyProof.Rows
theorem RO.dy {α : Type} [Py α] [ToD α] {K : Fr} {Z H : Hp} {v : V} {l : List α} (h : RO K Z H v l) : RO K Z H v (l.map fun q => ToD.td q) := by
  obtain ⟨a, xs, e, hz, p⟩ := h
  exact ⟨a, xs, e, hz, dyAll_pr (toAll p)⟩
end Cd

set_option Elab.async false
set_option linter.all false
set_option maxRecDepth 100000
set_option maxHeartbeats 4000000
namespace Cd
open PySem L2 PyProof.Rows
/-! ### data: more kinds -/
instance : Inhabited PyData := ⟨.none⟩
instance {α β γ : Type} [Py α] [ToD α] [Py β] [ToD β] [Py γ] [ToD γ] : ToD (T3 α β γ) := ⟨fun p => .tuple [ToD.td p.x1, ToD.td p.x2, ToD.td p.x3], fun h => by
  obtain ⟨a, x, y, z, rfl, hz, h1, h2, h3⟩ := h
  exact .tup hz (.cons (ToD.tr h1) (.cons (ToD.tr h2) (.cons (ToD.tr h3) .nil)))⟩
instance {α β γ δ : Type} [Py α] [ToD α] [Py β] [ToD β] [Py γ] [ToD γ] [Py δ] [ToD δ] : ToD (T4 α β γ δ) := ⟨fun p => .tuple [ToD.td p.x1, ToD.td p.x2, ToD.td p.x3, ToD.td p.x4], fun h => by
  obtain ⟨a, x, y, z, w, rfl, hz, h1, h2, h3, h4⟩ := h
  exact .tup hz (.cons (ToD.tr h1) (.cons (ToD.tr h2) (.cons (ToD.tr h3) (.cons (ToD.tr h4) .nil))))⟩
instance {α : Type} [Py α] [ToD α] : ToD (TL α) := ⟨fun l => .tuple (l.l.map ToD.td), fun h => by
  obtain ⟨a, xs, rfl, hz, p⟩ := h
  exact .tup hz (toAll p)⟩
instance {α β γ : Type} [Py α] [FromD α] [Py β] [FromD β] [Py γ] [FromD γ] : FromD (T3 α β γ) := ⟨fun d => match d with
    | .tuple [x, y, z] => (match FromD.fd (α := α) x, FromD.fd (α := β) y, FromD.fd (α := γ) z with | some a, some b, some c => some ⟨a, b, c⟩ | _, _, _ => none)
    | _ => none, fun {K Z v d a} e h => by
  split at e
  · split at e
    · rename_i h1 h2 h3
      cases e
      cases h with
      | tup hs ha =>
        cases ha with
        | cons g1 g =>
          cases g with
          | cons g2 g =>
            cases g with
            | cons g3 g =>
              cases g
              exact ⟨_, _, _, _, rfl, hs, FromD.ok h1 g1, FromD.ok h2 g2, FromD.ok h3 g3⟩
    · cases e
  · cases e⟩
instance {α β γ δ : Type} [Py α] [FromD α] [Py β] [FromD β] [Py γ] [FromD γ] [Py δ] [FromD δ] : FromD (T4 α β γ δ) := ⟨fun d => match d with
    | .tuple [x, y, z, w] => (match FromD.fd (α := α) x, FromD.fd (α := β) y, FromD.fd (α := γ) z, FromD.fd (α := δ) w with | some a, some b, some c, some e => some ⟨a, b, c, e⟩ | _, _, _, _ => none)
    | _ => none, fun {K Z v d a} e h => by
  split at e
  · split at e
    · rename_i h1 h2 h3 h4
      cases e
      cases h with
      | tup hs ha =>
        cases ha with
        | cons g1 g =>
          cases g with
          | cons g2 g =>
            cases g with
            | cons g3 g =>
              cases g with
              | cons g4 g =>
                cases g
                exact ⟨_, _, _, _, _, rfl, hs, FromD.ok h1 g1, FromD.ok h2 g2, FromD.ok h3 g3, FromD.ok h4 g4⟩
    · cases e
  · cases e⟩
def fdAll {α : Type} [Py α] [FromD α] : List PyData → Option (List α)
  | [] => some []
  | d :: r => match FromD.fd (α := α) d, fdAll r with | some a, some l => some (a :: l) | _, _ => none
theorem fdAll_ok {α : Type} [Py α] [FromD α] {K : Fr} {Z : Hp} : ∀ {ds : List PyData} {vs : List V} {l : List α}, fdAll ds = some l → DyrAll K Z vs ds → Paired (Py.R K Z) vs l
  | [], _, _, e, h => by cases e; cases h; exact .nil
  | d :: r, _, _, e, h => by
    cases h with
    | cons h1 h2 =>
      unfold fdAll at e
      split at e
      · rename_i g1 g2
        cases e
        exact .cons (FromD.ok g1 h1) (fdAll_ok g2 h2)
      · cases e
instance {α : Type} [Py α] [FromD α] : FromD (List α) := ⟨fun d => match d with | .list ds => fdAll ds | _ => none, fun {K Z v d a} e h => by
  cases d with
  | list ds =>
    cases h with
    | lst hs ha => exact ⟨_, _, rfl, hs, fdAll_ok e ha⟩
  | _ => cases e⟩
instance {α : Type} [Py α] [FromD α] : FromD (TL α) := ⟨fun d => match d with | .tuple ds => (fdAll ds).map TL.mk | _ => none, fun {K Z v d a} e h => by
  cases d with
  | tuple ds =>
    cases h with
    | tup hs ha =>
      have e : (fdAll (α := α) ds).map TL.mk = some a := e
      cases g : fdAll (α := α) ds with
      | none => rw [g] at e; cases e
      | some l => rw [g] at e; cases e; exact ⟨_, _, rfl, hs, fdAll_ok g ha⟩
  | _ => cases e⟩
theorem fdOf {α : Type} [Py α] [FromD α] [Inhabited α] {K : Fr} {Z : Hp} {v : V} {d : PyData} (g : (FromD.fd (α := α) d).isSome = true) (h : Py.R K Z v d) : Py.R K Z v ((FromD.fd (α := α) d).getD default) := by
  cases e : FromD.fd (α := α) d with
  | none => rw [e] at g; cases g
  | some a => exact FromD.ok e h
theorem fdSc {α : Type} [Sc α] [FromD α] [Inhabited α] {K : Fr} {Z : Hp} {v : V} {d : PyData} (h : Py.R K Z v d) (g : (FromD.fd (α := α) d).isSome = true) : Sc.emb ((FromD.fd (α := α) d).getD default) = v := (show v = _ from fdOf (α := α) g h).symm
/-- there and back -/
class RtD (α : Type) [Py α] [ToD α] [FromD α] : Prop where
  rt : ∀ a : α, FromD.fd (ToD.td a) = some a
instance : RtD Int := ⟨fun _ => rfl⟩
instance : RtD Bool := ⟨fun _ => rfl⟩
instance : RtD Str := ⟨fun _ => rfl⟩
instance : RtD PyData := ⟨fun _ => rfl⟩
instance {α β : Type} [Py α] [ToD α] [FromD α] [RtD α] [Py β] [ToD β] [FromD β] [RtD β] : RtD (α × β) := ⟨fun p => by
  show (match FromD.fd (α := α) (ToD.td p.1), FromD.fd (α := β) (ToD.td p.2) with | some a, some b => some (a, b) | _, _ => none) = _
  rw [RtD.rt, RtD.rt]⟩
instance {α β γ : Type} [Py α] [ToD α] [FromD α] [RtD α] [Py β] [ToD β] [FromD β] [RtD β] [Py γ] [ToD γ] [FromD γ] [RtD γ] : RtD (T3 α β γ) := ⟨fun p => by
  show (match FromD.fd (α := α) (ToD.td p.x1), FromD.fd (α := β) (ToD.td p.x2), FromD.fd (α := γ) (ToD.td p.x3) with | some a, some b, some c => some (⟨a, b, c⟩ : T3 α β γ) | _, _, _ => none) = _
  rw [RtD.rt, RtD.rt, RtD.rt]⟩
instance {α β γ δ : Type} [Py α] [ToD α] [FromD α] [RtD α] [Py β] [ToD β] [FromD β] [RtD β] [Py γ] [ToD γ] [FromD γ] [RtD γ] [Py δ] [ToD δ] [FromD δ] [RtD δ] : RtD (T4 α β γ δ) := ⟨fun p => by
  show (match FromD.fd (α := α) (ToD.td p.x1), FromD.fd (α := β) (ToD.td p.x2), FromD.fd (α := γ) (ToD.td p.x3), FromD.fd (α := δ) (ToD.td p.x4) with | some a, some b, some c, some e => some (⟨a, b, c, e⟩ : T4 α β γ δ) | _, _, _, _ => none) = _
  rw [RtD.rt, RtD.rt, RtD.rt, RtD.rt]⟩
theorem rt_all {α : Type} [Py α] [ToD α] [FromD α] [RtD α] : ∀ l : List α, fdAll (l.map ToD.td) = some l
  | [] => rfl
  | a :: r => by
    rw [List.map_cons]
    unfold fdAll
    rw [RtD.rt, rt_all r]
instance {α : Type} [Py α] [ToD α] [FromD α] [RtD α] : RtD (List α) := ⟨fun l => rt_all l⟩
/-! an item of data, as typed data -/
theorem k_ixDT {α : Type} [Py α] [FromD α] [Inhabited α] {K : Fr} {Z H : Hp} {Q : VK} {v : V} {d : PyData} {i : Int} (zh : Same Z H) (h : Py.R K Z v d) (hs : dySeq d = true) (hi : inR (dyItems d).length i) (g : (FromD.fd (α := α) (dyAt d i)).isSome = true) (k : ∀ u, Py.R K Z u ((FromD.fd (α := α) (dyAt d i)).getD default) → Q u H) : rIxD K v (.int i) H Q :=
  k_ixD zh h hs hi fun u hu => k u (fdOf g hu)
theorem k_ixDS {α : Type} [Sc α] [FromD α] [Inhabited α] {K : Fr} {Z H : Hp} {Q : VK} {v : V} {d : PyData} {i : Int} (zh : Same Z H) (h : Py.R K Z v d) (hs : dySeq d = true) (hi : inR (dyItems d).length i) (g : (FromD.fd (α := α) (dyAt d i)).isSome = true) (k : Q (Sc.emb ((FromD.fd (α := α) (dyAt d i)).getD default)) H) : rIxD K v (.int i) H Q :=
  k_ixD zh h hs hi fun u hu => by rw [← fdSc hu g]; exact k
/-! is None -/
def dyNone : PyData → Bool
  | .none => true
  | _ => false
theorem Rn.dy {α : Type} [Py α] [ToD α] {K : Fr} {H : Hp} {v : V} {a : α} (h : Rn K H v a) : Rn K H v (ToD.td a) := ⟨ToD.tr h.r⟩
theorem op_eqCK {X : Cx} {K : Fr} (e : X.K = K) (hu : X.A.units + 64 < cLine) : OpR X (compareOp .Eq) (rEqC K) := by subst e; exact op_eqC hu
theorem op_neCK {X : Cx} {K : Fr} (e : X.K = K) (hu : X.A.units + 64 < cLine) : OpR X (compareOp .NotEq) (rNeC K) := by subst e; exact op_neC hu
/-! ### x is True, of what may be None -/
def embB : Option Bool → V
  | none => .non
  | some b => .bl b
def rIsB (p : Bool) : R2 := fun x y H Q => ∃ (o : Option Bool) (b : Bool), x = embB o ∧ y = .bl b ∧ Q (.bl (p == decide (o = some b))) H
/-! ### lists of unlike kinds: the first four, and one more -/
/-! ### x or [] -/
/-! ### a class whose __init__ has defaults -/
/-- the tuple of a def's defaults, looked through -/
def relB2 : V → Value → Bool
  | .non, .none => true
  | .int i, .int j _ => decide (i = j)
  | _, _ => false
def relA2 : List V → List Value → Bool
  | [], [] => true
  | v :: vs, u :: us => relB2 v u && relA2 vs us
  | _, _ => false
def dflO (o : Obj) (dvs : List V) : Bool := match o.data with
  | .seq its _ => relA2 dvs its.toList
  | _ => false
/-- a new object within a try -/
def tMakeS (C : Addr) (sp : Sp) (dvs : List V) (E : L2.St → XK) (t : TA) : TE := fun σ H Q => t σ H fun vs H1 => ∀ x dx, H1 x = none → H1 dx = none → dx ≠ x →
  sp (.ref x :: (vs ++ dvs)) (upd (upd H1 dx (.own x)) x (.ins C dx [])) (fun v H2 => v = .non ∧ Q (.ref x) H2) (E σ)
theorem new_st {Z H Z' H' : Hp} {x dx C : Addr} (nx : H x = none) (ndx : H dx = none) (ne : dx ≠ x) (st : Step Z (delL (upd (upd H dx (.own x)) x (.ins C dx [])) [x, dx]) Z' H') : Step Z H Z' H' := by
  rw [del_new nx ndx ne] at st
  exact st
/-- js: behind so many of the defaults' first ones the others stand -/
structure MakD (P : Program) (w : World) (K : PySem.W.Frag) (mg : Str → Option Value) (base : Heap) (CX : CXT) (k : Nat) (x : Str) (C : Addr) (ps : List Str) (dvs : List V) (js : List Nat) (sp : Sp) : Prop where
  ex : ∃ (f : Addr) (fd : FuncData), Mk K C f ∧ FnOk P w K mg base CX k f fd ps sp ∧ mg x = some (.ref C) ∧ ∀ j ∈ js, ∃ ds, Vals (dvs.drop j) ds ∧ Binds K fd ps ds
section
variable {X : Cx} {CX : CXT} {k : Nat} {C : Addr} {x : Str} {ps : List Str} {dvs : List V} {js : List Nat} {sp : Sp} {E : XK} {t : TA} {e : Expr} {es : List Expr} {p pos : Pos}
end
end Cd

set_option Elab.async false
set_option linter.all false
set_option maxRecDepth 100000
set_option maxHeartbeats 4000000
namespace Cd
open PySem L2 PyProof.Rows
/-! ### a list of five taken apart by a target -/
/-! ### list(x) if x is a list, else x -/
/-! ### text[::-1] -/
def revS (z : Str) : Str := mk (codes z).reverse
def tRevS (te : TE) : TE := fun σ H Q => te σ H fun x H1 => ∃ z, x = .str z ∧ z.length ≤ sizeLine ∧ Q (.str (revS z)) H1
end Cd

set_option Elab.async false
set_option linter.all false
set_option maxRecDepth 100000
set_option maxHeartbeats 4000000
namespace Cd
open PySem L2 PyProof.Rows
/-! ### a walk over a tuple that is data -/
def dyTup : PyData → Bool
  | .tuple _ => true
  | _ => false
/-! ### behind an expression a token is out -/
def PEk (X : Cx) (e : Expr) (t : TE) : Prop := ∀ (pins : List (Addr × Obj)) (s : Shared) (σ : L2.St) (H : Hp) (Q : VK), Inv X pins σ H s → t σ H Q → wpAny (model X.prog X.w) X.A (eval e X.env) (fun v s1 => 1 ≤ s1.toks ∧ EP X pins σ Q v s1) X.xe s
section
variable {X : Cx} {e f o : Expr} {te tf to : TE} {y z : Str} {j k : Nat} {c0 c1 apos pos p p' : Pos}
end
end Cd

set_option Elab.async false
set_option linter.all false
set_option maxRecDepth 100000
set_option maxHeartbeats 4000000
namespace Cd
open PySem L2 PyProof.Rows
/-! ### a walk over a list that is data -/
def dyLst : PyData → Bool
  | .list _ => true
  | _ => false
end Cd

set_option Elab.async false
set_option linter.all false
set_option maxRecDepth 100000
set_option maxHeartbeats 4000000
namespace Cd
open PySem L2 PyProof.Rows
/-! ### Base.__init__(self, ..), a base class's own __init__ called by its name -/
structure BinX (P : Program) (w : World) (K : PySem.W.Frag) (mg : Str → Option Value) (base : Heap) (CX : CXT) (k : Nat) (x : Str) (A : Addr) (ps : List Str) (dvs : List V) (sp : Sp) : Prop where
  ex : ∃ (f : Addr) (fd : FuncData), CRd K A ∧ PySem.W.findCls K (.ref A) (.type "type") "__init__" = some (.val (.ref f)) ∧ PySem.W.keepIn K (.ref f) = true ∧ FnOk P w K mg base CX k f fd ps sp ∧ (∃ ds, Vals dvs ds ∧ Binds K fd ps ds) ∧ mg x = some (.ref A)
section
variable {X : Cx} {CX : CXT} {k : Nat} {A : Addr} {x : Str} {ps : List Str} {dvs : List V} {sp : Sp} {E : XK} {t : TA} {e : Expr} {es : List Expr} {p1 p2 pos : Pos}
theorem pe_binit {pl : Sem Bool} (c : BinX X.prog X.w X.K X.mg X.base CX k x A ps dvs sp) (hr : Room k X.A) (hx : Passes CX X E) (ha : PA X (e :: es) t) (hg : Gl X x := by rfl) (hdb : (x == ("__debug__" : Str)) = false := by decide)
    (hc : eval (.Call (.Attribute (.Name x p1) "__init__" p2) (e :: es) [] pos) X.env = (do
      let ov ← eval (.Name x p1) X.env
      standAt p2.atName
      let (f, first) ← holding [ov] (getMethod ov "__init__" pl)
      callWith pos f first (backTo pos (starEach (e :: es) X.env)) (backToKw pos (keywordEach [] X.env))) := by rfl)
    (he : starEach (e :: es) X.env = (false, eval e X.env) :: starEach es X.env := by rfl) (hpl : (backTo pos (starEach es X.env)).any (·.1) = false := by rfl) :
    PE X (.Call (.Attribute (.Name x p1) "__init__" p2) (e :: es) [] pos) (tCall sp dvs E t) := by
  obtain ⟨f, fd, r, at_, kp, F, ⟨ds, hv, hb⟩, hm⟩ := c.ex
  refine ⟨fun pins s σ H Q I h => ?_⟩
  refine PySem.W.methodCall_KW (ld_glob I hg hm ?_ hdb) hc
  refine PySem.W.method_cls I.kIn r.ga (PySem.W.cls_value I.kIn r.rd at_ rfl ?_)
  show wpAny _ _ (callWith _ (Value.ref f) [] (backTo pos (starEach (e :: es) X.env)) []) _ _ _
  refine PySem.W.callWith_K (h₀ := X.base) I.ok.mod.kin kp (thn (ha.run pos pins _ σ H _ (I.tok _) h) fun us s1 ⟨vs, H1, I1, r1, q⟩ => ⟨I1.kIn, ?_⟩) he hpl
  exact run_fn F hr hb hv hx I1 r1 q
end
theorem same_del {Z H : Hp} {ps : List Addr} (s : Same Z H) (h : ∀ q ∈ ps, Z q = none) : Same Z (delL H ps) := fun b u e => by
  have m : b ∉ ps := fun m => by rw [h b m] at e; cases e
  rw [delL_out m]; exact s b u e
/-- what an empty husk is, with its places -/
theorem husk0 {K : Fr} {Z H : Hp} {nm : Str} {p : Addr} {ps : List Addr} (r : (Sh.husk nm []).R K Z H (.ref p) ps []) : ∃ dx, ps = [p, dx] ∧ (∃ C_, PySem.W.nsIn K mainGlobals nm = some (some (.ref C_)) ∧ H p = some (.ins C_ dx [])) ∧ H dx = some (.own p) := by
  obtain ⟨C, p', dx, e0, e1, e2, h1, h2, _⟩ := r
  cases e1
  exact ⟨dx, e2, ⟨C, e0, h1⟩, h2⟩
end Cd

set_option Elab.async false
set_option linter.all false
set_option maxRecDepth 100000
set_option maxHeartbeats 4000000
namespace Cd
open PySem L2 PyProof.Rows
/-! ### {k: v, ..} of written keys and scalars -/
def dOf {κ α : Type} [DecidableEq κ] (l : List (κ × α)) : List (κ × α) := l.foldl (fun m q => dPut m q.1 q.2) []
/-- the pairs of a display that leaves the heap as it is -/
def tPW : List (TE × TE) → L2.St → Hp → (List (V × V) → Prop) → Prop
  | [], _, _, R => R []
  | (tk, tv) :: r, σ, H, R => tk σ H fun x H1 => H1 = H ∧ tv σ H fun y H2 => H2 = H ∧ tPW r σ H fun ps => R ((x, y) :: ps)
structure PPW (X : Cx) (pos : Pos) (keys : List (Option Expr)) (values : List Expr) (trs : List (TE × TE)) : Prop where
  run : ∀ (pins : List (Addr × Obj)) (s : Shared) (σ : L2.St) (H : Hp) (R : List (V × V) → Prop), Inv X pins σ H s → tPW trs σ H R →
    wpAny (model X.prog X.w) X.A (evalPairs (pairTrees keys values X.env pos)) (fun vs s' => ∃ ps, Inv X pins σ H s' ∧ VV ps vs ∧ R ps) X.xe s
@[irreducible] def rDispQ (H : Hp) (p : Addr) (ps : List (V × V)) (Q : VK) : Prop := ∃ kvs : List (Key × V), ps = kvs.map (fun kv => (kV kv.1, kv.2)) ∧ kvs.length ≤ 15 ∧ Q (.ref p) (upd H p (.dK (mergeK [] kvs)))
def tDispW (trs : List (TE × TE)) : TE := fun σ H Q => ∀ p, H p = none → tPW trs σ (upd H p (.dK [])) fun ps => rDispQ H p ps Q
end Cd

set_option Elab.async false
set_option linter.all false
set_option maxRecDepth 100000
set_option maxHeartbeats 4000000
namespace Cd
open PySem L2 PyProof.Rows
/-! ### isinstance(x, B), x an object of the class C under B -/
structure IsiC (K : Fr) (C B : Addr) : Prop where
  cl : Cls K C
  ha : PySem.W.findIn K (.ref C) "__class__" = some (some (.builtin "object.__class__"))
  hn : PySem.W.specialIn K (.builtin "object.__class__") "__get__" = some (some (.builtin "getset_descriptor.__get__"))
  ht : PySem.W.takesIn K (.builtin "object.__class__") = some true
  hm : PySem.W.mroIn K C (.type "object") = some true
  ki : PySem.W.kitOne K (.ref C) (.ref B) = some true
theorem k_isiC {K : Fr} {H : Hp} {Q : VK} {v : V} {C B p dx : Addr} {fs : List (Str × V)} (I : IsiC K C B) (e : v = .ref p) (h : H p = some (.ins C dx fs)) (k : Q (.bl true) H) : rIsi K [v, .ref B] H Q := by
  subst e
  exact ⟨_, _, _, _, _, rfl, .own B, .base (.ins h I.cl I.ha I.hn I.ht I.hm), I.ki, k⟩
theorem Sep.isiC {α β : Type} {K : Fr} {Z0 H0 Z H : Hp} {G : List Rt} {nm : Str} {ns : List Str} {C B : Addr} {v : V} {T : ShL β} {f : α → β} {a : α} {Q : VK} (h : Sep K Z0 H0 Z H G) (i : Nat) (e : G[i]? = some ⟨(Sh.objK nm ns T).via f, v, a⟩) (nk : PySem.W.nsIn K mainGlobals nm = some (some (.ref C))) (I : IsiC K C B) (k : Q (.bl true) H) : rIsi K [v, .ref B] H Q := by
  obtain ⟨ps, o⟩ := h.nth i e
  obtain ⟨C', eC, p', dx, xs, qs, e1, e2, h1, h2, hl, h3⟩ := o.r
  rw [nk] at eC
  cases eC
  exact k_isiC I e1 h1 k
end Cd

set_option Elab.async false
set_option linter.all false
set_option maxRecDepth 100000
set_option maxHeartbeats 4000000
namespace Cd
open PySem L2 PyProof.Rows
/-! ### methods that refuse, called in a try -/
def tMethT (C : Addr) (m : Str) (sp : Sp) (E : L2.St → XK) (ta : TE) (t : TA) : TE := fun σ H Q => ta σ H fun x H1 => ∃ a dx fs, x = .ref a ∧ H1 a = some (.ins C dx fs) ∧ fs.lookup m = none ∧ t σ H1 fun vs H2 => sp (x :: vs) H2 Q (E σ)
theorem pe_mtXS {X : Cx} {CX : CXT} {k : Nat} {C : Addr} {m : Str} {ps : List Str} {sp : Sp} {E : L2.St → XK} {ta : TE} {t : TA} {o e : Expr} {es : List Expr} {pos apos : Pos} {pl : Sem Bool} (c : MetX X.prog X.w X.K X.mg X.base CX k C m ps sp) (hr : Room k X.A) (hx : ∀ σ, PassesAt CX X σ (E σ)) (he : PE X o ta) (ha : PA X (e :: es) t)
    (hst : starEach (e :: es) X.env = (false, eval e X.env) :: starEach es X.env := by rfl) (hpl : (backTo pos (starEach es X.env)).any (·.1) = false := by rfl)
    (ht : eval (.Call (.Attribute o m apos) (e :: es) [] pos) X.env = (do
      let ov ← eval o X.env
      standAt apos.atName
      let (f, first) ← holding [ov] (getMethod ov m pl)
      callWith pos f first (backTo pos (starEach (e :: es) X.env)) (backToKw pos (keywordEach [] X.env))) := by rfl) :
    PE X (.Call (.Attribute o m apos) (e :: es) [] pos) (tMethT C m sp E ta t) := by
  obtain ⟨f, fd, cl, hm, F, hb⟩ := c.ex
  refine ⟨fun pins s σ H Q I h => ?_⟩
  refine PySem.W.methodCall_KW (pl := pl) (thn (he.run pins s σ H _ I h) fun u s1 ⟨x, H1, I1, rx, a, dx, fs, ex, ea, l, q⟩ => ?_) ht
  subst ex
  obtain rfl : u = Value.ref a := rx
  refine getmeth_ok I1 ea cl hm l ?_
  refine PySem.W.callWith_K (first := [.ref a]) (h₀ := X.base) I.ok.mod.kin hm.kp (thn (ha.run pos pins s1 σ H1 _ I1 q) fun us s2 ⟨vs, H2, I2, r, q2⟩ => ⟨I2.kIn, ?_⟩) hst hpl
  exact run_fnS (us := .ref a :: us) (vs := .ref a :: vs) F hr hb (hx σ) I2 (.cons rfl r) q2
end Cd

set_option Elab.async false
set_option linter.all false
set_option maxRecDepth 100000
set_option maxHeartbeats 4000000
namespace Cd
open PySem L2 PyProof.Rows
section
variable {ok : List FaB} {fn : List He.DefD} {K : Fr}
theorem SaysB.fact (c : SaysB ok fn K) (i : Nat) {f : FaB} (h : ok[i]? = some f) : f K = true := by
  have c1 := (He.ba (show ((ok.all fun f => f K) && fn.all fun d => d.ok K) = true from congrArg (fun z : He.AlD => z.1) c)).1
  exact List.all_eq_true.mp c1 f (List.mem_of_getElem? h)
theorem SaysB.def_ (c : SaysB ok fn K) (i : Nat) {d : He.DefD} (h : fn[i]? = some d) : ∃ fd, FunD K d.name d.qual d.params d.body d.scope (d.dvs K) (d.kws K) (He.fAd K d.at_) fd := by
  have c2 := (He.ba (show ((ok.all fun f => f K) && fn.all fun d => d.ok K) = true from congrArg (fun z : He.AlD => z.1) c)).2
  have e : fn.map (fun d => He.fnW K d.at_) = fn.map He.DefD.val := congrArg (fun z : He.AlD => z.2) c
  have e2 : (fn.map fun d => He.fnW K d.at_)[i]? = (fn.map He.DefD.val)[i]? := by rw [e]
  rw [List.getElem?_map, List.getElem?_map, h] at e2
  exact He.DefD.funD (Option.some.inj e2) (List.all_eq_true.mp c2 d (List.mem_of_getElem? h))
end
theorem FunD.toFun {K : Fr} {x qual : Str} {st : Stmt} {f : Addr} {fd : FuncData} (F : FunD K x qual (defArgs st) (defBody st) (defScope st) [] [] f fd) : Fun K x qual st f fd := by
  obtain ⟨⟨oc, od, dV, kV, doc, pm, an, cdv, ct, osl, e, lk, cd, dv, kw⟩, kp⟩ := F
  rcases dv with ⟨_, rfl⟩ | ⟨h, _⟩
  · exact ⟨⟨oc, od, kV, doc, pm, an, cdv, ct, osl, e, lk, cd⟩, kp⟩
  · exact absurd rfl h
theorem fcB_ok {o : Option PySem.W.CFound} {v : Value} (h : fcB o v = true) : o = some (.val v) := by
  unfold fcB at h
  split at h
  · rw [of_decide_eq_true h]
  · cases h
theorem oexK_ok {K : Fr} {A : Addr} (h : oexK K A = true) : ∃ o, K.lookup A = some o ∧ oexO A o = true := by
  unfold oexK at h
  split at h
  · exact ⟨_, by assumption, h⟩
  · cases h
/-- a law's end, the script's bits told, over facts by one look -/
theorem walk_ofBE {l : PySem.W.OpenLaw} {n k : Nat} {q : Program} {loose : List Str} {XP : (Str → Option Value) → Heap → Prop} {YP : World → Heap → Prop} {d : DefRec} {CX : CXT} {x : Str}
    (hn : l.most = some n) (hn2 : n ≤ sizeLine) (hdf : d.params.defaults = []) (hr : Room k callerA)
    (F : ∀ (w : World) (mg : Str → Option Value) (fa : Addr) (h : Heap), YP w h → h.Ns mainGlobals mg → mg d.name = some (.ref fa) →
      ∃ (K : Fr) (fd : FuncData) (sp : Sp), K.In h ∧ (∀ (s : Shared) (u : Value), BindsTo s fd ⟨[u], []⟩ [(x, u)]) ∧
        (∀ (H : Hp) (a : Addr) (ns : List Int), ns.length ≤ n → (∀ z ∈ ns, Builtin.Int.intBits z ≤ 1048576) → Only H → SqL K H a (ns.map V.int) → sp [.ref a] H (fun v _ => v = .bl true) fun _ _ _ => False) ∧
        ∀ base : Heap, K.In base → base.Ns mainGlobals mg → FnOk l.prog w K mg base CX k fa fd [x] sp)
    (hCX : ∀ (H : Hp) (s : Shared) (e : Value) (s' : Shared), CX [] H s (fun _ _ _ => False) e s' → False) :
    PySem.W.WalkO q loose XP YP l.row.toRowW d [] (fun f vs => PySem.call f vs) := by
  refine Att.attach_callB hn hdf fun w s₀ s₁ mg mb fa o pm cd doc a vs ns G Y ho hd hcd hmg hobj hints hlen hbits hg => ?_
  obtain ⟨K, fd, sp, KX, hb, hsp, hF⟩ := F w mg fa _ Y G.T.g hmg
  exact law_call KX G.T.g G.T.b G.T.builtins G.T.nolimit hg hobj hints (Nat.le_trans hlen hn2) hr hF hb (fun H hO hS => hsp H a ns hlen hbits hO hS) fun H e s' => hCX H s₁ e s'
end Cd

set_option Elab.async false
set_option linter.all false
set_option maxRecDepth 100000
set_option maxHeartbeats 4000000
namespace Cd
open PySem L2 PyProof.Rows
/-! ### a list of three taken apart by a target -/
/-! ### an attribute that a method leaves alone -/
def Sh.opq (v : V) : Sh Unit where
  R := fun _ _ _ u ps _ => u = v ∧ ps = []
  keep := fun _ _ h => h
  stands := fun ⟨_, e⟩ q hq => by rw [e] at hq; cases hq
instance {v : V} : MutS (Sh.opq v) := ⟨fun ⟨_, e⟩ q hq => by rw [e] at hq; cases hq⟩
theorem Sep.opq {K : Fr} {Z0 H0 Z H : Hp} {G : List Rt} (v : V) (h : Sep K Z0 H0 Z H G) : Sep K Z0 H0 Z H (⟨Sh.opq v, v, ()⟩ :: G) :=
  h.pushO (ps := []) ⟨⟨rfl, rfl⟩, List.nodup_nil, (fun _ h => nomatch h), (fun _ h => nomatch h)⟩ fun _ _ _ _ _ _ _ h => nomatch h
/-! ### a list of two unlike things of one's own -/
theorem SepF.lstV {K : Fr} {Z0 H0 Z H : Hp} {G G' : List Rt} {f : Nat → List Addr} {Q : VK} {is : List Nat} {vs : List V} {α β : Type} {T : ShL β} {b : β} {g : α → β} {a : α} (h : SepF K Z0 H0 Z H G f) (eb : b = g a) (r : RowF K H0 Z H G f is T vs b) (js : List Nat) (hj : js.Nodup) (hd : ∀ j ∈ js, j ∉ is) (e : js.map (fun j => G[j]?) = G'.map some) (hs : vs.length ≤ sizeLine)
    (k : ∀ p H', Step Z H Z H' → Sep K Z0 H0 Z H' (⟨(Sh.lst T).via g, .ref p, a⟩ :: G') → Q (.ref p) H') : rLstQ vs H Q := by
  refine ⟨hs, fun p hp => k p _ (Step.own h.st.zh hp) ?_⟩
  subst eb
  have h2 := h.laid (S := Sh.lst T) r js hj hd e hp (r.row.wrapL h.st hp)
  obtain ⟨ps, o, gg⟩ := h2.chg 0 rfl
  exact gg h2.st (Same.refl _) (fun q u _ hu => ⟨hu, rfl⟩) (OwnO.mkvia rfl o) fun _ h => .inl h
def Sh.lp {α β : Type} (S : Sh α) (T : Sh β) : Sh (α × β) := (Sh.lst (ShL.cons S (ShL.cons T ShL.nil))).via fun p => (p.1, (p.2, ()))
instance {α β : Type} {S : Sh α} {T : Sh β} : IsRef (Sh.lp S T) := inferInstanceAs (IsRef (Sh.via _ _))
def Sh.barL (xs : List V) : Sh Unit where
  R := fun _ _ H v ps _ => ∃ p, v = .ref p ∧ ps = [p] ∧ H p = some (.lst xs)
  keep := fun _ h ⟨p, e1, e2, h1⟩ => ⟨p, e1, e2, (h p (by rw [e2]; simp)).trans h1⟩
  stands := fun ⟨p, e1, e2, h1⟩ q hq => by rw [e2, List.mem_singleton] at hq; subst hq; exact ⟨_, h1⟩
end Cd

set_option Elab.async false
set_option linter.all false
set_option maxRecDepth 100000
set_option maxHeartbeats 4000000
namespace Cd
open PySem L2 PyProof.Rows
/-! ### {k: v, ..} of written keys; the values may be laid anew -/
def tPG : List (TE × TE) → L2.St → Hp → (List (V × V) → Hp → Prop) → Prop
  | [], _, H, R => R [] H
  | (tk, tv) :: r, σ, H, R => tk σ H fun x H1 => tv σ H1 fun y H2 => tPG r σ H2 fun ps H3 => R ((x, y) :: ps) H3
structure PPG (X : Cx) (pos : Pos) (keys : List (Option Expr)) (values : List Expr) (trs : List (TE × TE)) : Prop where
  run : ∀ (pins : List (Addr × Obj)) (s : Shared) (σ : L2.St) (H : Hp) (R : List (V × V) → Hp → Prop), Inv X pins σ H s → tPG trs σ H R →
    wpAny (model X.prog X.w) X.A (evalPairs (pairTrees keys values X.env pos)) (fun vs s' => ∃ ps H', Inv X pins σ H' s' ∧ VV ps vs ∧ R ps H') X.xe s
theorem ppg_nil {X : Cx} {pos : Pos} : PPG X pos [] [] [] := ⟨fun pins s σ H R I h => pairTrees_nil_walk ⟨[], H, I, .nil, h⟩⟩
theorem ppg_cons {X : Cx} {pos : Pos} {k v : Expr} {ks : List (Option Expr)} {vs : List Expr} {tk tv : TE} {trs : List (TE × TE)} (hk : PE X k tk) (hv : PE X v tv) (hr : PPG X pos ks vs trs) : PPG X pos (some k :: ks) (v :: vs) ((tk, tv) :: trs) := by
  refine ⟨fun pins s σ H R I h => pairTrees_cons_walk (thn (hk.run pins s σ H _ I h) fun u s1 ⟨x, H1, I1, rx, q1⟩ => ?_)⟩
  refine thn (hv.run pins s1 σ _ _ I1 q1) fun w2 s2 ⟨y, H2, I2, ry, q2⟩ => ?_
  exact thn (hr.run pins s2 σ _ _ I2 q2) fun ws s3 ⟨ps, H3, I3, rel, q3⟩ => ⟨(x, y) :: ps, H3, I3, .cons ⟨rx, ry⟩ rel, q3⟩
@[irreducible] def rDispG (H : Hp) (p : Addr) (ps : List (V × V)) (Q : VK) : Prop := H p = some (.dK []) ∧ ∃ kvs : List (Key × V), ps = kvs.map (fun kv => (kV kv.1, kv.2)) ∧ kvs.length ≤ 15 ∧ Q (.ref p) (upd H p (.dK (mergeK [] kvs)))
def tDispG (trs : List (TE × TE)) : TE := fun σ H Q => ∀ p, H p = none → tPG trs σ (upd H p (.dK [])) fun ps H2 => rDispG H2 p ps Q
theorem pe_dispG {X : Cx} {pos : Pos} {keys : List (Option Expr)} {values : List Expr} {trs : List (TE × TE)} (h : PPG X pos keys values trs) (hall : keys.all (·.isSome) = true) (hl : keys.length = values.length) (h0 : keys ≠ []) (h15 : keys.length ≤ 15) : PE X (.Dict keys values pos) (tDispG trs) := by
  refine ⟨fun pins s σ H Q I q => ?_⟩
  have hn := I.hok.fresh (Nat.le_refl s.heap.objs.size)
  have I1 := I.laid (a := s.heap.objs.size) (o := .dK []) (h' := s.heap.push { cls := .type "dict", data := .dict #[] }) (t' := s.toks) (fun _ _ q => Heap.get?_push_of_some _ q) (Nat.le_refl _) (dk_empty s.heap I.big)
  refine wpAny_Dict_walk (knd := mixKind X.prog X.w) hall hl h0 h15 (thn (h.run pins _ σ _ _ I1 (q _ hn)) fun ws s2 ⟨ps, H2, I2, rel, q0⟩ => ?_)
  unfold rDispG at q0
  obtain ⟨e, kvs, ep, lk, q2⟩ := q0
  subst ep
  obtain ⟨rs, c, rk⟩ := carries_of (P := X.prog) (w := X.w) rel
  obtain ⟨z, hd, vs0, r0, dd⟩ := dk_of I2.hok e
  cases r0
  refine ⟨rs, c, dd, fun h' dd' hs => ⟨.ref s.heap.objs.size, upd H2 s.heap.objs.size (.dK (mergeK [] kvs)), ?_, rfl, q2⟩⟩
  have hz : (mergeK [] kvs).length ≤ sizeLine := by
    have h1 := length_mergeK kvs []
    rw [List.length_nil] at h1
    rw [sizeLine_eq]; omega
  have he : ∃ q, h'.get? s.heap.objs.size = some q := let ⟨q, _, _, hq, _⟩ := dd'; ⟨q, hq⟩
  exact d_write I2 (by rw [e]; exact True.intro) hs he (dk_new hz hd (rk.merge .nil) dd')
theorem entG {κ α : Type} [Sc κ] [DecidableEq κ] [Kt κ] [Py α] {K : Fr} {Z : Hp} : ∀ (l : List (κ × α)) {vs : List V} {kvs : List (Key × V)} {m : List (κ × α)}, Paired (Py.R K Z) vs (l.map (·.2)) → Paired (EntK K Z) kvs m → Paired (EntK K Z) (mergeK kvs ((l.map fun q => Kt.key q.1).zip vs)) (l.foldl (fun m q => dPut m q.1 q.2) m)
  | [], _, _, _, .nil, h => h
  | q :: r, _, kvs, m, .cons hv t, h => entG r t (ent_put (k := q.1) (a := q.2) h hv)
theorem paired_nil_inv {α β : Type} {R : α → β → Prop} {xs : List α} (h : Paired R xs []) : xs = [] := by cases h; rfl
/-- the empty dict, ahead of its pairs -/
theorem Sep.dnew {κ α : Type} [Sc κ] [DecidableEq κ] [Kt κ] [Py α] {K : Fr} {Z0 H0 Z H : Hp} {G : List Rt} {p : Addr} (h : Sep K Z0 H0 Z H G) (hp : H p = none) : Step Z H Z (upd H p (.dK [])) ∧ Sep K Z0 H0 Z (upd H p (.dK [])) (⟨Sh.dc κ α, .ref p, ⟨[]⟩⟩ :: G) := by
  have st : Step Z H Z (upd H p (.dK [])) := Step.own h.zh hp
  exact ⟨st, h.own st (OwnD.shp ⟨⟨[], upd_same, .nil⟩, h.zh.free hp, hp⟩)⟩
theorem k_dispG {κ α : Type} [Sc κ] [DecidableEq κ] [Kt κ] [Py α] {K : Fr} {Z0 H0 Z H : Hp} {G : List Rt} {Q : VK} {p : Addr} {ps : List (V × V)} (h : Sep K Z0 H0 Z H G) (i : Nat) (e : G[i]? = some ⟨Sh.dc κ α, .ref p, ⟨[]⟩⟩) (l : List (κ × α)) {vs : List V} (hv : Paired (Py.R K Z) vs (l.map (·.2))) (h15 : l.length ≤ 15) (ep : ps = (l.map fun q => Sc.emb q.1).zip vs)
    (k : ∀ H', Sep K Z0 H0 Z H' (G.set i ⟨Sh.dc κ α, .ref p, ⟨dOf l⟩⟩) → Q (.ref p) H') : rDispG H p ps Q := by
  unfold rDispG
  have o := h.D i e
  obtain ⟨⟨xs, hl, pr⟩, nz, n0⟩ := o
  have pr : Paired (EntK K Z) xs ([] : List (κ × α)) := pr
  obtain rfl := paired_nil_inv pr
  have hvl : vs.length = l.length := by have := hv.pLen; rw [List.length_map] at this; exact this
  refine ⟨hl, (l.map fun q => Kt.key q.1).zip vs, ?_, by rw [List.length_zip, List.length_map]; omega, k _ (h.mutD i e (d' := ⟨dOf l⟩) ⟨⟨_, upd_same, entG l hv .nil⟩, nz, n0⟩)⟩
  rw [ep]
  apply List.ext_getElem (by simp)
  intro j h1 h2
  simp only [List.getElem_zip, List.getElem_map]
  rw [Kt.emb_is]
end Cd

set_option Elab.async false
set_option linter.all false
set_option maxRecDepth 100000
set_option maxHeartbeats 4000000
namespace Cd
open PySem L2 PyProof.Rows
/-! ### a field of a refusal that was handed over -/
theorem pe_xfP {X : Cx} {a C : Addr} {d : Option Addr} {p : Pn} {e : Expr} {te : TE} {pos : Pos} {n : Str} (T : XfC X.K C) (hno : PySem.W.findIn X.K (.ref C) n = some none)
    (hp : p ∈ X.pn) (h : Rf (.ref C) d a p) (he : PE X e te) (hb : attributeBase e n X.env (eval e X.env) = eval e X.env := by rfl) :
    PE X (.Attribute e n pos) (tXf a (.ref C) d C n te) := by
  obtain ⟨rfl, hz, hf⟩ := h
  refine ⟨fun pins s σ H Q I h => ?_⟩
  refine attr_of hb (thn (he.run pins s σ H _ I h) fun u s1 hh => ?_)
  obtain ⟨x, H1, I1, rx, ex, ec, dd, fs, v, ed, ea, l, q⟩ := hh
  subst ex
  obtain rfl : u = Value.ref p.1 := rx
  subst ed
  have ha := (I1.pin p (List.mem_append_left _ hp)).1
  obtain ⟨vs, hd⟩ := hf
  have hx : ObjOk X.prog X.w H1 s1.heap dd (.xd fs) := I1.hok dd _ ea
  obtain ⟨mA, hns, hr⟩ := hx
  obtain ⟨od, ho, hl⟩ := lookIn_ns hns
  obtain ⟨u, hu, ru⟩ := RelO.some_of (v := v) (o := mA n) (by rw [← l]; exact hr n)
  have J : PySem.W.InstAt s1.heap p.1 p.2 C (some od) := ⟨ha, hz.1, by unfold PySem.W.notCls; rw [hd] <;> rfl, by rw [hz.2]; exact ho⟩
  exact HandSPX.exc_get I1.kIn J T.ga T.gg T.exC (PySem.W.findObj_own T.hdC hno rfl (by rw [hl, hu])) (handed_of ru) ⟨v, H1, I1.tok _, ru, q⟩
/-! ### a new object that may be refused, made within a try -/
/-! ### .. handed on to another def -/
end Cd

set_option Elab.async false
set_option linter.all false
set_option maxRecDepth 100000
set_option maxHeartbeats 4000000
namespace Cd
open PySem L2 PyProof.Rows
/-! ### a dict of one's own things; the things at the keys sk are taken out -/
section
variable {κ α : Type} [Sc κ] [DecidableEq κ] [Kt κ]
def entS (S : Sh α) (sk : κ → Bool) (K : Fr) (Z H : Hp) : List (Key × V) → List Addr → List (κ × α) → Prop
  | kvs, ps, [] => kvs = [] ∧ ps = []
  | kvs, ps, e :: r => ∃ v ws qs rs, kvs = (Kt.key e.1, v) :: ws ∧ ps = qs ++ rs ∧ (if sk e.1 = true then qs = [] else S.R K Z H v qs e.2) ∧ entS S sk K Z H ws rs r
variable {S : Sh α} {K : Fr} {Z Z' H H' : Hp}
theorem entS_keep {sk : κ → Bool} : ∀ {m : List (κ × α)} {kvs : List (Key × V)} {ps : List Addr}, Same Z Z' → (∀ q ∈ ps, H' q = H q) → entS S sk K Z H kvs ps m → entS S sk K Z' H' kvs ps m
  | [], _, _, _, _, h => h
  | e :: r, _, _, s, h, ⟨v, ws, qs, rs, e1, e2, h1, h2⟩ => by
    refine ⟨v, ws, qs, rs, e1, e2, ?_, entS_keep s (fun q hq => h q (by rw [e2]; exact List.mem_append_right _ hq)) h2⟩
    by_cases c : sk e.1 = true
    · rw [if_pos c] at h1 ⊢; exact h1
    · rw [if_neg c] at h1 ⊢; exact S.keep s (fun q hq => h q (by rw [e2]; exact List.mem_append_left _ hq)) h1
theorem entS_stands {sk : κ → Bool} : ∀ {m : List (κ × α)} {kvs : List (Key × V)} {ps : List Addr}, entS S sk K Z H kvs ps m → ∀ q ∈ ps, ∃ u, H q = some u
  | [], _, _, ⟨_, e⟩, q, hq => by rw [e] at hq; cases hq
  | e :: r, _, _, ⟨v, ws, qs, rs, e1, e2, h1, h2⟩, q, hq => by
    rw [e2] at hq
    rcases List.mem_append.mp hq with hq | hq
    · by_cases c : sk e.1 = true
      · rw [if_pos c] at h1; rw [h1] at hq; cases hq
      · rw [if_neg c] at h1; exact S.stands h1 q hq
    · exact entS_stands h2 q hq
end
/-- a dict, its values at hand, with the things at the keys sk taken out -/
def Sh.dP {κ α : Type} [Sc κ] [DecidableEq κ] [Kt κ] (kvs : List (Key × V)) (sk : κ → Bool) (S : Sh α) : Sh (Dct κ α) where
  R := fun K Z H v ps d => ∃ p qs, v = .ref p ∧ ps = p :: qs ∧ H p = some (.dK kvs) ∧ (d.kv.map fun e : κ × α => e.1).Nodup ∧ entS S sk K Z H kvs qs d.kv
  keep := fun s h ⟨p, qs, e1, e2, h1, nd, h2⟩ => ⟨p, qs, e1, e2, (h p (by rw [e2]; exact List.mem_cons_self)).trans h1, nd, entS_keep s (fun q hq => h q (by rw [e2]; exact List.mem_cons_of_mem _ hq)) h2⟩
  stands := fun ⟨p, qs, e1, e2, h1, nd, h2⟩ q hq => by
    rw [e2] at hq
    rcases List.mem_cons.mp hq with rfl | hq
    · exact ⟨_, h1⟩
    · exact entS_stands h2 q hq
def Sh.dS {α : Type} (κ : Type) [Sc κ] [DecidableEq κ] [Kt κ] (S : Sh α) : Sh (Dct κ α) where
  R := fun K Z H v ps d => ∃ kvs, (Sh.dP kvs (fun _ => false) S).R K Z H v ps d
  keep := fun s h ⟨kvs, r⟩ => ⟨kvs, (Sh.dP kvs (fun _ => false) S).keep s h r⟩
  stands := fun ⟨kvs, r⟩ q hq => (Sh.dP kvs (fun _ => false) S).stands r q hq
section
variable {κ α β : Type} [Sc κ] [DecidableEq κ] [Kt κ] {S : Sh α}
instance {kvs : List (Key × V)} {sk : κ → Bool} : IsRef (Sh.dP kvs sk S) := ⟨fun ⟨p, _, e, _⟩ => ⟨p, e⟩⟩
instance : IsRef (Sh.dS κ S) := ⟨fun ⟨_, p, _, e, _⟩ => ⟨p, e⟩⟩
theorem entS_mut [MutS S] {sk : κ → Bool} {K : Fr} {Z H : Hp} : ∀ {m : List (κ × α)} {kvs : List (Key × V)} {ps : List Addr}, entS S sk K Z H kvs ps m → ∀ q ∈ ps, ∃ u, H q = some u ∧ MutO u
  | [], _, _, ⟨_, e⟩, q, hq => by rw [e] at hq; cases hq
  | e :: r, _, _, ⟨v, ws, qs, rs, e1, e2, h1, h2⟩, q, hq => by
    rw [e2] at hq
    rcases List.mem_append.mp hq with hq | hq
    · by_cases c : sk e.1 = true
      · rw [if_pos c] at h1; rw [h1] at hq; cases hq
      · rw [if_neg c] at h1; exact MutS.mt h1 q hq
    · exact entS_mut h2 q hq
theorem entS_imm [ImmS S] {sk : κ → Bool} {K : Fr} {Z Z' H : Hp} (s : ∀ b u, Z b = some u → ¬ MutO u → Z' b = some u) : ∀ {m : List (κ × α)} {kvs : List (Key × V)} {ps : List Addr}, entS S sk K Z H kvs ps m → entS S sk K Z' H kvs ps m
  | [], _, _, h => h
  | e :: r, _, _, ⟨v, ws, qs, rs, e1, e2, h1, h2⟩ => by
    refine ⟨v, ws, qs, rs, e1, e2, ?_, entS_imm s h2⟩
    by_cases c : sk e.1 = true
    · rw [if_pos c] at h1 ⊢; exact h1
    · rw [if_neg c] at h1 ⊢; exact ImmS.imm s h1
theorem entS_dat [Py α] [Dat S] {K : Fr} {Z : Hp} : ∀ {m : List (κ × α)} {kvs : List (Key × V)} {ps : List Addr}, entS S (fun _ => false) K Z Z kvs ps m → Paired (EntK K Z) kvs m
  | [], _, _, ⟨e, _⟩ => by rw [e]; exact .nil
  | e :: r, _, _, ⟨v, ws, qs, rs, e1, e2, h1, h2⟩ => by
    rw [e1]
    exact .cons ⟨rfl, Dat.dat (by simpa using h1)⟩ (entS_dat h2)
instance [MutS S] : MutS (Sh.dS κ S) := ⟨fun ⟨kvs, p, qs, e1, e2, h1, _, h2⟩ q hq => by
  rw [e2] at hq
  rcases List.mem_cons.mp hq with rfl | hq
  · exact ⟨_, h1, trivial⟩
  · exact entS_mut h2 q hq⟩
instance [ImmS S] : ImmS (Sh.dS κ S) := ⟨fun s ⟨kvs, p, qs, e1, e2, h1, nd, h2⟩ => ⟨kvs, p, qs, e1, e2, h1, nd, entS_imm s h2⟩⟩
instance [Py α] [Dat S] : Dat (Sh.dS κ S) := ⟨fun ⟨kvs, p, qs, e1, e2, h1, nd, h2⟩ => ⟨p, kvs, e1, h1, entS_dat h2⟩⟩
variable {K : Fr} {Z0 H0 Z H : Hp} {G : List Rt} {v : V} {d : Dct κ α} {kvs : List (Key × V)} {sk : κ → Bool} {Q : VK}
end
end Cd

set_option Elab.async false
set_option linter.all false
set_option maxRecDepth 100000
set_option maxHeartbeats 4000000
namespace Cd
open PySem L2 PyProof.Rows
/-! ### an object of one of several classes: its methods -/
structure MetU (P : Program) (w : World) (K : PySem.W.Frag) (mg : Str → Option Value) (base : Heap) (CX : CXT) (k : Nat) (ns : List Str) (m : Str) (ps : List Str) (spn : Str → Sp) : Prop where
  ex : ∀ n ∈ ns, ∃ (C f : Addr) (fd : FuncData), PySem.W.nsIn K mainGlobals n = some (some (.ref C)) ∧ Cls K C ∧ Meth K C m f ∧ FnOk P w K mg base CX k f fd ps (spn n) ∧ Binds K fd ps []
section
variable {P : Program} {w : World} {K : PySem.W.Frag} {mg : Str → Option Value} {base : Heap} {CX : CXT} {j k : Nat} {ns : List Str} {m n : Str} {ps : List Str} {spn : Str → Sp} {C : Addr} {sp : Sp}
theorem MetU.nil : MetU P w K mg base CX k [] m ps spn := ⟨fun n hn => nomatch hn⟩
theorem MetU.cons (c : MetX P w K mg base CX j C m ps sp) (hj : j ≤ k) (nk : PySem.W.nsIn K mainGlobals n = some (some (.ref C))) (h : ∀ vs H Q E, spn n vs H Q E → sp vs H Q E) (r : MetU P w K mg base CX k ns m ps spn) : MetU P w K mg base CX k (n :: ns) m ps spn := by
  refine ⟨fun n' hn => ?_⟩
  rcases List.mem_cons.mp hn with rfl | hn
  · obtain ⟨f, fd, cl, hm, F, hb⟩ := c.ex
    exact ⟨C, f, fd, nk, cl, hm, (F.mono hj).imp h, hb⟩
  · exact r.ex n' hn
end
def tMethU (K : PySem.W.Frag) (ns : List Str) (m : Str) (spn : Str → Sp) (E : L2.St → XK) (ta : TE) (t : TA) : TE := fun σ H Q => ta σ H fun x H1 => ∃ n C a dx fs, n ∈ ns ∧ PySem.W.nsIn K mainGlobals n = some (some (.ref C)) ∧ x = .ref a ∧ H1 a = some (.ins C dx fs) ∧ fs.lookup m = none ∧ t σ H1 fun vs H2 => spn n (x :: vs) H2 Q (E σ)
section
variable {X : Cx} {CX : CXT} {k : Nat} {ns : List Str} {m : Str} {ps : List Str} {spn : Str → Sp} {ta : TE} {t : TA} {o e : Expr} {es : List Expr} {pos apos : Pos}
end
/-! what is known of such an object: the name of its class, its attributes' names -/
class UniS {α : Type} (S : Sh α) (nm : α → Str) (ns fl : List Str) : Prop where
  u : ∀ {K : Fr} {Z H : Hp} {v : V} {ps : List Addr} {a : α}, S.R K Z H v ps a → nm a ∈ ns ∧ ∃ C p dx fs, PySem.W.nsIn K mainGlobals (nm a) = some (some (.ref C)) ∧ v = .ref p ∧ H p = some (.ins C dx fs) ∧ ∀ m, m ∉ fl → fs.lookup m = none
class UniT (α : Type) [Py α] (nm : α → Str) (ns fl : List Str) : Prop where
  u : ∀ {K : Fr} {Z : Hp} {v : V} {a : α}, Py.R K Z v a → nm a ∈ ns ∧ ∃ C p dx fs, PySem.W.nsIn K mainGlobals (nm a) = some (some (.ref C)) ∧ v = .ref p ∧ Z p = some (.ins C dx fs) ∧ ∀ m, m ∉ fl → fs.lookup m = none
theorem OwnO.as {α β : Type} {S : Sh α} {T : Sh β} {K : Fr} {H0 Z H : Hp} {v : V} {ps : List Addr} {a : α} {b : β} (o : OwnO S K H0 Z H v ps a) (r : T.R K Z H v ps b) : OwnO T K H0 Z H v ps b := ⟨r, o.nd, o.nz, o.n0⟩
/-- one's own thing, seen as a thing of a wider kind -/
theorem Sep.wide {α β : Type} {S : Sh α} {T : Sh β} {K : Fr} {Z0 H0 Z H : Hp} {G : List Rt} {v : V} {a : α} {b : β} (h : Sep K Z0 H0 Z H G) (i : Nat) (e : G[i]? = some ⟨S, v, a⟩) (c : ∀ ps, S.R K Z H v ps a → T.R K Z H v ps b) : Sep K Z0 H0 Z H (G.set i ⟨T, v, b⟩) := by
  obtain ⟨ps, o, g⟩ := h.chg i e
  exact g h.st (Same.refl _) (fun q u _ hu => ⟨hu, rfl⟩) (o.as (c ps o.r)) fun q hq => .inl hq
end Cd

set_option Elab.async false
set_option linter.all false
set_option maxRecDepth 100000
set_option maxHeartbeats 4000000
namespace Cd
open PySem L2 PyProof.Rows
/-! ### data of any kind of which every list is one's own -/
mutual
inductive Dyo (K : Fr) (Z H : Hp) : V → List Addr → PyData → Prop
  | non : Dyo K Z H .non [] .none
  | bl (b : Bool) : Dyo K Z H (.bl b) [] (.bool b)
  | int (i : Int) : Dyo K Z H (.int i) [] (.int i)
  | str (x : Str) : Dyo K Z H (.str x) [] (.str x)
  | lst {a : Addr} {xs : List V} {qs : List Addr} {ds : List PyData} : H a = some (.lst xs) → DyoAll K Z H xs qs ds → Dyo K Z H (.ref a) (a :: qs) (.list ds)
  | tup {a : Addr} {xs : List V} {qs : List Addr} {ds : List PyData} : Z a = some (.tup xs) → DyoAll K Z H xs qs ds → Dyo K Z H (.ref a) qs (.tuple ds)
inductive DyoAll (K : Fr) (Z H : Hp) : List V → List Addr → List PyData → Prop
  | nil : DyoAll K Z H [] [] []
  | cons {v : V} {vs : List V} {qs rs : List Addr} {d : PyData} {ds : List PyData} : Dyo K Z H v qs d → DyoAll K Z H vs rs ds → DyoAll K Z H (v :: vs) (qs ++ rs) (d :: ds)
end
section
variable {K : Fr} {Z Z' H H' : Hp}
mutual
theorem Dyo.keep (s : ∀ b u, Z b = some u → ¬ MutO u → Z' b = some u) : ∀ (d : PyData) (v : V) (ps : List Addr), (∀ q ∈ ps, H' q = H q) → Dyo K Z H v ps d → Dyo K Z' H' v ps d
  | .none, _, _, _, h => by cases h; exact .non
  | .bool b, _, _, _, h => by cases h; exact .bl b
  | .int i, _, _, _, h => by cases h; exact .int i
  | .str x, _, _, _, h => by cases h; exact .str x
  | .list ds, _, _, e, h => by
    cases h with
    | lst hs ha => exact .lst ((e _ List.mem_cons_self).trans hs) (DyoAll.keep s ds _ _ (fun q hq => e q (List.mem_cons_of_mem _ hq)) ha)
  | .tuple ds, _, _, e, h => by
    cases h with
    | tup hs ha => exact .tup (s _ _ hs fun z => z) (DyoAll.keep s ds _ _ e ha)
  | .dict _, _, _, _, h => by cases h
theorem DyoAll.keep (s : ∀ b u, Z b = some u → ¬ MutO u → Z' b = some u) : ∀ (ds : List PyData) (vs : List V) (ps : List Addr), (∀ q ∈ ps, H' q = H q) → DyoAll K Z H vs ps ds → DyoAll K Z' H' vs ps ds
  | [], _, _, _, h => by cases h; exact .nil
  | d :: ds, _, _, e, h => by
    cases h with
    | cons h1 h2 => exact .cons (Dyo.keep s d _ _ (fun q hq => e q (List.mem_append_left _ hq)) h1) (DyoAll.keep s ds _ _ (fun q hq => e q (List.mem_append_right _ hq)) h2)
end
mutual
theorem Dyo.mut : ∀ (d : PyData) (v : V) (ps : List Addr), Dyo K Z H v ps d → ∀ q ∈ ps, ∃ u, H q = some u ∧ MutO u
  | .none, _, _, h, q, hq => by cases h; cases hq
  | .bool b, _, _, h, q, hq => by cases h; cases hq
  | .int i, _, _, h, q, hq => by cases h; cases hq
  | .str x, _, _, h, q, hq => by cases h; cases hq
  | .list ds, _, _, h, q, hq => by
    cases h with
    | lst hs ha =>
      rcases List.mem_cons.mp hq with rfl | hq
      · exact ⟨_, hs, trivial⟩
      · exact DyoAll.mut ds _ _ ha q hq
  | .tuple ds, _, _, h, q, hq => by
    cases h with
    | tup hs ha => exact DyoAll.mut ds _ _ ha q hq
  | .dict _, _, _, h, _, _ => by cases h
theorem DyoAll.mut : ∀ (ds : List PyData) (vs : List V) (ps : List Addr), DyoAll K Z H vs ps ds → ∀ q ∈ ps, ∃ u, H q = some u ∧ MutO u
  | [], _, _, h, q, hq => by cases h; cases hq
  | d :: ds, _, _, h, q, hq => by
    cases h with
    | cons h1 h2 => exact (List.mem_append.mp hq).elim (Dyo.mut d _ _ h1 q) (DyoAll.mut ds _ _ h2 q)
end
mutual
theorem Dyo.dat : ∀ (d : PyData) (v : V) (ps : List Addr), Dyo K Z Z v ps d → Dyr K Z v d
  | .none, _, _, h => by cases h; exact .non
  | .bool b, _, _, h => by cases h; exact .bl b
  | .int i, _, _, h => by cases h; exact .int i
  | .str x, _, _, h => by cases h; exact .str x
  | .list ds, _, _, h => by
    cases h with
    | lst hs ha => exact .lst hs (DyoAll.dat ds _ _ ha)
  | .tuple ds, _, _, h => by
    cases h with
    | tup hs ha => exact .tup hs (DyoAll.dat ds _ _ ha)
  | .dict _, _, _, h => by cases h
theorem DyoAll.dat : ∀ (ds : List PyData) (vs : List V) (ps : List Addr), DyoAll K Z Z vs ps ds → DyrAll K Z vs ds
  | [], _, _, h => by cases h; exact .nil
  | d :: ds, _, _, h => by
    cases h with
    | cons h1 h2 => exact .cons (Dyo.dat d _ _ h1) (DyoAll.dat ds _ _ h2)
end
end
/-! no list in it -/
mutual
def immD : PyData → Bool
  | .list _ => false
  | .tuple xs => immA xs
  | .dict _ => false
  | _ => true
def immA : List PyData → Bool
  | [] => true
  | d :: ds => immD d && immA ds
end
mutual
theorem Dyr.imm {K : Fr} {Z H : Hp} : ∀ (d : PyData) (v : V), immD d = true → Dyr K Z v d → Dyo K Z H v [] d
  | .none, _, _, h => by cases h; exact .non
  | .bool b, _, _, h => by cases h; exact .bl b
  | .int i, _, _, h => by cases h; exact .int i
  | .str x, _, _, h => by cases h; exact .str x
  | .list ds, _, g, h => by simp [immD] at g
  | .tuple ds, _, g, h => by
    cases h with
    | tup hs ha => exact .tup hs (DyrAll.imm ds _ (by simpa [immD] using g) ha)
  | .dict _, _, g, h => by cases h
theorem DyrAll.imm {K : Fr} {Z H : Hp} : ∀ (ds : List PyData) (vs : List V), immA ds = true → DyrAll K Z vs ds → DyoAll K Z H vs [] ds
  | [], _, _, h => by cases h; exact .nil
  | d :: ds, _, g, h => by
    rw [immA, Bool.and_eq_true] at g
    cases h with
    | cons h1 h2 => exact .cons (qs := []) (rs := []) (Dyr.imm d _ g.1 h1) (DyrAll.imm ds _ g.2 h2)
end
def Sh.dy : Sh PyData where
  R := fun K Z H v ps d => Dyo K Z H v ps d
  keep := fun s h r => Dyo.keep (fun b u e _ => s b u e) _ _ _ h r
  stands := fun r q hq => let ⟨u, e, _⟩ := Dyo.mut _ _ _ r q hq; ⟨u, e⟩
instance : MutS Sh.dy := ⟨fun r q hq => Dyo.mut _ _ _ r q hq⟩
instance : ImmS Sh.dy := ⟨fun s r => Dyo.keep s _ _ _ (fun _ _ => rfl) r⟩
instance : Dat Sh.dy := ⟨fun r => Dyo.dat _ _ _ r⟩
end Cd

set_option Elab.async false
set_option linter.all false
set_option maxRecDepth 100000
set_option maxHeartbeats 4000000
namespace Cd
open PySem L2 PyProof.Rows
/-! ### walks over a dict, with a dict of one's own things at hand -/
theorem entS_fz {κ α : Type} [Sc κ] [DecidableEq κ] [Kt κ] {S : Sh α} [NDS S] {sk : κ → Bool} {K : Fr} {Z Z' H : Hp} (s : FzR Z Z') : ∀ {m : List (κ × α)} {kvs : List (Key × V)} {ps : List Addr}, entS S sk K Z H kvs ps m → entS S sk K Z' H kvs ps m
  | [], _, _, h => h
  | e :: r, _, _, ⟨v, ws, qs, rs, e1, e2, h1, h2⟩ => by
    refine ⟨v, ws, qs, rs, e1, e2, ?_, entS_fz s h2⟩
    by_cases c : sk e.1 = true
    · rw [if_pos c] at h1 ⊢; exact h1
    · rw [if_neg c] at h1 ⊢; exact NDS.fz s h1
instance {κ α : Type} [Sc κ] [DecidableEq κ] [Kt κ] {S : Sh α} [NDS S] : NDS (Sh.dS κ S) := ⟨fun s ⟨kvs, p, qs, e1, e2, h1, nd, h2⟩ => ⟨kvs, p, qs, e1, e2, h1, nd, entS_fz s h2⟩⟩
instance {nm : Str} {ns : List Str} : NDS (Sh.husk nm ns) := ⟨fun _ h => h⟩
mutual
theorem Dyr.fz {K : Fr} {Z Z' : Hp} (s : FzR Z Z') : ∀ (d : PyData) (v : V), Dyr K Z v d → Dyr K Z' v d
  | .none, _, h => by cases h; exact .non
  | .bool b, _, h => by cases h; exact .bl b
  | .int i, _, h => by cases h; exact .int i
  | .str x, _, h => by cases h; exact .str x
  | .list ds, _, h => by
    cases h with
    | lst hs ha => exact .lst (s.l hs) (DyrAll.fz s ds _ ha)
  | .tuple ds, _, h => by
    cases h with
    | tup hs ha => exact .tup (s.t hs) (DyrAll.fz s ds _ ha)
  | .dict _, _, h => by cases h
theorem DyrAll.fz {K : Fr} {Z Z' : Hp} (s : FzR Z Z') : ∀ (ds : List PyData) (vs : List V), DyrAll K Z vs ds → DyrAll K Z' vs ds
  | [], _, h => by cases h; exact .nil
  | d :: ds, _, h => by
    cases h with
    | cons h1 h2 => exact .cons (Dyr.fz s d _ h1) (DyrAll.fz s ds _ h2)
end
instance : ND PyData := ⟨fun s h => Dyr.fz s _ _ h⟩
class NDSL {β : Type} (T : ShL β) : Prop where
  fz : ∀ {K : Fr} {Z Z' H : Hp} {vs : List V} {ps : List Addr} {b : β}, FzR Z Z' → T.R K Z H vs ps b → T.R K Z' H vs ps b
instance : NDSL ShL.nil := ⟨fun _ h => h⟩
instance {α β : Type} {S : Sh α} {T : ShL β} [NDS S] [NDSL T] : NDSL (ShL.cons S T) := ⟨fun s ⟨v, ws, qs, rs, e1, e2, h1, h2⟩ => ⟨v, ws, qs, rs, e1, e2, NDS.fz s h1, NDSL.fz s h2⟩⟩
/-! ### sorted(d), keys texts -/
def rSortDSQ : List V → Hp → VK → Prop := fun xs H Q => ∃ (a : Addr) (kvs : List (Key × V)) (ks : List Str), xs = [.ref a] ∧ Rd H a (.dK kvs) ∧ kvs.map (·.1) = ks.map Sum.inr ∧ ks.length < 64 ∧ ∀ ys p, ys.Perm ks → sortedS ys = true → H p = none → Q (.ref p) (upd H p (.lst (ys.map V.str)))
end Cd

set_option Elab.async false
set_option linter.all false
set_option maxRecDepth 100000
set_option maxHeartbeats 4000000
namespace Cd
open PySem L2 PyProof.Rows
/-! ### a dict of one's own, locked while it is walked -/
section
variable {κ α : Type} [Sc κ] [DecidableEq κ] [Kt κ] [Py α] {K : Fr} {Z0 H0 Z H Z' H' : Hp} {G : List Rt} {d : Addr} {m : Dct κ α} {kvs : List (Key × V)} {od : Obj} {u : HO}
end
end Cd
namespace Cd
end Cd
namespace Cd
open PySem L2 PyProof.Rows
/-! ### attributes in a try: K by its name -/
theorem pe_fldK {X : Cx} {K : PySem.W.Frag} {e : Expr} {ta : TE} {f : Str} {pos : Pos} (eK : X.K = K) (he : PE X e ta) (hb : attributeBase e f X.env (eval e X.env) = eval e X.env) : PE X (.Attribute e f pos) (tFld K ta f) := by
  subst eK
  exact pe_fld he hb
theorem ps_fldK {X : Cx} {K : PySem.W.Frag} {o value : Expr} {ta tv : TE} {f : Str} {pos pos' : Pos} (eK : X.K = K) (ha : PE X o ta) (hv : PE X value tv) (hs : swapsWith value (some (.Attribute o f pos')) pos.line X.env = pure false) : PS X (.Assign [.Attribute o f pos'] value pos) (sFld K ta tv f) := by
  subst eK
  exact ps_fld ha hv hs
end Cd

set_option Elab.async false
set_option linter.all false
set_option maxRecDepth 100000
set_option maxHeartbeats 4000000
namespace Cd
open PySem L2 PyProof.Rows
/-! ### data of one's own, put together -/
section
variable {K : Fr} {Z0 H0 Z H : Hp} {G : List Rt}
theorem dyTup_ex {d : PyData} (h : dyTup d = true) : ∃ ds, d = .tuple ds := by
  cases d with
  | tuple ds => exact ⟨ds, rfl⟩
  | _ => cases h
theorem dyr_all {α : Type} [Py α] [ToD α] : ∀ {xs : List V} {l : List α}, Paired (Py.R K Z) xs l → DyrAll K Z xs (l.map ToD.td)
  | _, _, .nil => .nil
  | _, _, .cons r t => .cons (ToD.tr r) (dyr_all t)
theorem dyo_row {H : Hp} : ∀ {ds : List PyData} {xs : List V} {ps : List Addr}, allR Sh.dy K Z H xs ps ds → DyoAll K Z H xs ps ds
  | [], _, _, ⟨e1, e2⟩ => by subst e1 e2; exact .nil
  | d :: r, _, _, ⟨v, ws, qs, rs, e1, e2, h1, h2⟩ => by subst e1 e2; exact .cons h1 (dyo_row h2)
theorem row_dyo {H : Hp} : ∀ {ds : List PyData} {xs : List V} {ps : List Addr}, DyoAll K Z H xs ps ds → allR Sh.dy K Z H xs ps ds
  | [], _, _, h => by cases h; exact ⟨rfl, rfl⟩
  | d :: r, _, _, h => by
    cases h with
    | cons h1 h2 => exact ⟨_, _, _, _, rfl, rfl, h1, row_dyo h2⟩
end
/-! ### data of six taken apart by a target -/
/-! ### a part of one's own data, taken out and put in again -/
def Sh.dyX (xs : List V) (n : Nat) : Sh PyData where
  R := fun K Z H v ps d => ∃ a, v = .ref a ∧ Z a = some (.tup xs) ∧ dyTup d = true ∧ allX Sh.dy K Z H n xs ps (dyItems d)
  keep := fun s h ⟨a, e1, hz, t, r⟩ => ⟨a, e1, s _ _ hz, t, allX_keep s h r⟩
  stands := fun ⟨a, e1, hz, t, r⟩ q hq => allX_stands r q hq
section
variable {K : Fr} {Z0 H0 Z H : Hp} {G : List Rt} {v : V} {d : PyData} {i : Int}
end
section
variable {K : Fr} {Z H : Hp}
mutual
theorem imm_told : ∀ (d : PyData) (v : V) (ps : List Addr), immD d = true → Dyo K Z H v ps d → ps = [] ∧ Dyr K Z v d
  | .none, _, _, _, h => by cases h; exact ⟨rfl, .non⟩
  | .bool b, _, _, _, h => by cases h; exact ⟨rfl, .bl b⟩
  | .int i, _, _, _, h => by cases h; exact ⟨rfl, .int i⟩
  | .str x, _, _, _, h => by cases h; exact ⟨rfl, .str x⟩
  | .list ds, _, _, g, h => by simp [immD] at g
  | .tuple ds, _, _, g, h => by
    cases h with
    | tup hs ha =>
      obtain ⟨e, r⟩ := immA_told ds _ _ (by simpa [immD] using g) ha
      exact ⟨e, .tup hs r⟩
  | .dict _, _, _, g, h => by cases h
theorem immA_told : ∀ (ds : List PyData) (vs : List V) (ps : List Addr), immA ds = true → DyoAll K Z H vs ps ds → ps = [] ∧ DyrAll K Z vs ds
  | [], _, _, _, h => by cases h; exact ⟨rfl, .nil⟩
  | d :: ds, _, _, g, h => by
    rw [immA, Bool.and_eq_true] at g
    cases h with
    | cons h1 h2 =>
      obtain ⟨e1, r1⟩ := imm_told d _ _ g.1 h1
      obtain ⟨e2, r2⟩ := immA_told ds _ _ g.2 h2
      subst e1 e2
      exact ⟨rfl, .cons r1 r2⟩
end
end
theorem all_pr {K : Fr} {Z : Hp} : ∀ {vs : List V} {ds : List PyData}, DyrAll K Z vs ds → Paired (Py.R K Z) vs ds
  | _, _, .nil => .nil
  | _, _, .cons h t => .cons h (all_pr t)
theorem dyLst_eq {d : PyData} (h : dyLst d = true) : d = .list (dyItems d) := by
  cases d with
  | list l => rfl
  | _ => cases h
section
variable {K : Fr} {Z0 H0 Z H : Hp} {G : List Rt} {v : V}
theorem Sep.dyL {d : PyData} (h : Sep K Z0 H0 Z H G) (i : Nat) (e : G[i]? = some ⟨Sh.dy, v, d⟩) (hd : dyLst d = true) (g : immA (dyItems d) = true) : Sep K Z0 H0 Z H (G.set i ⟨Sh.lt PyData, v, dyItems d⟩) :=
  h.wide i e fun ps r => by
    have r : Dyo K Z H v ps d := r
    rw [dyLst_eq hd] at r
    cases r with
    | lst hs ha =>
      obtain ⟨e2, r2⟩ := immA_told _ _ _ g ha
      subst e2
      exact ⟨_, _, rfl, rfl, hs, all_pr r2⟩
end
end Cd

set_option Elab.async false
set_option linter.all false
set_option maxRecDepth 100000
set_option maxHeartbeats 4000000
namespace Cd
open PySem L2 PyProof.Rows
/-! ### sum(xs), xs.index(x), a list of one's own things emptied -/
section
variable {K : Fr} {Z H : Hp} {Q : VK} {v : V}
end
/-! data that are no lists -/
end Cd

set_option Elab.async false
set_option linter.all false
set_option maxRecDepth 100000
set_option maxHeartbeats 4000000
namespace Cd
open PySem L2 PyProof.Rows
/-! ### while, the test of which changes the state -/
def whS {S : Type} (c : S → R (S × Bool)) (f : S → R S) : Nat → S → R S
  | 0, _ => .bad
  | n + 1, s => (c s).bind fun t => if t.2 = true then (f t.1).bind fun s' => whS c f n s' else .ok t.1
section
variable {S : Type} {W : S → Prop} {E : Er → Prop}
theorem Good.whS {c : S → R (S × Bool)} {f : S → R S} {n : Nat} {s : S} (h : Good (whS c f (n + 1) s) W E) : ∃ W' : S × Bool → Prop, Good (c s) W' E ∧ (∀ t, W' (t, true) → ∃ W2 : S → Prop, Good (f t) W2 E ∧ ∀ s', W2 s' → Good (Cd.whS c f n s') W E) ∧ ∀ t, W' (t, false) → W t :=
  ⟨_, Good.bnd h, fun t h => ⟨_, Good.bnd (Good.ifT rfl h), fun _ h => h⟩, fun t h => Good.ifF (fun e => nomatch e) h⟩
theorem Yes.whS {c : S → R (S × Bool)} {f : S → R S} {s : S} (I : S → Prop) (mu : S → Nat) (h0 : I s) (hc : ∀ s, I s → Yes (c s) fun t => if t.2 = true then Yes (f t.1) (fun s' => I s' ∧ mu s' < mu s) else W t.1) {n : Nat} (hn : mu s < n) : Yes (Cd.whS c f n s) W := by
  induction n generalizing s with
  | zero => omega
  | succ n ih =>
    refine Yes.bind (hc s h0) fun t ht => ?_
    obtain ⟨t, b⟩ := t
    cases b with
    | false => exact ⟨_, rfl, ht⟩
    | true => exact Yes.bind (P := fun s' => I s' ∧ mu s' < mu s) ht fun s' h' => ih h'.1 (by omega)
end
end Cd

set_option Elab.async false
set_option linter.all false
set_option maxRecDepth 100000
set_option maxHeartbeats 4000000
namespace Cd
open PySem L2 PyProof.Rows
/-! ### d.pop(k) of a dict of one's own -/
def rDPopQ (a : Addr) : V → Hp → VK → Prop := fun y H Q => ∃ (kvs : List (Key × V)) (k : Key) (v : V), H a = some (.dK kvs) ∧ y = kV k ∧ valV kvs k = some v ∧ Q v (upd H a (.dK (dropK kvs k)))
def tDPopQ (td ty : TE) : TE := fun σ H Q => td σ H fun x H1 => rIsD x H1 fun a => ty σ H1 fun y H2 => rDPopQ a y H2 Q
section
variable {κ α : Type} [Sc κ] [DecidableEq κ] [Kt κ] [Py α] {K : Fr} {Z H Z0 H0 Z' H' : Hp} {Q : VK}
end
/-! ### refusals that bear nothing -/
def NPay : Er → Prop
  | .NoOrder _ _ => False
  | .Meet _ _ => False
  | _ => True
/-- a refusal that bears something is not looked for -/
def R.np {α : Type} (m : R α) : R α := match m with
  | .ex (.NoOrder _ _) => .bad
  | .ex (.Meet _ _) => .bad
  | m => m
@[simp] theorem R.np_ok {α : Type} (a : α) : (R.ok a).np = .ok a := rfl
theorem Good.np {α : Type} {m : R α} {W : α → Prop} {E : Er → Prop} (h : Good m.np W E) : Good m W (fun e => E e ∧ NPay e) := by
  cases m with
  | ok a => exact h
  | bad => exact h
  | ex e => cases e <;> first | exact ⟨h, trivial⟩ | exact h.elim
theorem ExR.np {ca : CA} {K : Fr} {Z H Z' H' : Hp} {e : Er} {c : Value} {d : Option Addr} (n : NPay e) (h : ExR ca K Z H e c d) : ExR ca K Z' H' e c d := by
  cases e <;> first | exact h | exact n.elim
/-! ### a token is out behind a test with a written number or text -/
def PTk (X : Cx) (e : Expr) (t : TT) : Prop := ∀ (pins : List (Addr × Obj)) (s : Shared) (σ : L2.St) (H : Hp) (Q : Bool → Hp → Prop), Inv X pins σ H s → t σ H Q → wpAny (model X.prog X.w) X.A (isTrue e X.env (eval e X.env)) (fun b s1 => 1 ≤ s1.toks ∧ TP X pins σ Q b s1) X.xe s
section
variable {X : Cx} {a b : Expr} {ta tb : TE} {pos : Pos}
end
section
variable {X : Cx} {CX : CXT} {x : Str} {k : Nat} {ps : List Str} {sp : Sp} {E : XK} {t : TA} {e o : Expr} {es : List Expr} {to : TE} {p pos apos cpos : Pos} {T id : String} {name : Str} {r : V → List V → Hp → VK → Prop}
end
end Cd

set_option Elab.async false
set_option linter.all false
set_option maxRecDepth 100000
set_option maxHeartbeats 4000000
namespace Cd
open PySem L2 PyProof.Rows
open PySem.SeqAt (EqAt EqIn)
/-! ### == of pairs that hold a dict -/
section
variable {κ α β : Type} [Sc κ] [DecidableEq κ] [Kt κ] [Py α] [EqA α] [Py β] [EqA β]
theorem dGet_ofN {κ α : Type} [DecidableEq κ] {m : List (κ × α)} (nd : (m.map (·.1)).Nodup) {k : κ} {a : α} (h : (k, a) ∈ m) : dGet m k = some a := by
  induction m with
  | nil => cases h
  | cons p r ih =>
    rw [List.map_cons, List.nodup_cons] at nd
    rcases List.mem_cons.mp h with rfl | h
    · exact dGet_pos rfl
    · rw [dGet_neg (fun e => nd.1 (by rw [e]; exact List.mem_map_of_mem (f := (·.1)) h))]
      exact ih nd.2 h
theorem ent_both {K : Fr} {H : Hp} : ∀ {ks : List (Key × V)} {m n : List (κ × α)}, Paired (EntK K H) ks m → Paired (EntK K H) ks n → n.map (·.1) = m.map (·.1) ∧ ∀ p ∈ m, ∃ b, (p.1, b) ∈ n ∧ EqA.eqd p.2 b = true
  | _, _, _, .nil, .nil => ⟨rfl, fun _ h => nomatch h⟩
  | _, p :: m, q :: n, .cons r t, .cons r2 t2 => by
    obtain ⟨e1, e2⟩ := ent_both t t2
    have e : p.1 = q.1 := Kt.inj (r.1.symm.trans r2.1)
    refine ⟨by rw [List.map_cons, List.map_cons, e1, e], fun x hx => ?_⟩
    rcases List.mem_cons.mp hx with rfl | hx
    · exact ⟨q.2, by rw [e]; exact List.mem_cons_self, EqA.same r.2 r2.2⟩
    · obtain ⟨b, h1, h2⟩ := e2 x hx
      exact ⟨b, List.mem_cons_of_mem _ h1, h2⟩
theorem eqDs_same {K : Fr} {H : Hp} {ks : List (Key × V)} {m n : Dct κ α} (pa : Paired (EntK K H) ks m.kv) (pb : Paired (EntK K H) ks n.kv) (nd : (ks.map (·.1)).Nodup) : eqDs m n = true := by
  obtain ⟨e1, e2⟩ := ent_both pa pb
  have nk : (n.kv.map (·.1)).Nodup := by
    have := ent_keys pb
    rw [this] at nd
    rw [show (n.kv.map fun q => Kt.key q.1) = (n.kv.map (·.1)).map Kt.key by rw [List.map_map]; rfl] at nd
    exact (List.pairwise_map.mp nd).imp fun h e => h (by rw [e])
  unfold eqDs
  rw [Bool.and_eq_true, beq_iff_eq, List.all_eq_true]
  refine ⟨by rw [← pa.pLen, ← pb.pLen], fun p hp => ?_⟩
  obtain ⟨b, h1, h2⟩ := e2 p hp
  rw [dGet_ofN nk h1]; exact h2
theorem hitsDIn {X : Cx} {pins : List (Addr × Obj)} {σ : L2.St} {H : Hp} {s : Shared} {A : Around} (I : Inv X pins σ H s) (hu : A.units + EqA.dep α < cLine) {n : List (κ × α)} {kb : List (Key × V)} {vb : List (Key × Value)} (pb : Paired (EntK X.K H) kb n) (rb : KV kb vb) :
    ∀ {m : List (κ × α)} {ka : List (Key × V)} {va : List (Key × Value)}, Paired (EntK X.K H) ka m → KV ka va → PySem.W.KeqHitsIn X.prog X.w A s vb va (m.all fun p => match dGet n p.1 with | none => false | some b => EqA.eqd p.2 b)
  | _, _, _, .nil, .nil => .nil
  | _, _, (key, v) :: r, .cons (b := q) e t, .cons h t2 => by
    have e1 : Kt.key q.1 = key := e.1.symm.trans h.1
    rw [List.all_cons]
    have rr := rb.val key
    rw [← e1] at rr ⊢
    rcases ent_get q.1 pb with ⟨h1, h2⟩ | ⟨w, a, h1, h2, h3⟩
    · rw [h2]
      dsimp only
      rw [Bool.false_and]
      rw [h1] at rr
      refine .miss ?_
      cases hv : valueAt vb (Kt.key q.1) with
      | none => rfl
      | some y => rw [hv] at rr; exact rr.elim
    · rw [h2]
      dsimp only
      rw [h1] at rr
      obtain ⟨y, hy, ry⟩ := rr.some_of
      exact .hit hy ((EqA.at_ I e.2 h3 h.2 ry hu).inModel _ _) (hitsDIn I hu pb rb t t2)
/-- == alone -/
class EqE (α : Type) [Py α] where
  eqe : α → α → Bool
  dpe : Nat
  cmp : ∀ {X : Cx} {pins : List (Addr × Obj)} {σ : L2.St} {H : Hp} {s : Shared} {x y : V} {v u : Value} {a b : α} {A : Around}, Inv X pins σ H s → Py.R X.K H x a → Py.R X.K H y b → RelV x v → RelV y u → A.units + dpe < cLine →
    ∀ (E Q : Value → Shared → Prop), Q (.bool (eqe a b)) s → wpAny (model X.prog X.w) A (compareOp .Eq v u) Q E s
theorem kv_keys : ∀ {ka : List (Key × V)} {va : List (Key × Value)}, KV ka va → ka.map (·.1) = va.map (·.1)
  | _, _, .nil => rfl
  | _, _, .cons h t => by
    have ih := kv_keys t
    obtain ⟨h, _⟩ := h
    simp only [List.map_cons, ih, h]
theorem dict_in {X : Cx} {pins : List (Addr × Obj)} {σ : L2.St} {H : Hp} {s : Shared} {A : Around} {x y : V} {v u : Value} {a b : Dct κ α} (I : Inv X pins σ H s) (hx : Py.R X.K H x a) (hy : Py.R X.K H y b) (rx : RelV x v) (ry : RelV y u) (hu : A.units + (EqA.dep α + 1) < cLine) : EqIn X.prog X.w A s v u (eqDs a b) := by
  obtain ⟨p, ka, rfl, hp, h1⟩ := hx
  obtain ⟨q, kb, rfl, hq, h2⟩ := hy
  cases (show v = Value.ref p from rx); cases (show u = Value.ref q from ry)
  obtain ⟨_, ya, va, ra, da⟩ := (show ObjOk X.prog X.w H s.heap p (.dK ka) from I.hok p _ hp)
  obtain ⟨_, yb, vb, rb, db⟩ := (show ObjOk X.prog X.w H s.heap q (.dK kb) from I.hok q _ hq)
  by_cases e : p = q
  · subst e
    rw [hp] at hq; cases hq
    have nd : (ka.map (·.1)).Nodup := by
      obtain ⟨_, _, _, _, _, _, _, _, nd⟩ := da
      have : ka.map (·.1) = va.map (·.1) := by
        exact kv_keys ra
      rw [this]; exact nd
    rw [eqDs_same h1 h2 nd]
    exact (SeqAt.EqAt.same _).inModel _ _
  · have hits := hitsDIn (A := A.in1) I (by show A.units + 1 + _ < cLine; omega) h2 rb h1 ra
    have la : va.length = a.kv.length := by rw [← ra.length]; exact h1.pLen
    have lb : vb.length = b.kv.length := by rw [← rb.length]; exact h2.pLen
    refine SeqAt.EqIn.of_refs e fun E Q hQ => PySem.W.keq_eqIn (knd := mixKind X.prog X.w) ya yb da db (by omega) (fun _ => hits) ?_
    rw [la, lb]; exact hQ
theorem pair_eq {X : Cx} {pins : List (Addr × Obj)} {σ : L2.St} {H : Hp} {s : Shared} {x y : V} {v u : Value} {a b : Dct κ α × β} {A : Around} (I : Inv X pins σ H s) (hx : Py.R X.K H x a) (hy : Py.R X.K H y b) (rx : RelV x v) (ry : RelV y u) (hu : A.units + (max (EqA.dep α + 1) (EqA.dep β) + 1) < cLine)
    (E Q : Value → Shared → Prop) (hQ : Q (.bool (eqDs a.1 b.1 && EqA.eqd a.2 b.2)) s) : wpAny (model X.prog X.w) A (compareOp .Eq v u) Q E s := by
  obtain ⟨p, y0, y1, rfl, hp, h0, h1⟩ := hx
  obtain ⟨q, z0, z1, rfl, hq, k0, k1⟩ := hy
  cases (show v = Value.ref p from rx); cases (show u = Value.ref q from ry)
  obtain ⟨us, r1, p1, _⟩ := I.tuple (SqT.of hp)
  obtain ⟨ws, r2, p2, _⟩ := I.tuple (SqT.of hq)
  obtain ⟨u0, u1, rfl, a0, a1⟩ := vals2 r1
  obtain ⟨w0, w1, rfl, b0, b1⟩ := vals2 r2
  have e0 := dict_in (A := A.in1) I h0 k0 a0 b0 (by show A.units + 1 + _ < cLine; omega)
  have e1 := (EqA.at_ (A := A.in1) I h1 k1 a1 b1 (by show A.units + 1 + _ < cLine; omega)).inModel X.prog X.w
  refine SeqAt.rcIn_tuples (e := fun j => if j = 0 then eqDs a.1 b.1 else EqA.eqd a.2 b.2) p1 p2 (by omega) (fun j g1 g2 => ?_) ?_
  · have hj : j = 0 ∨ j = 1 := by simp at g1; omega
    rcases hj with rfl | rfl
    · exact e0
    · exact e1
  · have : ((List.range (min [u0, u1].toArray.size [w0, w1].toArray.size)).all (fun j => if j = 0 then eqDs a.1 b.1 else EqA.eqd a.2 b.2) && [u0, u1].toArray.size == [w0, w1].toArray.size) = (eqDs a.1 b.1 && EqA.eqd a.2 b.2) := by
      show ((List.range 2).all _ && _) = _
      simp [List.range_succ]
    rw [this]; exact hQ
instance : EqE (Dct κ α × β) where
  eqe a b := eqDs a.1 b.1 && EqA.eqd a.2 b.2
  dpe := max (EqA.dep α + 1) (EqA.dep β) + 1
  cmp := fun I hx hy rx ry hu E Q hQ => pair_eq I hx hy rx ry hu E Q hQ
instance : EqE (Option (Dct κ α × β)) where
  eqe a b := match a, b with
    | none, none => true
    | some a, some b => eqDs a.1 b.1 && EqA.eqd a.2 b.2
    | _, _ => false
  dpe := max (EqA.dep α + 1) (EqA.dep β) + 1
  cmp := fun {X pins σ H s x y v u a b A} I hx hy rx ry hu E Q hQ => by
    cases a with
    | none =>
      cases (show x = V.non from hx); cases (show v = Value.none from rx)
      cases b with
      | none => cases (show y = V.non from hy); cases (show u = Value.none from ry); exact (EqA.cmp (α := Unit) (A := A) (a := ()) (b := ()) I rfl rfl rfl rfl (by show A.units + 0 < cLine; omega)).1 _ _ E Q hQ
      | some b => exact (NnA.nn (α := Dct κ α × β) (a := b) I hy ry (by omega)).1.1.1 _ _ E Q hQ
    | some a =>
      cases b with
      | none => cases (show y = V.non from hy); cases (show u = Value.none from ry); exact (NnA.nn (α := Dct κ α × β) (a := a) I hx rx (by omega)).1.2.1 _ _ E Q hQ
      | some b => exact pair_eq (a := a) (b := b) I hx hy rx ry hu E Q hQ
end
/-! ### (a, b) + t[2:] of a tuple of two or three -/
section
variable {K : Fr} {Z H Z0 H0 : Hp} {Q : VK} {α β γ : Type} [Py α] [Py β] [Py γ]
end
end Cd

set_option Elab.async false
set_option linter.all false
set_option maxRecDepth 100000
set_option maxHeartbeats 4000000
namespace Cd
open PySem L2
/-! ### a walk that may be broken off -/
section
variable {γ : Type} {J : It} {g : TG} {tb : TS} {D : Ends} {σ : L2.St} {H Z : Hp} {L : List γ} {Y : γ → V → Hp → Hp → Prop}
end
section
variable {X : Cx} {e f : Expr} {te tf : TE} {pos : Pos}
end
end Cd

set_option Elab.async false
set_option linter.all false
set_option maxRecDepth 100000
set_option maxHeartbeats 4000000
namespace Cd
open PySem L2
/-! ### isinstance of a refusal, and a tuple of classes -/
structure CV where
  v : V
instance : Inhabited CV := ⟨⟨.non⟩⟩
instance : Py CV := ⟨fun _ _ v a => v = a.v, fun _ h => h⟩
def rIsExT (K : Fr) (cls : Value) (d : Option Addr) (a : Addr) : List V → Hp → VK → Prop := fun xs H Q => ∃ (D tp : Addr) (cs : List V) (us : List Value) (b : Bool), cls = .ref D ∧ (d = none ∨ ∃ dd fs, d = some dd ∧ H dd = some (.xd fs)) ∧ ExcC K D ∧ xs = [.ref a, .ref tp] ∧ H tp = some (.tup cs) ∧ Paired ClsV cs us ∧ PySem.W.kitAny K (.ref D) us = some b ∧ Q (.bl b) H
end Cd

set_option Elab.async false
set_option linter.all false
set_option maxRecDepth 100000
set_option maxHeartbeats 4000000
namespace Cd
open PySem L2
/-! ### own dicts of told things: a thing taken out and kept; a text where there is none -/
section
variable {κ α : Type} [Sc κ] [DecidableEq κ] [Kt κ] [Py α] [Inhabited α] {K : Fr} {Z H H0 : Hp} {Q : VK}
end
end Cd

set_option Elab.async false
set_option linter.all false
set_option maxRecDepth 100000
set_option maxHeartbeats 4000000
/-! ### lists walked, tuples taken apart, while a refusal is held -/
namespace HotX
open PySem PySem.Spec PyProof.Rows
section
variable {prog : Program} {w : World} {A : Around} {E : Value → Shared → Prop} {s : Shared}
theorem hot_ne {x1 it : Addr} {h : Heap} {o o1 : Obj} {vs vs1 : Array Value} (ho : h.get? it = some o) (hd : o.data = .fields vs) (hv : vs[2]? = none) (h1 : h.get? x1 = some o1) (d1 : o1.data = .fields vs1) (c1 : vs1[2]? = some .none) : x1 ≠ it := fun e => by
  subst e
  rw [ho] at h1
  cases h1
  rw [hd] at d1
  cases d1
  rw [hv] at c1
  cases c1
theorem list_end_hot {it l x1 : Addr} {i : Nat} {items} {Q : Option Value → Shared → Prop} (hot : HotAt A x1 s.heap) (hit : s.heap.IsListIter it l i) (hl : s.heap.IsList l items) (hx : items[i]? = none)
    (hQ : ∀ h', Heap.ExtBut it s.heap h' → Q none { s with heap := h' }) : wpAny (model prog w) A (pyNext (.ref it)) Q E s := by
  obtain ⟨o, ho, hc, hd⟩ := id hit
  obtain ⟨ol, hol, _, nl, hdl⟩ := hl
  obtain ⟨hh, o1, vs1, h1, d1, c1⟩ := hot
  have hne : x1 ≠ it := hot_ne ho hd (by rfl) h1 d1 c1
  unfold pyNext
  refine wpAny_bind (wpAny_attempt (wpAny_callSpecial?_slot (name := Str.ofString "__next__") hit.typeIs slot_listiter_next
    (wpAny_call_entry slot_listiter_next hit.typeIs entry_listiter_next ?_ (args_listiter_next _))))
  show wpAny _ _ (field (.ref it) 0 >>= _) _ _ s
  refine wpAny_bind (wpAny_field ho hd (x := .ref l) rfl ?_)
  show wpAny _ _ (if (Value.ref l == Value.none) = true then _ else _) _ _ s
  rw [if_neg (show ¬ ((Value.ref l == Value.none) = true) from Bool.false_ne_true)]
  show wpAny _ _ (field (.ref it) 1 >>= _) _ _ s
  refine wpAny_bind (wpAny_field ho hd (x := .int i 0) rfl ?_)
  show wpAny _ _ (seqItems? (.ref l) >>= _) _ _ s
  refine wpAny_bind (wpAny_seqItems hol hdl ?_)
  simp only [Int.toNat_natCast, hx]
  refine wpAny_bind (wpAny_rule (wpAny_bind (wpAny_setField ho hd (by simp) ?_)))
  show wpAny _ _ (newExc (.type "StopIteration") [] >>= _) _ _ _
  refine wpAny_bind ?_
  simp only [newExc, newTuple]
  refine wpAny_bind (wpAny_newObj_type ?_ (by size_fits))
  refine wpAny_bind (m := firstArgMember _ _) (wpAny_of_eq (a := Value.none) (by first | rfl | (simp only [firstArgMember]; rfl)) ?_)
  refine wpAny_newObj_type ?_ (by size_fits)
  have h1b := (Heap.SameBut.update s.heap it (Obj.mapFields (·.setIfInBounds 0 Value.none))).2 x1 hne
  have h1' := h1b.trans h1
  refine raiseNew_hot ⟨hh, o1, vs1, Heap.get?_push_of_some _ (Heap.get?_push_of_some _ h1'), d1, c1⟩ (Nat.ne_of_lt (Heap.lt_size (Heap.get?_push_of_some _ h1'))) (Heap.get?_push_size _ rfl) rfl (by first | (simp; done) | (simp; omega) | (simp only [Array.size_append]; simp; omega)) ?_
  refine wpAny_bind (wpAny_isInstance (T := "StopIteration") (b := true) ⟨_, Heap.get?_update_self _ (Heap.get?_push_size _ rfl) rfl, rfl⟩ isSubtype_stop ?_)
  refine wpAny_pure (hQ _ fun b o hb e => ?_)
  have e1 := ((Heap.SameBut.update s.heap it (Obj.mapFields (·.setIfInBounds 0 Value.none))).2 b hb).trans e
  rw [Heap.get?_update_other _ _ (Nat.ne_of_gt (Heap.lt_size (Heap.get?_push_of_some _ e1)))]
  exact Heap.get?_push_of_some _ (Heap.get?_push_of_some _ e1)
theorem tup_end_hot {it l x1 : Addr} {i : Nat} {items} {Q : Option Value → Shared → Prop} (hot : HotAt A x1 s.heap) (hit : IsTupIter s.heap it l i) (hl : IsTup s.heap l items) (hx : items[i]? = none)
    (hQ : ∀ h', Heap.ExtBut it s.heap h' → Q none { s with heap := h' }) : wpAny (model prog w) A (pyNext (.ref it)) Q E s := by
  obtain ⟨o, ho, hc, hd⟩ := id hit
  obtain ⟨ol, hol, _, nl, hdl⟩ := hl
  obtain ⟨hh, o1, vs1, h1, d1, c1⟩ := hot
  have hne : x1 ≠ it := hot_ne ho hd (by rfl) h1 d1 c1
  unfold pyNext
  refine wpAny_bind (wpAny_attempt (wpAny_callSpecial?_slot (name := Str.ofString "__next__") hit.typeIs slot_tupleiter_next
    (wpAny_call_entry slot_tupleiter_next hit.typeIs entry_tupleiter_next ?_ (args_tupleiter_next _))))
  show wpAny _ _ (field (.ref it) 0 >>= _) _ _ s
  refine wpAny_bind (wpAny_field ho hd (x := .ref l) rfl ?_)
  show wpAny _ _ (if (Value.ref l == Value.none) = true then _ else _) _ _ s
  rw [if_neg (show ¬ ((Value.ref l == Value.none) = true) from Bool.false_ne_true)]
  show wpAny _ _ (field (.ref it) 1 >>= _) _ _ s
  refine wpAny_bind (wpAny_field ho hd (x := .int i 0) rfl ?_)
  show wpAny _ _ (seqItems? (.ref l) >>= _) _ _ s
  refine wpAny_bind (wpAny_seqItems hol hdl ?_)
  simp only [Int.toNat_natCast, hx]
  refine wpAny_bind (wpAny_rule (wpAny_bind (wpAny_setField ho hd (by simp) ?_)))
  show wpAny _ _ (newExc (.type "StopIteration") [] >>= _) _ _ _
  refine wpAny_bind ?_
  simp only [newExc, newTuple]
  refine wpAny_bind (wpAny_newObj_type ?_ (by size_fits))
  refine wpAny_bind (m := firstArgMember _ _) (wpAny_of_eq (a := Value.none) (by first | rfl | (simp only [firstArgMember]; rfl)) ?_)
  refine wpAny_newObj_type ?_ (by size_fits)
  have h1b := (Heap.SameBut.update s.heap it (Obj.mapFields (·.setIfInBounds 0 Value.none))).2 x1 hne
  have h1' := h1b.trans h1
  refine raiseNew_hot ⟨hh, o1, vs1, Heap.get?_push_of_some _ (Heap.get?_push_of_some _ h1'), d1, c1⟩ (Nat.ne_of_lt (Heap.lt_size (Heap.get?_push_of_some _ h1'))) (Heap.get?_push_size _ rfl) rfl (by first | (simp; done) | (simp; omega) | (simp only [Array.size_append]; simp; omega)) ?_
  refine wpAny_bind (wpAny_isInstance (T := "StopIteration") (b := true) ⟨_, Heap.get?_update_self _ (Heap.get?_push_size _ rfl) rfl, rfl⟩ isSubtype_stop ?_)
  refine wpAny_pure (hQ _ fun b o hb e => ?_)
  have e1 := ((Heap.SameBut.update s.heap it (Obj.mapFields (·.setIfInBounds 0 Value.none))).2 b hb).trans e
  rw [Heap.get?_update_other _ _ (Nat.ne_of_gt (Heap.lt_size (Heap.get?_push_of_some _ e1)))]
  exact Heap.get?_push_of_some _ (Heap.get?_push_of_some _ e1)
theorem HotAt.kept {x1 : Addr} {h h' : Heap} (hot : HotAt A x1 h) (k : ∀ o, h.get? x1 = some o → h'.get? x1 = some o) : HotAt A x1 h' := by
  obtain ⟨hh, o, vs, h1, d, c⟩ := hot
  exact ⟨hh, o, vs, k o h1, d, c⟩
theorem HotAt.lt {x1 : Addr} {h : Heap} (hot : HotAt A x1 h) : x1 < h.objs.size := by
  obtain ⟨_, o, vs, h1, _, _⟩ := hot
  exact Heap.lt_size h1
theorem unpackItems_hot {t x1 : Addr} {items : Array Value} {Q : List Value → Shared → Prop} (hot : HotAt A x1 s.heap) (ht : IsTup s.heap t items)
    (hQ : ∀ h', Heap.ExtBut s.heap.objs.size s.heap h' → Q items.toList { s with heap := h' }) : wpAny (model prog w) A (unpackItems (.ref t) items.size none) Q E s := by
  have hlt : t ≠ s.heap.objs.size := by obtain ⟨o, ho, _⟩ := ht; exact Nat.ne_of_lt (Heap.lt_size ho)
  have hx : x1 ≠ s.heap.objs.size := Nat.ne_of_lt hot.lt
  unfold unpackItems
  refine wpAny_bind ?_
  · unfold notIterableAtAll
    refine wpAny_bind (wpAny_specialOf ht.typeIs slot_tuple_iter.lookup ?_)
    refine wpAny_pure ?_
    simp only [Bool.false_eq_true, if_false]
    refine wpAny_bind (wpAny_holding (iter_tuple ht ?_))
    refine wpAny_bind (wpAny_holding (draw_tuple hlt items.size 0 _ _ ⟨_, Heap.get?_push_size _ rfl, rfl, rfl⟩ (ht.push _) (by omega) fun h₁ hit₁ hs₁ => ?_))
    have hall : List.take items.size (List.drop 0 items.toList) = items.toList := by
      rw [List.drop_zero]; exact List.take_of_length_le (by simp)
    rw [hall]
    rw [if_neg (by simp)]
    have ht₁ : IsTup h₁ t items := (ht.push _).extBut hs₁.extBut hlt
    have hot₁ : HotAt A x1 h₁ := hot.kept fun o e => hs₁.extBut x1 o hx (Heap.get?_push_of_some _ e)
    refine wpAny_bind (wpAny_holding (tup_end_hot hot₁ hit₁ ht₁ (by simp) fun h₂ he₂ => ?_))
    simp only [Option.isSome_none, Bool.false_eq_true, if_false]
    refine wpAny_pure (hQ h₂ fun b o hb e => he₂ b o hb (hs₁.extBut b o hb (Heap.get?_push_of_some _ e)))
theorem assign_tup_hot {env : Env} {elts : List Expr} {k} {pos : Pos} {t x1 : Addr} {items : Array Value} {Q : Unit → Shared → Prop} (hot : HotAt A x1 s.heap) (ht : IsTup s.heap t items)
    (hn : (assignEach elts env).length = items.size) (hstar : (assignEach elts env).findIdx? (·.1) = none)
    (h : ∀ h', Heap.ExtBut s.heap.objs.size s.heap h' → wpAny (model prog w) A (assignInOrder ((assignEach elts env).map (·.2)) items.toList) Q E { s with heap := h' }) :
    wpAny (model prog w) A (assign (.Tuple elts k pos) env (.ref t)) Q E s := by
  rw [assign_Tuple]
  refine wpAny_bind (wpAny_standAt ?_)
  unfold unpack
  rw [hn, hstar]
  exact wpAny_bind (wpAny_holding (unpackItems_hot hot ht h))
end
end HotX
namespace L2
open PySem PySem.Spec PyProof.Rows HotX L2H
section
variable {X : Cx} {pos : Pos}
theorem pg_tupH {es : List Expr} {k : Nat} {t : TGs} {n : Nat} (hc : HotC X) (h : PGs X es t)
    (hn : (assignEach es X.env).length = n := by rfl) (hst : (assignEach es X.env).findIdx? (·.1) = none := by rfl) : PG X (.Tuple es k pos) (gTup X.K n t) := by
  refine ⟨fun pins s σ H v u Q I r hw => ?_⟩
  obtain ⟨a, xs, e1, hq, hl, hw⟩ := hw
  subst e1
  cases r
  obtain ⟨its, rv, ht, hz⟩ := I.tuple hq
  obtain ⟨x1, hot⟩ := hc.at I
  refine assign_tup_hot hot ht (by simp [hn, ← hl, rv.length]) hst fun h' hx => ?_
  have I1 : Inv X pins σ H { s with heap := h' } := I.kept (t' := s.toks) fun b o e => hx b o (Nat.ne_of_lt (Heap.lt_size e)) e
  exact h.run pins _ σ H xs _ Q I1 (by simpa using rv) hw
end
theorem turn_listH {P : Program} {w : World} {K : PySem.W.Frag} {tg : Expr} (a it : Addr) : TurnH P w K tg (Itl K a) [it] it (fun i h => h.IsListIter it a i) where
  mem := by simp
  obj := fun i h st b hb => by
    have e : b = it := by simpa using hb
    subst e
    obtain ⟨o, e, c, d⟩ := st
    exact ⟨o, e, fun v z => by rw [d] at z; cases z⟩
  keep := fun i h h' st k => st.at fun o e => k it (by simp) o e
  item := by
    intro X hP hw hK hc i pins s σ H E I hf st hg
    subst hP hw hK
    obtain ⟨xs, x, hq, hx⟩ := hg
    obtain ⟨its, rv, p, hz⟩ := I.list hq
    obtain ⟨u, hu, ru⟩ := rv.get hx
    obtain ⟨f0, f1, f2, f3, f4, f5⟩ := hf it (by simp)
    refine wpAny_pyNext_list_item st p.isList (x := u) (by simpa using hu) fun h' st' sb => ?_
    have I1 : Inv X pins σ H { s with heap := h' } := I.turned (t' := s.toks) (fun b o hb e => (sb.2 b hb).trans e) f0 f1 f3 f4 f5
    obtain ⟨o, e, c, d⟩ := id st'
    exact ⟨u, rfl, go_of (s := { s with heap := h' }) e c d (by decide) ⟨x, H, I1, ru, ⟨rfl, fun ys hy => by rw [I.list_inj hy hq]; exact hx⟩, st', fun b hb => (hf b hb).1⟩⟩
  done := by
    intro X hP hw hK hc i pins s σ H E I hf st hg
    subst hP hw hK
    obtain ⟨xs, hq, hx⟩ := hg
    obtain ⟨its, rv, p, hz⟩ := I.list hq
    obtain ⟨f0, f1, f2, f3, f4, f5⟩ := hf it (by simp)
    obtain ⟨x1, hot⟩ := hc.at I
    have hl := rv.length
    exact list_end_hot hot st p.isList (by simp; omega) fun h' eb => ⟨rfl, I.turned (t' := s.toks) (fun b o hb e => eb b o hb e) f0 f1 f3 f4 f5⟩
  self := fun _ _ _ _ _ st h => wpAny_pyIter_listiter st h
theorem pi_listH {X : Cx} {tg l : Expr} {tl : TE} (hl : PE X l tl) : PIH X tg l (iList X.K tl) := by
  refine ⟨fun pins s σ H R I h => ?_⟩
  refine thn (hl.run pins s σ H _ I h) fun v s1 ⟨x, H1, I1, r1, q1⟩ => ?_
  obtain ⟨a, e, ⟨xs, hq⟩, q⟩ := q1
  subst e
  cases r1
  obtain ⟨its, rv, p, hz⟩ := I1.list hq
  refine wpAny_pyIter_list p.isList ?_
  refine ⟨s1.heap.objs.size, [s1.heap.objs.size], _, _, H1, rfl, I1.kept (t' := s1.toks) fun b o e => Heap.get?_push_of_some _ e, turn_listH a _, ⟨_, Heap.get?_push_size _ rfl, rfl, rfl⟩, fun b hb => ?_, q⟩
  have e : b = s1.heap.objs.size := by simpa using hb
  subst e
  exact I1.fpOk (Nat.le_refl _) (I1.hok.fresh (Nat.le_refl _))
end L2

set_option Elab.async false
set_option linter.all false
set_option maxRecDepth 100000
set_option maxHeartbeats 4000000
/-! ### lambdas with a parameter and a captured name -/
namespace LamP
open PySem PySem.Spec PyProof.Rows L2
section
variable {M : Model} {A : Around} {E : Value → Shared → Prop} {s : Shared}
end
/-- the context of a lambda's body: its parameter x, the captured name y (at cy) -/
abbrev lenv (qual : Str) (scope : Scope) (L f c' : Addr) (x y : Str) (cy : Addr) : Env := PySem.W.envX qual scope L f (.ref c') ((x, L + 1) :: [(y, cy)])
def lcx (CX : CXT) (P : Program) (w : World) (K : PySem.W.Frag) (mg : Str → Option Value) (base : Heap) (N : List Str) (qual : Str) (scope : Scope) (x y : Str) (cy f c' : Addr) (A : Around) (outer : List Env) (s : Shared) (H : Hp) (E : XK) : Cx where
  prog := P
  w := w
  K := K
  mg := mg
  base := base
  A := A.deeper (lenv qual scope s.heap.objs.size f c' x y cy)
  N := N
  s_0 := s
  H_0 := H
  env := lenv qual scope s.heap.objs.size f c' x y cy
  outer := outer
  stack := lenv qual scope s.heap.objs.size f c' x y cy :: outer
  ex := []
  calm := true
  fn := fun _ => false
  pn := []
  xe := fun e s' => wpAny (model P w) (A.deeper (lenv qual scope s.heap.objs.size f c' x y cy)) (leaving (lenv qual scope s.heap.objs.size f c' x y cy) e) (fun _ s'' => CX outer H s E e s'') (fun e' s'' => CX outer H s E e' s'') s'
/-- the lambda's own names: x a cell, y captured -/
structure LScope (N : List Str) (x y : Str) (sc : Scope) : Prop where
  kind : sc.kind = .function
  co : sc.isCoroutine = false
  gen : sc.isGenerator = false
  nd : N.Nodup
  pre : N.take 2 = [x, y]
  names : sc.names = [(x, .cell), (y, .free)]
section
variable {CX : CXT} {P : Program} {w : World} {K : PySem.W.Frag} {mg : Str → Option Value} {base : Heap} {N : List Str} {qual : Str} {scope : Scope} {x y : Str} {cy f c' : Addr} {A : Around} {outer : List Env} {s : Shared} {H : Hp} {E : XK} {u uw : Value} {v vw : V}
theorem LScope.ne (S : LScope N x y scope) : x ≠ y := fun e => by
  have q := S.nd.sublist (List.take_sublist 2 N)
  rw [S.pre, e] at q
  simp at q
def startL (N : List Str) (v vw : V) : L2.St := some v :: some vw :: List.replicate (N.length - 2) none
end
end LamP

set_option Elab.async false
set_option linter.all false
set_option maxRecDepth 100000
set_option maxHeartbeats 4000000
/-! ### sorted by keys that are lists -/
namespace LamP
open PySem PySem.Spec PyProof.Rows PySem.Calls L2
/-- between two calls of the key -/
def Mid (X : Cx) (H : Hp) (s : Shared) (H1 : Hp) (s1 : Shared) : Prop := s1.os = s.os ∧ AllBare s1.gens ∧ Un (frs X.stack) [] H H1 s.heap s1.heap ∧ HOk X.prog X.w H1 s1.heap
section
variable {X : Cx} {pins : List (Addr × Obj)} {σ : L2.St} {H H1 H2 : Hp} {s s1 s2 : Shared}
theorem Mid.start (I : Inv X pins σ H s) : Mid X H s H s := ⟨rfl, I.bare, Un.refl, I.hok⟩
theorem Mid.far {q : Addr} {h' : Heap} {tk : Nat} (m : Mid X H s H1 s1) (k : ∀ b o, b ≠ q → s1.heap.get? b = some o → h'.get? b = some o) (hq : s.heap.get? q = none) (h1 : H1 q = none) : Mid X H s H1 { s1 with heap := h', toks := tk } := by
  obtain ⟨a, b, u, ok⟩ := m
  have ne : ∀ {c o}, s.heap.get? c = some o → c ≠ q := fun e z => by rw [z, hq] at e; cases e
  have nH : ∀ {c o}, H1 c = some o → c ≠ q := fun e z => by rw [z, h1] at e; cases e
  refine ⟨a, b, ⟨fun c o e n hc hx => k c o (ne e) (u.keep c o e n hc hx), fun c o e n hc hx => ?_, u.free, fun c o e hx => ?_, u.tups, u.frzs, u.tbls⟩, fun c o e => ?_⟩
  · obtain ⟨sl, q⟩ := u.slot c o e n hc hx
    exact ⟨sl, k _ _ (ne e) q⟩
  · obtain ⟨o', q⟩ := u.there c o e hx
    exact ⟨o', k _ _ (ne e) q⟩
  · refine (ok c o e).stay (fun d v hd z => k d v ?_ z) (fun _ z => z) fun _ _ z => z
    rcases hd with z | z
    · rw [z]; exact nH e
    · exact nH z
theorem Mid.call {Q : VK} {u : Value} (m : Mid X H s H1 s1) (c : CE X.stack X.prog X.w H1 s1 Q u s2) : ∃ v H2, Mid X H s H2 s2 ∧ Un (frs X.stack) [] H1 H2 s1.heap s2.heap ∧ RelV v u ∧ Q v H2 := by
  obtain ⟨v, H2, os, bare, un, hok, r, q⟩ := c
  exact ⟨v, H2, ⟨os.trans m.1, bare, m.2.2.1.trans un, hok⟩, un, r, q⟩
end
section
variable {X : Cx} {pins : List (Addr × Obj)} {σ : L2.St} {H : Hp} {s : Shared} {a kS : Addr} {vs : List Value} {e1 : Nat} {P : PySem.Fin → Shared → Prop} {E : Value → Shared → Prop} {kz : List PyData} {A : Around}
end
section
variable {X : Cx} {pins : List (Addr × Obj)} {σ : L2.St} {H : Hp} {s : Shared} {Q : VK}
end
end LamP

set_option Elab.async false
set_option linter.all false
set_option maxRecDepth 100000
set_option maxHeartbeats 4000000
/-! ### the lambda is made: its def's table of code objects is one's own -/
namespace LamP
open PySem PySem.Spec PyProof.Rows PySem.Calls L2 LamX
section
variable {X : Cx} {pins : List (Addr × Obj)} {σ : L2.St} {H : Hp} {s : Shared}
/-- what the making does to what is tracked -/
def Made (P c' : Addr) (q : Str) (H H1 : Hp) : Prop := (H1 = H ∧ H c' = some (CodeO c' q)) ∨ ∃ (ps : Array Value) (t1 t2 : Value), H P = some (.tbl ps) ∧ H c' = none ∧ H1 = upd (upd H P (.tbl (ps ++ #[t1, t2, .ref c']))) c' (CodeO c' q) ∧ TriplesOk (ps ++ #[t1, t2, .ref c']).toList ∧
  ∀ (pos : Pos) (cv : Value), codeAmong pos (ps ++ #[t1, t2, .ref c']).toList = some cv → codeAmong pos ps.toList = some cv ∨ cv = .ref c'
end
/-- what the lambda promises of its parameter and the captured name -/
structure LamOk (P : Program) (w : World) (K : PySem.W.Frag) (mg : Str → Option Value) (base : Heap) (k : Nat) (body : Expr) (N : List Str) (qual : Str) (scope : Scope) (x y : Str) (sp : Sp) : Prop where
  run : ∀ (cy f c' : Addr) (A : Around) (outer : List Env) (s : Shared) (H : Hp) (v vw : V) (Q : VK), Room k (A.deeper (lenv qual scope s.heap.objs.size f c' x y cy)) → sp [v, vw] H Q C8.E0 →
    ∃ te, PE (lcx C8.CX0 P w K mg base N qual scope x y cy f c' A outer s H C8.E0) body te ∧ te (startL N v vw) H Q
/-- sorted(xs, key=lambda x: ..) of texts, y captured -/
def tSortL (K : PySem.W.Frag) (P : Addr) (q : Str) (jy : Nat) (sp : Sp) (ta : TA) : TE := fun σ H Q => ta σ H fun vs H1 => ∃ (l : Addr) (bs : List Str) (vw : V) (κ : Str → PyData), vs = [.ref l] ∧ SqL K H1 l (bs.map V.str) ∧ σ[jy]? = some (some vw) ∧ TabS H1 P q ∧
  PySem.W.AllAlike (bs.map κ) ∧ PySem.W.Sortable (bs.map κ) ∧ (∀ d ∈ bs.map κ, d.depth ≤ 8) ∧ ∀ (c' : Addr) (H2 : Hp), Made P c' q H1 H2 → ∃ J : List V → Hp → Prop, J [] H2 ∧ (∀ ws H3, J ws H3 → Same H2 H3) ∧
    (∀ (i : Nat) (b : Str) (ws : List V) (H3 : Hp), bs[i]? = some b → ws.length = i → J ws H3 → sp [.str b, vw] H3 (fun w H4 => J (ws ++ [w]) H4) C8.E0) ∧
    (∀ ws H3, ws.length = bs.length → J ws H3 → PySem.W.EachIs (fun w d => Dp K H3 w d) ws (bs.map κ)) ∧
    ∀ ws H3 p, ws.length = bs.length → J ws H3 → H3 p = none → Q (.ref p) (upd H3 p (.lst ((bs.mergeSort (PySem.W.dataLe false κ)).map V.str)))
section
variable {X : Cx} {e : Expr} {ta : TA} {c P : Addr} {k : Nat} {params : Arguments} {body : Expr} {scope : Scope} {N : List Str} {x y q : Str} {cy jy : Nat} {sp : Sp} {p pos lpos kpos : Pos}
end
end LamP

set_option Elab.async false
set_option linter.all false
set_option maxRecDepth 100000
set_option maxHeartbeats 4000000
/-! ### sorted by lambdas, at the ghost's level -/
namespace Cd
open PySem L2 LamX LamP
/-- a def's own table of code objects, all of one name -/
def Sh.tab (q : Str) : Sh Unit where
  R := fun _ Z H v ps _ => ∃ (P : Addr) (tb : Array Value), v = .ref P ∧ ps = [P] ∧ H P = some (.tbl tb) ∧ TriplesOk tb.toList ∧ ∀ (pos : Pos) (cv : Value), codeAmong pos tb.toList = some cv → ∃ c, cv = .ref c ∧ Z c = some (CodeO c q)
  keep := fun s hk ⟨P, tb, e1, e2, e3, e4, e5⟩ => ⟨P, tb, e1, e2, (hk P (by rw [e2]; simp)).trans e3, e4, fun pos cv h => let ⟨c, a, b⟩ := e5 pos cv h; ⟨c, a, s _ _ b⟩⟩
  stands := fun ⟨P, tb, e1, e2, e3, _⟩ p hp => by
    rw [e2, List.mem_singleton] at hp
    exact ⟨_, by rw [hp]; exact e3⟩
instance (q : Str) : IsRef (Sh.tab q) := ⟨fun ⟨P, _, e, _⟩ => ⟨P, e⟩⟩
/-- what an answer is -/
def R.isok {α : Type} : R α → Prop
  | .ok _ => True
  | _ => False
def R.val {α : Type} [Inhabited α] : R α → α
  | .ok a => a
  | _ => default
/-- data that can be compared, place by place -/
class AlkB (β : Type) [Py β] [DecidableEq β] [PyD β] : Prop where
  alk : ∀ a b : β, PySem.W.alike (PyD.d a) (PyD.d b) = true
instance : AlkB Int := ⟨fun _ _ => rfl⟩
instance : AlkB Str := ⟨fun _ _ => rfl⟩
/-- texts in order by lists -/
def sortLD {β : Type} [Py β] [DecidableEq β] [PyD β] (key : Str → List β) (l : List Str) : List Str := l.mergeSort (PySem.W.dataLe false fun b => PyD.d (key b))
def rSortL (K : Fr) (P : Addr) (q : Str) (jy : Nat) (sp : Sp) (σ : L2.St) : List V → Hp → VK → Prop := fun vs H1 Q => ∃ (l : Addr) (bs : List Str) (vw : V) (κ : Str → PyData), vs = [.ref l] ∧ SqL K H1 l (bs.map V.str) ∧ σ[jy]? = some (some vw) ∧ TabS H1 P q ∧
  PySem.W.AllAlike (bs.map κ) ∧ PySem.W.Sortable (bs.map κ) ∧ (∀ d ∈ bs.map κ, d.depth ≤ 8) ∧ ∀ (c' : Addr) (H2 : Hp), Made P c' q H1 H2 → ∃ J : List V → Hp → Prop, J [] H2 ∧ (∀ ws H3, J ws H3 → Same H2 H3) ∧
    (∀ (i : Nat) (b : Str) (ws : List V) (H3 : Hp), bs[i]? = some b → ws.length = i → J ws H3 → sp [.str b, vw] H3 (fun w H4 => J (ws ++ [w]) H4) C8.E0) ∧
    (∀ ws H3, ws.length = bs.length → J ws H3 → PySem.W.EachIs (fun w d => Dp K H3 w d) ws (bs.map κ)) ∧
    ∀ ws H3 p, ws.length = bs.length → J ws H3 → H3 p = none → Q (.ref p) (upd H3 p (.lst ((bs.mergeSort (PySem.W.dataLe false κ)).map V.str)))
def tSortLQ (K : Fr) (P : Addr) (q : Str) (jy : Nat) (sp : Sp) (ta : TA) : TE := fun σ H Q => ta σ H fun vs H1 => rSortL K P q jy sp σ vs H1 Q
section
variable {β : Type} [Py β] [DecidableEq β] [PyD β] [AlkB β] {K : Fr} {Z0 H0 Z H : Hp} {G : List Rt} {Q : VK}
end
section
variable {X : Cx} {e : Expr} {ta : TA} {c P : Addr} {k : Nat} {params : Arguments} {body : Expr} {scope : Scope} {N : List Str} {x y q : Str} {jy : Nat} {sp : Sp} {p pos lpos kpos : Pos} {K : Fr}
end
end Cd

set_option Elab.async false
set_option linter.all false
set_option maxRecDepth 100000
set_option maxHeartbeats 4000000
/-! ### defs with a lambda; the end of a law with tables of code objects -/
namespace Cd
open PySem L2 LamX LamP PyProof.Rows
section
variable {β : Type} [Py β] [DecidableEq β] [PyD β] [AlkB β] {K : Fr} {Z0 H0 Z H : Hp} {G : List Rt} {Q : VK}
end
/-- the lambda of a def that is one return of a call -/
def lamOf (st : Stmt) : Expr := match defBody st with
  | [.Return (some (.Call _ _ [⟨_, l, _⟩] _)) _] => l
  | _ => .Constant .none 0 ⟨0, 0, 0, 0⟩
def lamBody (st : Stmt) : Expr := match lamOf st with
  | .Lambda _ b _ _ => b
  | e => e
def lamSc (st : Stmt) : Scope := match lamOf st with
  | .Lambda _ _ s _ => s
  | _ => defScope st
section
variable {P : Program} {w : World} {K : Fr} {mg : Str → Option Value} {base : Heap}
theorem Fun.code {x qual : Str} {st : Stmt} {fd : FuncData} {p : He.Defn} (F : Fun K x qual st (He.fAd K p) fd) : fd.code = .ref (He.cT K p).1 := by
  obtain ⟨oc, od, kV, doc, pm, an, cdv, ct, osl, rfl, lk, hcd⟩ := F.ex
  obtain ⟨c, e⟩ := He.codeIn_ref hcd
  have := He.codeOf_eq lk (c := c) e
  show cdv = .ref (He.codeOf K p)
  rw [this]; exact e
end
/-! ### one look, empty tables left out -/
structure SaysBT (ok : List FaB) (fn : List He.DefD) (tf : List He.Defn) (h : Heap) (K : Fr) : Prop where
  b : SaysB ok fn K
  hd : ∀ p ∈ tf, PySem.W.codeHdIn K (He.cT K p).1 (He.cT K p).2 = true
  out : ∀ p ∈ tf, K.lookup (He.cT K p).2 = none
  empty : ∀ p ∈ tf, h.get? (He.cT K p).2 = some { cls := .none, data := .fields #[] }
def obsBT (n : Nat) (ok : List FaB) (fn : List He.DefD) (tf : List He.Defn) (g : Addr → Option Obj) : He.AlD × Bool := (obsB ok fn (He.frT g (asB g n [mainGlobals] ++ [cStatics])), He.tabsB g tf (He.frT g (asB g n [mainGlobals] ++ [cStatics])))
theorem saysBT_of {n : Nat} {ok : List FaB} {fn : List He.DefD} {tf : List He.Defn} {h : Heap} (e : obsBT n ok fn tf h.get? = (He.valD fn, true)) : SaysBT ok fn tf h (He.frT h.get? (asB h.get? n [mainGlobals] ++ [cStatics])) := by
  have e1 : obsB ok fn (He.frT h.get? (asB h.get? n [mainGlobals] ++ [cStatics])) = He.valD fn := congrArg (fun z : He.AlD × Bool => z.1) e
  have e2 : He.tabsB h.get? tf (He.frT h.get? (asB h.get? n [mainGlobals] ++ [cStatics])) = true := congrArg (fun z : He.AlD × Bool => z.2) e
  generalize hK : He.frT h.get? (asB h.get? n [mainGlobals] ++ [cStatics]) = K at *
  have key : ∀ p ∈ tf, PySem.W.codeHdIn K (He.cT K p).1 (He.cT K p).2 = true ∧ ∃ o, h.get? (He.cT K p).2 = some o ∧ He.emptyTab o = true := fun p hp => by
    obtain ⟨h3, h4⟩ := He.ba (List.all_eq_true.mp e2 p hp)
    refine ⟨h3, ?_⟩
    cases q : h.get? (He.cT K p).2 with
    | none => rw [q] at h4; cases h4
    | some o => rw [q] at h4; exact ⟨o, rfl, h4⟩
  refine ⟨e1, fun p hp => (key p hp).1, fun p hp => ?_, fun p hp => ?_⟩
  · obtain ⟨_, o, q, z⟩ := key p hp
    have := He.frT_none (as := asB h.get? n [mainGlobals] ++ [cStatics]) q z
    rw [hK] at this
    exact this
  · obtain ⟨_, o, q, z⟩ := key p hp
    rw [q, He.emptyTab_eq z]
def hookBT (n : Nat) (ok : List FaB) (fn : List He.DefD) (tf : List He.Defn) : PySem.W.Hook where
  α := He.AlD × Bool
  obs := fun s => obsBT n ok fn tf s.heap.get?
  val := fun _ => (He.valD fn, true)
  says := fun _ h => ∃ K : Fr, K.In h ∧ SaysBT ok fn tf h K
  of := fun _ _ e => ⟨_, He.frT_in, saysBT_of e⟩
  keeps := fun _ _ _ ⟨K, hK, c⟩ k => ⟨K, PySem.W.Frag.In.keeps hK k, ⟨c.b, c.hd, c.out, fun p hp => k _ _ (c.empty p hp)⟩⟩
end Cd

set_option Elab.async false
set_option linter.all false
set_option maxRecDepth 100000
set_option maxHeartbeats 4000000
/-! ### a try whose body refuses nothing -/
namespace L2
open PySem PySem.Spec PyProof.Rows PySem.HandSPX
end L2

set_option Elab.async false
set_option linter.all false
set_option maxRecDepth 100000
set_option maxHeartbeats 4000000
namespace Cd
open PySem L2
theorem sl_listK {X : Cx} {K : Fr} (e : X.K = K) : SlR X (rSlL K) := by subst e; exact sl_list
end Cd

set_option Elab.async false
set_option linter.all false
namespace Cd
open PySem L2
end Cd

set_option Elab.async false
set_option linter.all false
set_option maxRecDepth 100000
set_option maxHeartbeats 4000000
/-! ### decks put in order by keys that are lists: plain -/
namespace Cd
open PySem L2
/-! pairs of a list -/
/-! rows of numbers -/
/-! sorted by a key -/
/-- how a deck stands that was put in order: upwards, what is alike as it stood -/
def Stood (key : Str → List Int) (l : List Str) (a b : Str) : Prop := key a < key b ∨ key a = key b ∧ [a, b].Sublist l
/-! keys of cards -/
def rkN (c : Nat) : Int := (KN.idxOf c : Int)
def keyC (cols : List Int) (z : Str) : List Int := cols.map fun c => rkN (codeAt c z)
def colsT (f : Int × Int) : List Int := rangeL f.1 ((f.2 + 1) - f.1).toNat
/-- key by key -/
def unlB (keys : List (Int × Int)) (a b : Str) : Int := match keys.find? fun f => !decide (partT a f = partT b f) with
  | none => 0
  | some f => b2i (decide (codes (partT a f) < codes (partT b f))) - b2i (decide (codes (partT b f) < codes (partT a f)))
def colsAll (keys : List (Int × Int)) : List Int := (keys.map colsT).flatten
end Cd

set_option Elab.async false
set_option linter.all false
set_option maxRecDepth 100000
set_option maxHeartbeats 4000000
/-! ### the first card of each part: plain -/
namespace Cd
open PySem L2
def isFirst (deck : List Str) (f : Int × Int) (z : Str) : Bool := decide (∀ y ∈ deck, partT y f = partT z f → deck.idxOf z ≤ deck.idxOf y)
def foeStep (f : Int × Int) (s : List Str) (z : Str) : List Str := if s = [] ∨ ¬ partT z f = partT (getI s (-(1 : Int))) f then s ++ [z] else s
def foeT (f : Int × Int) (l : List Str) : List Str := l.foldl (foeStep f) []
/-! as a law tells it -/
def firstsT (deck : List Str) (f : Int × Int) : List Str := (sortD ((deck.filter (isFirst deck f)).map fun z => partT z f)).flatMap fun p => (deck.filter (isFirst deck f)).filter fun z => decide (partT z f = p)

end Cd

set_option Elab.async false
set_option linter.all false
namespace Cd
open PySem L2
def rSIdx : V → List V → Hp → VK → Prop := fun x xs H Q => ∃ a b, x = .str a ∧ xs = [.str b] ∧ 0 ≤ Txt.find a b ∧ Q (.int (Txt.find a b)) H
end Cd

set_option Elab.async false
set_option linter.all false
namespace Cd
open PySem L2
/-! ### a dict display within a part that is stepped over -/
section
variable {κ α : Type} [Sc κ] [DecidableEq κ] [Kt κ] [Py α] {K : Fr} {Z0 H0 Z H : Hp} {G : List Rt} {Q : VK} {p : Addr}
end
end Cd

set_option Elab.async false
set_option linter.all false
set_option maxRecDepth 100000
set_option maxHeartbeats 4000000
namespace Cd
open PySem L2 PyProof.Rows
/-! ### list(range(..)), named -/
def rLst2 (i j : Int) (H : Hp) (Q : VK) : Prop := RgOk i j ∧ ∀ q, H q = none → Q (.ref q) (upd H q (.lst (rgV i j)))
def tLstRgN (te : L2.St → Hp → (Int → Int → Hp → Prop) → Prop) : TE := fun σ H Q => te σ H fun a b H1 => rLst2 a b H1 Q
theorem pe_listRgN {X : Cx} {e : Expr} {te : L2.St → Hp → (Int → Int → Hp → Prop) → Prop} {p pos : Pos} (hc : X.calm = true) (hg : Gl X "list") (hm : X.mg "list" = none) (he : PRg X e te) (na : starEach [e] X.env = (false, eval e X.env) :: starEach [] X.env := by rfl) : PE X (.Call (.Name "list" p) [e] [] pos) (tLstRgN te) := pe_listRg hc hg hm he na
theorem k_listRgN {K : Fr} {Z H : Hp} {Q : VK} {a b : Int} (zh : Same Z H) (ok : RgOk a b) (k : New K Z H Q (rangeL a (b - a).toNat)) : rLst2 a b H Q := k_listRg zh ok k
end Cd

set_option Elab.async false
set_option linter.all false
namespace Cd
open PySem L2
end Cd

set_option Elab.async false
set_option linter.all false
set_option maxRecDepth 100000
set_option maxHeartbeats 4000000
/-! ### decks put in order by keys of signs: the same order as by ranks -/
namespace PySem.W
open PySem PyProof.Rows
end PySem.W
namespace Cd
open PySem L2
def keyS (cols : List Int) (z : Str) : List Str := cols.map fun c => chS z (c - 1)
end Cd

set_option Elab.async false
set_option linter.all false
set_option maxRecDepth 100000
set_option maxHeartbeats 4000000
namespace Cd
open PySem L2
/-! ### tables over a lock, and beside a thing told for the while -/
instance (q : Str) : NDS (Sh.tab q) := ⟨fun s ⟨P, tb, e1, e2, e3, e4, e5⟩ => ⟨P, tb, e1, e2, e3, e4, fun pos cv h => let ⟨c, a, b⟩ := e5 pos cv h; ⟨c, a, s _ _ b (fun _ e => nomatch e) (fun _ _ e => nomatch e)⟩⟩⟩
instance (q : Str) : ImmS (Sh.tab q) := ⟨fun s ⟨P, tb, e1, e2, e3, e4, e5⟩ => ⟨P, tb, e1, e2, e3, e4, fun pos cv h => let ⟨c, a, b⟩ := e5 pos cv h; ⟨c, a, s _ _ b (fun m => by cases m)⟩⟩⟩
section
variable {K : Fr} {Z0 H0 Z H : Hp} {G : List Rt} {α κ γ : Type} [Sc κ] [DecidableEq κ] [Kt κ] [Py γ] {S : Sh α} {v : V}
end
end Cd

set_option Elab.async false
set_option linter.all false
set_option maxRecDepth 100000
set_option maxHeartbeats 4000000
/-! ### try: x = d[k] / except KeyError: raise C(..) from None / else: .. (the kit's try whose suite raises, with an else) -/
namespace L2H
open PySem PySem.Spec PyProof.Rows L2 HotX
section
variable {X : Cx} {x : Str} {c : Value} {body suite : List Stmt} {b₀ : Stmt} {np pos pos' : Pos} {tb : WX → TS} {ts : Addr → Value → Option Addr → TS} {Wout : WX}
end
section
variable {X : Cx} {W : WX} {o i : Expr} {td ty : TE} {pos : Pos}
end
end L2H
namespace Cd
open PySem L2
end Cd

set_option Elab.async false
set_option linter.all false
set_option maxRecDepth 100000
set_option maxHeartbeats 4000000
/-! ### sorts one behind the other; columns that tell nothing new: plain -/
namespace Cd
open PySem L2
/-- orders that are one on a deck -/
def SameOrd (d : List Str) (A B : List Int) : Prop := ∀ a ∈ d, ∀ b ∈ d, (keyC A a < keyC A b ↔ keyC B a < keyC B b)
theorem SameOrd.symm {d : List Str} {A B : List Int} (h : SameOrd d A B) : SameOrd d B A := fun a ha b hb => (h a ha b hb).symm
theorem SameOrd.trans {d : List Str} {A B C : List Int} (h : SameOrd d A B) (k : SameOrd d B C) : SameOrd d A C := fun a ha b hb => (h a ha b hb).trans (k a ha b hb)
theorem SameOrd.refl (d : List Str) (A : List Int) : SameOrd d A A := fun _ _ _ _ => Iff.rfl
theorem SameOrd.mono {d e : List Str} {A B : List Int} (h : SameOrd d A B) (s : ∀ z ∈ e, z ∈ d) : SameOrd e A B := fun a ha b hb => h a (s a ha) b (s b hb)
/-- a deck's cards alike in A are alike in c -/
def Det (d : List Str) (A : List Int) (c : Int) : Prop := ∀ a ∈ d, ∀ b ∈ d, keyC A a = keyC A b → keyC [c] a = keyC [c] b
/-- R is L without columns that tell nothing new behind A -/
inductive Red (d : List Str) : List Int → List Int → List Int → Prop
  | nil {A : List Int} : Red d A [] []
  | keep {A L R : List Int} {c : Int} : Red d (A ++ [c]) L R → Red d A (c :: L) (c :: R)
  | drop {A L R : List Int} {c : Int} : Det d A c → Red d A L R → Red d A (c :: L) R
end Cd

set_option Elab.async false
set_option linter.all false
set_option maxRecDepth 100000
set_option maxHeartbeats 4000000
/-! ### the columns of a plan, and what a deck dealt by them comes to: plain -/
namespace Cd
open PySem L2
/-! columns without others -/
def woL (xs ys : List Int) : List Int := xs.filter fun c => !decide (c ∈ ys)
def onceS (a : List Int) (f : Int × Int) : List Int := a ++ woL (colsT f) a
def onceL (fs : List (Int × Int)) : List Int := fs.foldl onceS []
/-! cut where all of the needed ones have come -/
def cutB (need : List Int) : List Int → List Int → List Int
  | f, [] => f
  | f, c :: r => if woL need f = [] then f else cutB need (f ++ [c]) r
/-! how many are dealt late -/
def lateB (M W : List Int) (fi : Bool) (k : Int) : Bool := decide (woL M (W.take k.toNat) = W.drop k.toNat) || (decide (woL M (W.take k.toNat) = (W.take (k + ((woL M (W.take k.toNat)).length : Int)).toNat).drop k.toNat) && !fi)
def lateI (M W : List Int) (fi : Bool) : Int := ((rangeL 0 W.length).find? (lateB M W fi)).getD W.length
/-! orders -/
/-! early and late deals -/
section
variable {M W rest : List Int} {k : Nat}
end
/-! dealing -/
/-! the first cards of each part -/
theorem Det.sub {d e : List Str} {A : List Int} {c : Int} (h : Det d A c) (s : ∀ z ∈ e, z ∈ d) : Det e A c := fun a ha b hb => h a (s a ha) b (s b hb)
end Cd

set_option Elab.async false
set_option linter.all false
set_option maxRecDepth 100000
set_option maxHeartbeats 4000000
/-! ### rows of passes, and what they say: plain -/
namespace Cd
open PySem L2

abbrev Pa := TO Str Int Str
def PassOk (p : TO Str Int Str) : Prop := ((p.x1 = "deal" ∧ p.x3 = none) ∨ (p.x1 = "pick" ∧ ∃ s, p.x3 = some s)) ∧ 1 ≤ p.x2 ∧ p.x2 ≤ 36
theorem deal_ne : ¬ ("deal" : Str) = "pick" := by decide +kernel
theorem pick_ne : ¬ ("pick" : Str) = "deal" := by decide +kernel
theorem PassOk.some {p : TO Str Int Str} (h : PassOk p) (n : p.x1 = "pick") : p.x3.isSome = true := by
  rcases h.1 with h | ⟨_, s, e⟩
  · rw [h.1] at n; exact absurd n deal_ne
  · rw [e]; rfl
theorem PassOk.pick {p : TO Str Int Str} (h : PassOk p) (n : ¬ p.x1 = "deal") : p.x1 = "pick" := by
  rcases h.1 with h | ⟨h, _⟩
  · exact absurd h.1 n
  · exact h
theorem PassOk.deal {p : TO Str Int Str} (h : PassOk p) (n : p.x1 = "deal") : p = ⟨"deal", p.x2, none⟩ := by
  rcases h.1 with h | ⟨h, _⟩
  · obtain ⟨a, b, c⟩ := p; simp only at h; rw [h.1, h.2]
  · rw [h] at n; exact absurd n pick_ne

/-! what a row says: the picked signs, the last deals -/

def snStep (o : Option (List (Int × Str))) (p : Pa) : Option (List (Int × Str)) := o.bind fun m => if p.x1 = "pick" then match dGet m p.x2 with
    | none => some (m ++ [(p.x2, p.x3.getD default)])
    | some a => if a = p.x3.getD default then some m else none
  else some m
def sn (l : List Pa) : Option (List (Int × Str)) := l.foldl snStep (some [])
def dl (l : List Pa) : List Int := (l.filter fun (p : Pa) => decide (p.x1 = ("deal" : Str))).map fun (p : Pa) => p.x2
/-! the key -/
def keyQ (P : List (Int × Str)) (f : List Int) (c : Int) : List Int := if c ∈ P.map (·.1) ∨ c ∈ f then f else f ++ [c]
def keyF (P : List (Int × Str)) : List Int → List Int
  | [] => []
  | c :: r => keyQ P (keyF P r) c
/-! a pass as a going tells it -/
def pdD (c : Int) : PyData := .tuple [.str "deal", .int c]
def pdP (c : Int) (z : Str) : PyData := .tuple [.str "pick", .int c, .str z]
def paD (c : Int) : Pa := ⟨"deal", c, none⟩
def paP (c : Int) (z : Str) : Pa := ⟨"pick", c, some z⟩
end Cd

set_option Elab.async false
set_option linter.all false
set_option maxRecDepth 100000
set_option maxHeartbeats 4000000
namespace Cd
open PySem L2 PyProof.Rows
/-! ### list(d): the keys; xs.index(x) of told data -/
def rListDQ : List V → Hp → VK → Prop := fun xs H Q => ∃ (a : Addr) (kvs : List (Key × V)), xs = [.ref a] ∧ Rd H a (.dK kvs) ∧ ∀ p, H p = none → Q (.ref p) (upd H p (.lst (kvs.map fun kv => kV kv.1)))
section
variable {α : Type} [Py α] {K : Fr} {Z H : Hp} {Q : VK}
end
def idxD (l : List PyData) (x : PyData) : Nat := l.findIdx fun z => PyData.eqv z x
end Cd
namespace L2
open PySem PySem.Spec
end L2

set_option Elab.async false
set_option linter.all false
set_option maxRecDepth 100000
set_option maxHeartbeats 4000000
namespace Cd
open PySem L2 PyProof.Rows
/-! ### what never raises may stand where one may -/
section
variable {P : Program} {w : World} {K : PySem.W.Frag} {mg : Str → Option Value} {base : Heap} {CX : CXT} {k : Nat} {m : Str} {ps : List Str} {sp : Sp} {C f : Addr} {fd : FuncData}
theorem FnOk.any (F : FnOk P w K mg base CX0 k f fd ps sp) : FnOk P w K mg base CX k f fd ps sp :=
  ⟨F.len, fun A outer s H args us vs Q E hr he hb hv hs => codeAny_mono (F.run A outer s H args us vs Q E hr he hb hv hs) fun r s' h => by
    cases r with
    | ok c => cases c <;> exact h
    | error e => exact h.elim⟩
theorem MetX.any (c : MetX P w K mg base CX0 k C m ps sp) : MetX P w K mg base CX k C m ps sp := by
  obtain ⟨f, fd, cl, hm, F, hb⟩ := c.ex
  exact ⟨f, fd, cl, hm, FnOk.any F, hb⟩
end
end Cd

set_option Elab.async false
set_option linter.all false
set_option maxRecDepth 100000
set_option maxHeartbeats 4000000
namespace Cd
open PySem L2 PyProof.Rows
/-! ### a dict of one's own things; what stands at one key, the value x, is held elsewhere -/
def Sh.dH {κ α : Type} [Sc κ] [DecidableEq κ] [Kt κ] (k1 : κ) (x : V) (S : Sh α) : Sh (Dct κ α) where
  R := fun K Z H v ps d => ∃ kvs, (Sh.dP kvs (fun j => decide (j = k1)) S).R K Z H v ps d ∧ valV kvs (Kt.key k1) = some x
  keep := fun s h ⟨kvs, r, e⟩ => ⟨kvs, (Sh.dP kvs (fun j => decide (j = k1)) S).keep s h r, e⟩
  stands := fun ⟨kvs, r, _⟩ q hq => (Sh.dP kvs (fun j => decide (j = k1)) S).stands r q hq
section
variable {κ α β : Type} [Sc κ] [DecidableEq κ] [Kt κ] {S : Sh α} {k1 : κ} {x : V}
instance : IsRef (Sh.dH k1 x S) := ⟨fun ⟨_, ⟨p, _, e, _⟩, _⟩ => ⟨p, e⟩⟩
variable {K : Fr} {Z0 H0 Z H : Hp} {G : List Rt} {v : V} {d : Dct κ α} {kvs : List (Key × V)} {sk : κ → Bool} {Q : VK}
end
section
variable {K : Fr} {Z0 H0 Z H : Hp} {G : List Rt} {α β : Type} {S : Sh α} {v : V}
end
end Cd

set_option Elab.async false
set_option linter.all false
set_option maxRecDepth 100000
set_option maxHeartbeats 4000000
namespace Cd
open PySem L2 PyProof.Rows
/-! ### own lists of own data: made of told ones, put behind one another, changed within -/
section
variable {K : Fr} {Z0 H0 Z H : Hp} {G : List Rt}
def Sh.cell : Sh Unit where
  R := fun K Z H v ps _ => ∃ p u, v = .ref p ∧ ps = [p] ∧ H p = some u
  keep := fun s h ⟨p, u, e1, e2, h1⟩ => ⟨p, u, e1, e2, (h p (by rw [e2]; simp)).trans h1⟩
  stands := fun ⟨p, u, e1, e2, h1⟩ q hq => by rw [e2, List.mem_singleton] at hq; rw [hq]; exact ⟨u, h1⟩
variable {α : Type} {S : Sh α}
def Sh.both (p q : Addr) (S : Sh α) : Sh (List α × List α) where
  R := fun K Z H _ ps a => ∃ xs ys rs ts, ps = (p :: (rs ++ ts)) ++ [q] ∧ H p = some (.lst xs) ∧ H q = some (.lst ys) ∧ allR S K Z H xs rs a.1 ∧ allR S K Z H ys ts a.2
  keep := fun s h ⟨xs, ys, rs, ts, e, h1, h2, h3, h4⟩ => ⟨xs, ys, rs, ts, e, (h _ (by rw [e]; simp)).trans h1, (h _ (by rw [e]; simp)).trans h2, allR_keep s (fun x hx => h x (by rw [e]; simp [hx])) h3, allR_keep s (fun x hx => h x (by rw [e]; simp [hx])) h4⟩
  stands := fun ⟨xs, ys, rs, ts, e, h1, h2, h3, h4⟩ x hx => by
    rw [e] at hx
    simp only [List.cons_append, List.mem_cons, List.mem_append, List.mem_singleton, List.not_mem_nil, or_false] at hx
    rcases hx with rfl | (hx | hx) | rfl
    · exact ⟨_, h1⟩
    · exact allR_stands h3 x hx
    · exact allR_stands h4 x hx
    · exact ⟨_, h2⟩
end
section
variable {β : Type} {SO : Sh β} {K : Fr} {Z H H0 : Hp} {v u : V} {ps qs : List Addr} {b : β} {x : PyData} {put : PyData → β} {i : Int}
theorem Leaf.dyT (l : Leaf Sh.dy SO K H0 Z H v ps u qs x put b) (zh : Same Z H) (ht : dyTup x = true ∧ inR (dyItems x).length i) : ∃ w rs, (∀ Q : VK, Q w H → rIxD K u (.int i) H Q) ∧ Leaf Sh.dy SO K H0 Z H v ps w rs (dyAt x i) (fun z => put (.tuple (setI (dyItems x) i z))) b := by
  obtain ⟨ds, rfl⟩ := dyTup_ex ht.1
  have hi : inR ds.length i := ht.2
  obtain ⟨j, hj, hl⟩ := ixN_some hi
  have r : Dyo K Z H u qs (.tuple ds) := l.w.r
  cases r with
  | @tup a xs _ _ hz ha =>
    have hr := row_dyo ha
    have e : ds[j]? = some (dyAt (.tuple ds) i) := by
      have h := atI_get hi
      unfold atI at h
      rw [hj] at h
      rw [show ds[j]? = some (getI ds i) from h]; rfl
    obtain ⟨w, rs, ls, ts, g1, g2, g3, g4⟩ := allR_at hr e
    have hlen : xs.length = ds.length := allR_len hr
    refine ⟨w, rs, fun Q hQ => .inr ⟨a, xs, i, w, rfl, rfl, SqT.of (zh _ _ hz), ?_, hQ⟩, l.o, ?_⟩
    · unfold atI
      rw [hlen, hj]
      exact g1
    · have e2 : (fun z => put (.tuple (setI (dyItems (.tuple ds)) i z))) = fun z => put (.tuple (ds.set j z)) := by
        funext z
        show put (.tuple (setI ds i z)) = _
        unfold setI
        rw [hj]
      rw [e2]
      refine l.w.trans (put := fun z => .tuple (ds.set j z)) ⟨g3, ls, ts, g2, fun Z' H' qs' x' s hk hr' => ?_⟩
      exact .tup (s _ _ hz) (dyo_row (g4 Z' H' qs' x' s hk hr'))
theorem Leaf.dyL (l : Leaf Sh.dy SO K H0 Z H v ps u qs x put b) (ht : dyLst x = true ∧ immA (dyItems x) = true) : ∃ a, u = .ref a ∧ a ∈ ps ∧ Own K H0 Z H a (dyItems x) ∧ ∀ w (l' : List PyData), immA l' = true → Own K H0 Z (upd H a w) a l' → OwnO SO K H0 Z (upd H a w) v ps (put (.list l')) := by
  have ex := dyLst_eq ht.1
  have r : Dyo K Z H u qs x := l.w.r
  have o := l.sub
  rw [ex] at r
  cases r with
  | @lst a xs rs _ hs ha =>
    obtain ⟨e2, r2⟩ := immA_told _ _ _ ht.2 ha
    subst e2
    refine ⟨a, rfl, l.mem a (by simp), ⟨⟨xs, hs, all_pr r2⟩, o.nz a (by simp), o.n0 a (by simp)⟩, fun w l' hi o' => l.back (by simp) ?_⟩
    obtain ⟨⟨ys, h1, h2⟩, _, _⟩ := o'
    have h3 : DyrAll K Z ys l' := by
      have := dyr_all h2
      rwa [show l'.map (ToD.td : PyData → PyData) = l' from List.map_id l'] at this
    exact .lst h1 (DyrAll.imm _ _ hi h3)
end
end Cd

set_option Elab.async false
set_option linter.all false
set_option maxRecDepth 100000
set_option maxHeartbeats 4000000
namespace Cd
open PySem L2 PyProof.Rows
/-! ### data that is told, or a list of one's own: in one list; and a second list of the same things -/
inductive Dm where
  | told (d : PyData)
  | own (l : List PyData)
def Dm.dat : Dm → PyData
  | .told d => d
  | .own l => .list l
def Dm.isO : Dm → Bool
  | .told _ => false
  | .own _ => true
def Dm.its : Dm → List PyData
  | .told _ => []
  | .own l => l
instance : Inhabited Dm := ⟨.own []⟩
instance : Py Dm := ⟨fun K Z v a => Py.R K Z v a.dat, fun s h => Py.mono (α := PyData) s h⟩
def Sh.dm : Sh Dm where
  R := fun K Z H v ps a => match a with
    | .told d => ps = [] ∧ Py.R K Z v d
    | .own l => (Sh.lt PyData).R K Z H v ps l
  keep := fun {K Z Z' H H' v ps a} s h r => by
    cases a with
    | told d => exact ⟨r.1, Py.mono s r.2⟩
    | own l => exact (Sh.lt PyData).keep s h r
  stands := fun {K Z H v ps a} r => by
    cases a with
    | told d => intro q hq; rw [r.1] at hq; cases hq
    | own l => exact (Sh.lt PyData).stands r
instance : MutS Sh.dm := ⟨fun {K Z H v ps a} r => by
  cases a with
  | told d => intro q hq; rw [r.1] at hq; cases hq
  | own l => exact MutS.mt (S := Sh.lt PyData) r⟩
theorem dyr_list {K : Fr} {Z : Hp} {v : V} {l : List PyData} (h : Py.R K Z v l) : Py.R K Z v (PyData.list l) := by
  obtain ⟨a, xs, rfl, hz, p⟩ := h
  exact .lst hz (pr_dyAll p)
instance : Dat Sh.dm := ⟨fun {K Z v ps a} r => by
  cases a with
  | told d => exact r.2
  | own l => exact dyr_list (Dat.dat (S := Sh.lt PyData) r)⟩
section
variable {K : Fr} {Z0 H0 Z H : Hp} {G : List Rt} {v : V}
/-- a list of one's own of which only the values are known -/
structure Raw where xs : List V
instance : Py Raw := ⟨fun _ Z v a => ∃ q, v = .ref q ∧ Z q = some (.lst a.xs), fun s ⟨q, e, h⟩ => ⟨q, e, s _ _ h⟩⟩
def Sh.raw : Sh Raw where
  R := fun _ _ H v ps a => ∃ q, v = .ref q ∧ ps = [q] ∧ H q = some (.lst a.xs)
  keep := fun s h ⟨q, e1, e2, h1⟩ => ⟨q, e1, e2, (h q (by rw [e2]; simp)).trans h1⟩
  stands := fun ⟨q, e1, e2, h1⟩ x hx => by rw [e2, List.mem_singleton] at hx; rw [hx]; exact ⟨_, h1⟩
instance : MutS Sh.raw := ⟨fun ⟨q, e1, e2, h1⟩ x hx => by rw [e2, List.mem_singleton] at hx; rw [hx]; exact ⟨_, h1, trivial⟩⟩
instance : Dat Sh.raw := ⟨fun ⟨q, e1, _, h1⟩ => ⟨q, e1, h1⟩⟩
instance : ImmS Sh.raw := ⟨fun _ r => r⟩
instance {α : Type} [Py α] {S : Sh α} [Dat S] {xs : List V} : Dat (Sh.lstV xs S) := ⟨fun ⟨p, qs, e1, e2, h1, h2⟩ => Dat.dat (S := Sh.lst (ShL.all S)) ⟨p, xs, qs, e1, e2, h1, h2⟩⟩
instance {α : Type} {S : Sh α} [MutS S] {xs : List V} : MutS (Sh.lstV xs S) := ⟨fun ⟨p, qs, e1, e2, h1, h2⟩ => MutS.mt (S := Sh.lst (ShL.all S)) ⟨p, xs, qs, e1, e2, h1, h2⟩⟩
end
/-! ### a new object, by a call with keywords -/
structure MakN (P : Program) (w : World) (K : PySem.W.Frag) (mg : Str → Option Value) (base : Heap) (CX : CXT) (k : Nat) (x : Str) (C : Addr) (ps : List Str) (dvs : List V) (js : List Nat) (sp : Sp) (n : Nat) (ks : List Str) (gV : List V → List V → List V) : Prop extends MakD P w K mg base CX k x C ps dvs js sp where
  kw : ∃ (f : Addr) (fd : FuncData) (g : List Value → List Value → List Value), Mk K C f ∧ FnOk P w K mg base CX k f fd ps sp ∧ mg x = some (.ref C) ∧ KBn K fd ps (n + 1) ks g gV
theorem Vals.pick : ∀ {vs : List V} {us : List Value} (i : Nat), Vals vs us → Vals (vs[i]?.toList) (us[i]?.toList)
  | _, _, _, .nil => .nil
  | _, _, 0, .cons h _ => .cons h .nil
  | _, _, i + 1, .cons _ r => Vals.pick i r
end Cd

set_option Elab.async false
set_option linter.all false
set_option maxRecDepth 100000
set_option maxHeartbeats 4000000
/-! ### refusals whose context is None: several except clauses, and what is raised -/
namespace L2
open PySem PySem.Spec PyProof.Rows
inductive HdsC (X : Cx) : List ExceptHandler → List (Value × (Addr → Value → Option Addr → TS)) → Prop
  | nil : HdsC X [] []
  | cons {x : Str} {c : Value} {ts : Addr → Value → Option Addr → TS} {b₀ : Stmt} {suite : List Stmt} {np pos' : Pos} {hds : List ExceptHandler} {l : List (Value × (Addr → Value → Option Addr → TS))} (hc : Names X x c)
      (hsu : ∀ (a : Addr) (oe : Obj) (cls : Value) (d : Option Addr) (pn : List (Addr × Obj)), L2N.Zn cls d oe → (∃ vs, oe.data = .fields vs) → PSs (X.suite a ((a, oe) :: pn)) (b₀ :: suite) (ts a cls d)) (r : HdsC X hds l) :
      HdsC X (.ExceptHandler (some (.Name x np)) none (b₀ :: suite) pos' :: hds) ((c, ts) :: l)
  | named {x n : Str} {i : Nat} {c : Value} {ts : Addr → Value → Option Addr → TS} {b₀ : Stmt} {suite : List Stmt} {np pos' : Pos} {hds : List ExceptHandler} {l : List (Value × (Addr → Value → Option Addr → TS))} (hN : X.N.Nodup) (hi : X.N[i]? = some n) (hln : X.env.kindOf n = some .local) (hc : Names X x c)
      (hsu : ∀ (a : Addr) (oe : Obj) (cls : Value) (d : Option Addr) (pn : List (Addr × Obj)), L2N.Zn cls d oe → (∃ vs, oe.data = .fields vs) → PSs (X.suite a ((a, oe) :: pn)) (b₀ :: suite) (ts a cls d)) (r : HdsC X hds l) :
      HdsC X (.ExceptHandler (some (.Name x np)) (some n) (b₀ :: suite) pos' :: hds) ((c, asT i ts) :: l)
section
variable {X : Cx} {body : List Stmt} {h₀ : ExceptHandler} {hds : List ExceptHandler} {l : List (Value × (Addr → Value → Option Addr → TS))} {pos : Pos} {tb : WX → TS} {Wout : WX}
theorem ps_try_manyC {orelse : List Stmt} {u : TS} (ho : PSs X orelse u) (hs : X.stack = X.env :: X.outer) (hf : X.env.frame = some X.env.locals) (tk : L2N.Takes X Wout)
    (hb : ∀ (W : WX) (pn : List (Addr × Obj)) (xe : Value → Shared → Prop), L2N.Takes (X.tr pn xe) W → PassesOwn (model X.prog X.w) X.A X.env xe → PSs (X.tr pn xe) body (tb W))
    (hh : HdsC X (h₀ :: hds) l) : PS X (.Try body (h₀ :: hds) orelse [] pos) (fun D σ H => tb (wMany X.K Wout D l) { D with nx := u D } σ H) := by
  refine ⟨fun pins s σ H D I h => ?_⟩
  have ok := I.ok
  have hfr : X.A.frames = some (X.env :: X.outer) := by rw [ok.frames, hs]
  refine wpAny_Try_except ?_
  refine wpAny_mono ((hb (wMany X.K Wout D l) (X.pn ++ pins) (fun e s₁ => wpAny (model X.prog X.w) X.A (noteFrame e X.env) (fun _ s₂ => wpAny (model X.prog X.w) X.A (setFlight e none) (fun _ s₃ =>
    wpAny (model X.prog X.w) X.A (handleBy e X.env (h₀ :: hds)) (SP X pins D) X.xe s₃) X.xe s₂) X.xe s₁) (fun w s' xx => ?_) PassesOwn.looking).run [] s σ H { D with nx := u D } (I.toTry _) h) (fun f s1 hsp => ?_) (fun e s1 he => he)
  · obtain ⟨a, B, sI, pins', σ', H', cls, d, rfl, J', nb, up, sky, na, os, ag, w⟩ := xx
    have J : Inv X pins σ' H' sI := J'.ofTry ok
    have sky' : Sky B (X.env :: X.outer) a (L2N.Zn cls d) X.env.locals s'.heap := by rw [← hs]; exact sky
    show wpAny (model X.prog X.w) X.A (noteFrame (.ref a) X.env) _ _ _
    refine L2N.Sky.land L2N.Zn.steady hfr hf sky' fun h3 fl3 up3 => ?_
    have J3 : Inv X pins σ' H' { s' with heap := h3 } := J.landed nb fl3.1 (up.trans up3) os ag
    obtain ⟨oe3, vs3, he3, hz3, hd3⟩ := fl3.there
    have nfr : a ∉ frs (X.env :: X.outer) := fun hm => by
      obtain ⟨_, o', e', hnf⟩ := fl3.2.2.1.mem hm
      rw [he3] at e'; cases e'
      exact hnf _ hd3
    have nL : a ≠ X.env.locals := fun z => nfr (List.mem_filterMap.mpr ⟨X.env, List.mem_cons_self, by rw [hf, z]⟩)
    have nF : a ∉ X.fs := fun hm => by
      obtain ⟨e, he, q⟩ := List.mem_filterMap.mp hm
      exact nfr (List.mem_filterMap.mpr ⟨e, List.mem_cons_of_mem _ he, q⟩)
    have S3 := J3.suite he3 hd3 na nL nF
    have test : ∀ {x : Str} {np : Pos} {c : Value}, Names X x c → ∀ {Q : Value → Shared → Prop} {E : Value → Shared → Prop}, Q c { s' with heap := h3 } → wpAny (model X.prog X.w) (X.A.mark (some (.ref a))) (eval (.Name x np) X.env) Q E { s' with heap := h3 } := fun {x np c} hc {Q E} q => by
      obtain ⟨hg, hdbg, hm | ⟨hm, hv, hnn⟩⟩ := hc
      · exact ld_glob (X := X.suite a ((a, oe3) :: (X.pn ++ pins))) S3 hg hm q hdbg
      · exact ld_blt (X := X.suite a ((a, oe3) :: (X.pn ++ pins))) S3 hg hm hv q hnn hdbg
    have LT : PySem.W.Looks (model X.prog X.w) h3 (typeOf (.ref a)) cls := fun A Q E s k q => wpAny_typeOf_ref (k _ _ he3) (by rw [hz3.1]; exact q)
    have go : ∀ {hds' : List ExceptHandler} {l' : List (Value × (Addr → Value → Option Addr → TS))}, HdsC X hds' l' → wMany X.K Wout D l' cls d σ' H' →
        wpAny (model X.prog X.w) X.A (handleBy (.ref a) X.env hds') (SP X pins D) X.xe { s' with heap := h3 } := by
      intro hds' l' hk
      induction hk with
      | nil =>
        intro w
        refine wpAny_handleBy_nil ?_
        obtain ⟨k1, k2, k3, oe, vs, T, oT, ts', he, hz, hd, h1, hr⟩ := id fl3
        unfold PySem.passOn
        refine wpAny_bind (wpAny_field he hd h1 ?_)
        rw [if_neg (show ¬ ((Value.ref T == Value.none) = true) from by simp)]
        have fin : wpAny (model X.prog X.w) X.A (setFlight (.ref a) X.env.frame) (fun _ s4 => wpAny (model X.prog X.w) X.A (throw (.ref a) : Sem Flow) (SP X pins D) X.xe s4) X.xe { s' with heap := h3 } := by
          rw [hf]
          refine HandSPX.setFlight_upZ fl3 fun h4 hh4 up4 => wpAny_throw (tk _ _ ?_)
          exact ⟨a, B, sI, pins, σ', H', cls, d, rfl, J, nb, (up.trans up3).trans up4, .inr (.inr (by rw [hs]; exact hh4)), na, os, ag, w⟩
        first
          | exact wpAny_bind (wpAny_pure (wpAny_bind fin))
          | exact wpAny_bind fin
      | @cons x c ts b₀ suite np pos' hds2 l2 hc hsu r ih =>
        intro w
        obtain ⟨b, hb1, hyes, hno⟩ := w
        refine wpAny_handleBy_cons (codeAny_handlers_test ?_) (by intro q; cases q)
        refine test hc ((PySem.W.exm_one (M := model X.prog X.w) (J3.kIn) LT hb1).here ?_)
        cases b with
        | true =>
          refine codeAny_handlers_suite (HandSPX.lands_againZ fl3 fun h4 fl4 up4 => ?_)
          have J4 : Inv X pins σ' H' { s' with heap := h4 } := J.landed nb fl4.1 ((up.trans up3).trans up4) os ag
          obtain ⟨oe4, vs4, he4, hz4, hd4⟩ := fl4.there
          refine wpAny_mono ((hsu a oe4 cls d (X.pn ++ pins) hz4 ⟨_, hd4⟩).run [] _ _ H' _ (J4.suite he4 hd4 na nL nF) (hyes rfl a na)) (fun f s6 hsp => ?_) (fun _ _ z => False.elim z)
          cases f with
          | next => obtain ⟨σ6, H6, S6, q6⟩ := hsp; exact ⟨_, _, S6.unsuite ok, q6⟩
          | brk => obtain ⟨σ6, H6, S6, q6⟩ := hsp; exact ⟨_, _, S6.unsuite ok, q6⟩
          | cont => obtain ⟨σ6, H6, S6, q6⟩ := hsp; exact ⟨_, _, S6.unsuite ok, q6⟩
          | ret u => obtain ⟨v6, σ6, H6, S6, r6, q6⟩ := hsp; exact ⟨_, _, _, S6.unsuite ok, r6, q6⟩
        | false =>
          show wpAny _ X.A (handleBy (.ref a) X.env hds2) _ _ _
          exact ih (hno rfl)
      | @named x n i c ts b₀ suite np pos' hds2 l2 hN hi hln hc hsu r ih =>
        intro w
        obtain ⟨b, hb1, hyes, hno⟩ := w
        refine wpAny_handleBy_cons (codeAny_handlers_test ?_) (by intro q; cases q)
        refine test hc ((PySem.W.exm_one (M := model X.prog X.w) (J3.kIn) LT hb1).here ?_)
        cases b with
        | true =>
          refine codeAny_handlers_suite_as (HandSPX.lands_againZ fl3 fun h4 fl4 up4 => ?_)
          have J4 : Inv X pins σ' H' { s' with heap := h4 } := J.landed nb fl4.1 ((up.trans up3).trans up4) os ag
          obtain ⟨oe4, vs4, he4, hz4, hd4⟩ := fl4.there
          refine store_ok (X := X.suite a ((a, oe4) :: (X.pn ++ pins))) (v := .ref a) (J4.suite he4 hd4 na nL nF) hN hi (.inl hln) rfl (fun s5 S5 => ?_) (.inr hln)
          refine wpAny_mono ((hsu a oe4 cls d (X.pn ++ pins) hz4 ⟨_, hd4⟩).run [] s5 _ H' _ S5 (hyes rfl a na)) (fun f s6 hsp => ?_) (fun _ _ z => False.elim z)
          have end_ : ∀ {σ6 : St} {H6 : Hp} {Q : Shared → Prop}, Inv (X.suite a ((a, oe4) :: (X.pn ++ pins))) [] σ6 H6 s6 → (∀ s7, Inv X pins (σ6.set i none) H6 s7 → Q s7) →
              wpAny (model X.prog X.w) X.A (do bindName X.env n .none; unbindBehindTheSuite X.env n pos') (fun _ s7 => Q s7) X.xe s6 := fun {σ6 H6 Q} S6 hq => gone_ok (S6.unsuite ok) hN hi hln hq
          cases f with
          | next => obtain ⟨σ6, H6, S6, q6⟩ := hsp; exact end_ S6 fun s7 J7 => ⟨_, _, J7, q6⟩
          | brk => obtain ⟨σ6, H6, S6, q6⟩ := hsp; exact end_ S6 fun s7 J7 => ⟨_, _, J7, q6⟩
          | cont => obtain ⟨σ6, H6, S6, q6⟩ := hsp; exact end_ S6 fun s7 J7 => ⟨_, _, J7, q6⟩
          | ret u => obtain ⟨v6, σ6, H6, S6, r6, q6⟩ := hsp; exact end_ S6 fun s7 J7 => ⟨_, _, _, J7, r6, q6⟩
        | false =>
          show wpAny _ X.A (handleBy (.ref a) X.env hds2) _ _ _
          exact ih (hno rfl)
    exact go hh w
  · cases f with
    | next => obtain ⟨σ', H', J', q⟩ := hsp; exact ho.run pins s1 σ' H' D (J'.ofTry ok) q
    | brk => obtain ⟨σ', H', J', q⟩ := hsp; exact ⟨σ', H', J'.ofTry ok, q⟩
    | cont => obtain ⟨σ', H', J', q⟩ := hsp; exact ⟨σ', H', J'.ofTry ok, q⟩
    | ret u => obtain ⟨v, σ', H', J', r, q⟩ := hsp; exact ⟨v, σ', H', J'.ofTry ok, r, q⟩
end
section
variable {X : Cx} {e : Expr} {es : List Expr} {ta : TA} {p pos : Pos}
theorem pmk_oexC {CX : CXT} {x : Str} {C fI : Addr} {k : Nat} {fd : FuncData} {ps : List Str} {sp : Sp} {ds : List Value} {dvs : List V} (T : OexC X.K C) (iC : PySem.W.findIn X.K (.ref C) "__init__" = some (some (.ref fI))) (tI : PySem.W.typeIn X.K (.ref fI) = some (.type "function"))
    (F1 : FnOk X.prog X.w X.K X.mg X.base CX k fI fd ps sp) (hr : Room (k + 1) X.A) (hb : Binds X.K fd ps ds) (hd : Vals dvs ds) (hx : Passes CX X (fun _ _ _ => False)) (hg : Gl X x) (hm : X.mg x = some (.ref C)) (ha : PA X (e :: es) ta)
    (hdb : (x == ("__debug__" : Str)) = false := by decide) (he : starEach (e :: es) X.env = (false, eval e X.env) :: starEach es X.env := by rfl) (hpl : (backTo pos (starEach es X.env)).any (·.1) = false := by rfl) :
    L2N.PMk X (.Call (.Name x p) (e :: es) [] pos) (tMkO C sp dvs ta) := by
  intro pins s σ H Q I h
  obtain ⟨nm, q, N, bs, bm, sn, sub, ab, col, dd, k0, k1, k2, k3, k5, hC, hbm⟩ := T.cls
  refine wpAny_Call_Name_kw (ld_glob I hg hm ?_ hdb)
  refine PySem.W.callWith_K (h₀ := X.base) I.ok.mod.kin T.kC (thn (ha.run pos pins s σ H _ I h) fun us s1 ⟨vs, H1, I1, r1, hz, q1⟩ => ⟨I1.kIn, ?_⟩) he hpl
  show wpAny _ _ (call (.ref C) us) _ _ _
  obtain ⟨hp, g, dr, tk, os⟩ := s1
  have hsz : hp.objs.size ≤ hp.objs.size + 1 := Nat.le_succ _
  have hn : H1 (hp.objs.size + 1) = none := I1.hok.fresh hsz
  have hq := q1 (hp.objs.size + 1) hn
  have kk : ∀ b o, hp.get? b = some o → ((hp.push (PySem.W.kdv_tup us)).push (PySem.HandSPX.excO C hp.objs.size)).get? b = some o := fun b o e => Heap.get?_push_of_some _ (Heap.get?_push_of_some _ e)
  have hget : ((hp.push (PySem.W.kdv_tup us)).push (PySem.HandSPX.excO C hp.objs.size)).get? (hp.objs.size + 1) = some (PySem.HandSPX.excO C hp.objs.size) := by heap_get
  have I2 : Inv X pins σ (upd H1 (hp.objs.size + 1) (exo (hp.objs.size + 1) C none)) ⟨(hp.push (PySem.W.kdv_tup us)).push (PySem.HandSPX.excO C hp.objs.size), g, dr, tk, os⟩ :=
    I1.laid (t' := tk) (a := hp.objs.size + 1) (o := exo (hp.objs.size + 1) C none) (h' := (hp.push (PySem.W.kdv_tup us)).push (PySem.HandSPX.excO C hp.objs.size)) kk hsz (exo_ok hget)
  have r2 : Vals (V.ref (hp.objs.size + 1) :: (vs ++ dvs)) (Value.ref (hp.objs.size + 1) :: (us ++ ds)) := .cons rfl (r1.append hd)
  have hl : (Value.ref (hp.objs.size + 1) :: us ++ ds).length = ps.length := by
    have e := r2.length
    rw [F1.len _ _ _ _ hq] at e
    exact e.symm
  have hus : us.length ≤ sizeLine := by
    rw [← Paired.length r1, sizeLine_eq]
    omega
  refine wpAny_call (PySem.HandSPX.call_own F.excBase_ValueError (fun Y => PySem.HandSPX.refsVE_contains Y bm hbm) (I1.kIn _ _ hC) (PySem.W.looks_findIn I1.kIn iC) (fun self => PySem.W.bind_fn I1.kIn self tI) hus
    (codeAny_mono (F1.run _ X.stack _ _ ⟨Value.ref (hp.objs.size + 1) :: us, []⟩ (Value.ref (hp.objs.size + 1) :: (us ++ ds)) _ _ (fun _ _ _ => False) (hr.make C us []) (I2.env0.make C us []) (hb _ (Value.ref (hp.objs.size + 1) :: us) I2.kIn hl) r2 hq) fun r s' hq' => ?_))
  cases r with
  | error er => exact hx pins σ _ _ er s' I2 hq'
  | ok fl =>
    cases fl with
    | ret u =>
      obtain ⟨v, H2, os2, bare2, un2, hok2, rv, ev, d, fs, ea, ed, hd1, q2⟩ := hq'
      subst ev
      obtain ⟨h2, g2, d2, t2, os'⟩ := s'
      obtain ⟨t0, G, J, kG, ge, hoe, na⟩ := mk_end0 (d2 := d2) (t2 := t2) I1 hsz kk un2 hok2 os2 bare2 ea ed hd1
      exact ⟨rv, hp.objs.size + 1, _, _, ⟨G, g2, d2, t2, os'⟩, _, .ref C, some d, rfl, J, kG, ge, hoe, ⟨rfl, rfl, fun vs hv => by cases hv; rfl⟩, rfl, rfl, na, rfl, bare2, raises_own T.exC T.tyC, q2⟩
    | next => exact False.elim hq'
    | brk => exact False.elim hq'
    | cont => exact False.elim hq'
end
end L2
namespace Cd
open PySem L2 PyProof.Rows
theorem passC {X : Cx} {W : WX} {E : XK} (tk : L2N.Takes X W) (h : ∀ cls d σ H, E cls d H → W cls d σ H) : Passes (L2N.CX X.prog X.w) X E := fun pins σ H s e s' I c => L2N.passes_call tk h pins σ H s e s' I c
theorem pmk_EC {X : Cx} {e : Expr} {es : List Expr} {ta : TA} {x : Str} {C : Addr} {k : Nat} {ps : List Str} {sp : Sp} {p pos : Pos} (c : MkE X.prog X.w X.K X.mg X.base k x C ps sp) (hr : Room (k + 1) X.A) (ha : PA X (e :: es) ta) (hg : Gl X x := by rfl)
    (hdb : (x == ("__debug__" : Str)) = false := by decide) (he : starEach (e :: es) X.env = (false, eval e X.env) :: starEach es X.env := by rfl) (hpl : (backTo pos (starEach es X.env)).any (·.1) = false := by rfl) :
    L2N.PMk X (.Call (.Name x p) (e :: es) [] pos) (tMkO C sp [] ta) := by
  obtain ⟨f, fd, h1, h2, h3, h4, h5, h6⟩ := c.ex
  exact pmk_oexC h1 h2 h3 h4 hr h5 .nil pass0 hg h6 ha hdb he hpl
/-! ### defs that an except suite calls with the refusal that it holds, its context None -/
structure FnC (P : Program) (w : World) (K : Fr) (mg : Str → Option Value) (base : Heap) (k : Nat) (f : Addr) (fd : FuncData) (ps : List Str) (sp : Pn → Sp) : Prop where
  len : ∀ p vs H Q E, sp p vs H Q E → vs.length = ps.length
  run : ∀ (p : Pn) (A : Around) (out : List Env) (s : Shared) (H : Hp) (gs : Args) (us : List Value) (vs : List V) (Q : VK) (E : XK), sp p vs H Q E → Vals vs us → BindsTo s fd gs (ps.zip us) → L2H.RoomH k A → L2H.Hot1 A p → L2H.PinOk out H s p → Env0 P w K mg base A out s H →
    codeAny (model P w) A (.call (.ref f) gs) (CR CX0 out P w H s Q E) s
section
variable {P : Program} {w : World} {K : Fr} {mg : Str → Option Value} {base : Heap}
theorem Fun.okN {x qual : Str} {st : Stmt} {f : Addr} {fd : FuncData} {N ps : List Str} {k : Nat} {sp : Pn → Sp} (F : Fun K x qual st f fd) (S : FnScope N ps (defScope st)) (len : ∀ p vs H Q E, sp p vs H Q E → vs.length = ps.length)
    (body : ∀ (cdv : Value) (A : Around) (out : List Env) (s : Shared) (H : Hp) (p : Pn) (vs : List V) (Q : VK) (E : XK), L2H.RoomH k (A.deeper (envOfC qual (defScope st) s.heap.objs.size f cdv)) → L2H.HotC (L2H.cxH CX0 P w K mg base N qual (defScope st) f cdv A out s H E p) → sp p vs H Q E →
      ∃ t, PSs (L2H.cxH CX0 P w K mg base N qual (defScope st) f cdv A out s H E p) (defBody st) t ∧ t { nx := fun _ H' => Q .non H', rt := Q } (L2.start N vs) H) : FnC P w K mg base (k + 1) f fd ps sp := by
  obtain ⟨_, _, _, _, _, _, cdv, _, _, rfl, lk, hcd⟩ := F.ex
  refine ⟨len, ?_⟩
  intro p A out s H gs us vs Q E hsp rv hb hr hot hpin ev
  have hl := len _ _ _ _ _ hsp
  have inK : K.In s.heap := ev.mod.kin.keeps (fun b o z => (ev.bs b o z).1)
  have nolim : s.heap.NoLimit := ev.mod.nolimit.keeps (fun b o z => (ev.bs b o z).1)
  refine codeAny_call_function hr.depth (inK _ _ lk) rfl S.co S.gen rfl (PySem.W.codeRec_of inK hcd) (hb _ _ _ _ ?_)
  refine wpAny_newFunctionEnv_cells S.kind (par_kind S) (fun env henv s1 ic => ?_)
  subst henv
  refine ⟨nolim.keeps ic.toInCall.keep, codeAny_func ?_⟩
  obtain ⟨t, d, q⟩ := body cdv A out s H p vs Q E (hr.deeper _) ⟨p, hot, List.mem_singleton.mpr rfl⟩ hsp
  have J := L2H.inv_startH (CX := CX0) (E := E) S hpin ev hl rv ic
  refine wpAny_mono (d.run [] s1 _ H _ J q) ?_ (fun _ _ z => z)
  intro fl s2 hs
  cases fl with
  | next => obtain ⟨_, H2, J2, q2⟩ := hs; exact ⟨.non, H2, J2.os, J2.bare, J2.base, J2.hok, rfl, q2⟩
  | ret u => obtain ⟨v, _, H2, J2, r2, q2⟩ := hs; exact ⟨v, H2, J2.os, J2.bare, J2.base, J2.hok, r2, q2⟩
  | brk => obtain ⟨_, _, _, z⟩ := hs; cases z
  | cont => obtain ⟨_, _, _, z⟩ := hs; cases z
structure CalC (P : Program) (w : World) (K : Fr) (mg : Str → Option Value) (base : Heap) (x : Str) (k : Nat) (ps : List Str) (sp : Pn → Sp) : Prop where
  ex : ∃ f fd, FnC P w K mg base k f fd ps sp ∧ mg x = some (.ref f) ∧ PySem.W.keepIn K (.ref f) = true ∧ Binds K fd ps []
end
section
variable {X : Cx} {a : Addr} {oe : Obj} {cls : Value} {d : Option Addr} {pn : List Pn} {k : Nat} {x : Str} {ps : List Str} {sp : Pn → Sp} {e : Expr} {es : List Expr} {t : TA} {q pos : Pos}
theorem hot_suite (hz : L2N.Zn cls d oe) (hf : ∃ vs, oe.data = .fields vs) : L2H.Hot1 (X.suite a ((a, oe) :: pn)).A (a, oe) := by
  obtain ⟨vs, hv⟩ := hf
  exact ⟨rfl, vs, hv, hz.2.2 vs hv⟩
theorem run_C {f : Addr} {fd : FuncData} {pins : List Pn} {σ : L2.St} {H : Hp} {s : Shared} {Q : VK} {us : List Value} {vs : List V} {p : Pn} (F : FnC X.prog X.w X.K X.mg X.base k f fd ps sp) (hr : L2H.RoomH k X.A) (hot : L2H.Hot1 X.A p) (hp : p ∈ X.pn) (hb : Binds X.K fd ps [])
    (I : Inv X pins σ H s) (r : Vals vs us) (h : sp p vs H Q E0) : wpAny (model X.prog X.w) X.A (call (.ref f) us) (EP X pins σ Q) X.xe s := by
  have hl : us.length = ps.length := r.length.symm.trans (F.len _ _ _ _ _ h)
  have hbs := hb s us I.kIn (by simpa using hl)
  simp only [List.append_nil] at hbs
  have z := I.pin p (List.mem_append_left _ hp)
  have hpin : L2H.PinOk X.stack H s p := by
    refine ⟨z.1, z.2.1, fun hm => ?_, z.2.2.2.2⟩
    cases List.mem_cons.mp (I.stkSub p.1 hm) with
    | inl y => exact z.2.2.1 y
    | inr y => exact z.2.2.2.1 y
  refine wpAny_call (codeAny_mono (F.run p X.A X.stack s H ⟨us, []⟩ us vs Q E0 h r hbs hr hot hpin I.env0) ?_)
  intro rr s2 hq
  cases rr with
  | error _ => exact False.elim hq
  | ok fl =>
    cases fl with
    | ret u => exact I.after hq
    | next => exact False.elim hq
    | brk => exact False.elim hq
    | cont => exact False.elim hq
theorem pe_calC (c : CalC X.prog X.w X.K X.mg X.base x k ps sp) (hr : Room k X.A) (hz : L2N.Zn cls d oe) (hf : ∃ vs, oe.data = .fields vs) (ha : PA (X.suite a ((a, oe) :: pn)) (e :: es) t) (hg : Gl X x := by rfl) (hdb : (x == ("__debug__" : Str)) = false := by decide)
    (he : starEach (e :: es) X.env = (false, eval e X.env) :: starEach es X.env := by rfl) (hpl : (backTo pos (starEach es X.env)).any (·.1) = false := by rfl) :
    PE (X.suite a ((a, oe) :: pn)) (.Call (.Name x q) (e :: es) [] pos) (tCallE a cls d sp t) := by
  obtain ⟨f, fd, F, hm, hk, hb⟩ := c.ex
  refine ⟨fun pins s σ H Q I h => ?_⟩
  refine wpAny_Call_Name_kw (ld_glob I hg hm ?_ hdb)
  refine PySem.W.callWith_K (h₀ := X.base) I.ok.mod.kin hk ?_ he hpl
  refine thn (ha.run pos pins s σ H _ I h) ?_
  rintro us s1 ⟨vs, H1, I1, r, hq⟩
  exact ⟨I1.kIn, run_C F (L2H.roomH_of ⟨hr.hd, hr.dp, hr.un⟩ |> fun z => ⟨z.dp, z.un⟩) (hot_suite hz hf) List.mem_cons_self hb I1 r (hq (a, oe) ⟨rfl, hz.zc, hf⟩)⟩
end
end Cd
namespace Cd
open PySem L2 PyProof.Rows
/-- .. handed on to another def -/
theorem pe_calCP {X : Cx} {a : Addr} {cls : Value} {d : Option Addr} {k : Nat} {x : Str} {ps : List Str} {sp : Pn → Sp} {e : Expr} {es : List Expr} {t : TA} {q pos : Pos} {p : Pn} (c : CalC X.prog X.w X.K X.mg X.base x k ps sp) (hr : L2H.RoomH k X.A) (hc : L2H.HotC X) (hp : X.pn = [p]) (hrf : Rf cls d a p) (ha : PA X (e :: es) t) (hg : Gl X x := by rfl) (hdb : (x == ("__debug__" : Str)) = false := by decide)
    (he : starEach (e :: es) X.env = (false, eval e X.env) :: starEach es X.env := by rfl) (hpl : (backTo pos (starEach es X.env)).any (·.1) = false := by rfl) :
    PE X (.Call (.Name x q) (e :: es) [] pos) (tCallE a cls d sp t) := by
  obtain ⟨f, fd, F, hm, hk, hb⟩ := c.ex
  obtain ⟨p', hot, hp'⟩ := hc
  rw [hp, List.mem_singleton] at hp'
  subst hp'
  refine ⟨fun pins s σ H Q I h => ?_⟩
  refine wpAny_Call_Name_kw (ld_glob I hg hm ?_ hdb)
  refine PySem.W.callWith_K (h₀ := X.base) I.ok.mod.kin hk ?_ he hpl
  refine thn (ha.run pos pins s σ H _ I h) ?_
  rintro us s1 ⟨vs, H1, I1, r, hq⟩
  exact ⟨I1.kIn, run_C F hr hot (by rw [hp]; exact List.mem_singleton.mpr rfl) hb I1 r (hq p' hrf)⟩
end Cd
namespace L2
open PySem PySem.Spec PyProof.Rows
theorem passNC {X : Cx} : Passes (L2N.CX X.prog X.w) X E0 := fun _ _ _ _ _ _ _ h => by
  obtain ⟨_, _, _, _, _, _, _, _, _, _, _, _, z⟩ := h
  exact z.elim
theorem takes0C {X : Cx} : L2N.Takes X (fun _ _ _ _ => False) := fun _ _ x => by
  obtain ⟨_, _, _, _, _, _, _, _, _, _, _, _, _, _, _, _, z⟩ := x
  exact z.elim
theorem Fun.okXC {P : Program} {w : World} {K : PySem.W.Frag} {mg : Str → Option Value} {base : Heap} {x qual : Str} {st : Stmt} {f : Addr} {fd : FuncData} {N ps : List Str} {k : Nat} {sp : Sp} (F : Fun K x qual st f fd) (S : FnScope N ps (defScope st)) (len : ∀ vs H Q E, sp vs H Q E → vs.length = ps.length)
    (hbody : ∀ (cdv : Value) (A : Around) (outer : List Env) (s : Shared) (H : Hp) (vs : List V) (Q : VK) (E : XK), Room k (A.deeper (envOfC qual (defScope st) s.heap.objs.size f cdv)) → sp vs H Q E →
      ∃ t, PSs (cxOf (L2N.CX P w) P w K mg base N qual (defScope st) f cdv A outer s H E) (defBody st) t ∧ t { nx := fun _ H' => Q .non H', rt := Q } (start N vs) H) : FnOk P w K mg base (L2N.CX P w) (k + 1) f fd ps sp := by
  obtain ⟨oc, od, kV, doc, pm, an, cdv, ct, osl, rfl, lk, hcd⟩ := F.ex
  exact fn_of lk hcd S len fun A outer s H vs Q E hr hsp => hbody cdv A outer s H vs Q E hr hsp
end L2

set_option Elab.async false
set_option linter.all false
set_option maxRecDepth 100000
set_option maxHeartbeats 4000000
namespace Cd
open PySem L2

structure Mater where
  pockets : (List (List Str))
  log : (List Int)
  field : (Int × Int)
  fed_last : (Option Str)
  parts : (Dct Str Bool)
  word : Str
deriving Inhabited
def Mater.row (a : Mater) : ((List (List Str)) × ((List Int) × ((Int × Int) × ((Option Str) × ((Dct Str Bool) × (Str × Unit)))))) := (a.pockets, (a.log, (a.field, (a.fed_last, (a.parts, (a.word, ()))))))
def sh_Mater : Sh Mater := (Sh.objK "Mater" ["pockets", "log", "field", "fed_last", "parts", "word"] (ShL.cons (Sh.lst (ShL.all (Sh.lt Str))) (ShL.cons (Sh.lt Int) (ShL.cons (Sh.told (α := (Int × Int))) (ShL.cons (Sh.told (α := (Option Str))) (ShL.cons (Sh.dc Str Bool) (ShL.cons (Sh.told (α := Str)) ShL.nil))))))).via Mater.row
instance : IsRef sh_Mater := inferInstanceAs (IsRef (Sh.via _ _))
instance : Py Mater := pyObj "Mater" ["pockets", "log", "field", "fed_last", "parts", "word"] Mater.row
instance : Dat sh_Mater := dat_obj
instance : MutS sh_Mater := mut_obj
instance : Nn Mater := ⟨fun h e => by obtain ⟨C, p, dx, vs, e0, e1, _⟩ := h; rw [e1] at e; cases e⟩
instance : ImmS sh_Mater := imm_obj
theorem fld_Mater_pockets {K : Fr} {Z H : Hp} {v : V} {a : Mater} {A : Addr} {Q : V → Prop} (zh : Same Z H) (h : Py.R K Z v a) (nk : PySem.W.nsIn K mainGlobals "Mater" = some (some (.ref A))) (cl : Cls K A) (na : NoAttr K A "pockets") (k : ∀ u, Py.R K Z u a.pockets → Q u) : ∃ p C dx fs u, v = .ref p ∧ H p = some (.ins C dx fs) ∧ Cls K C ∧ NoAttr K C "pockets" ∧ fs.lookup ("pockets" : Str) = some u ∧ Q u := by
  obtain ⟨p, dx, vs, rfl, h1, hl, h3⟩ := objR.at h zh nk
  obtain ⟨v0, w0, rfl, g0, h3⟩ := h3
  obtain ⟨v1, w1, rfl, g1, h3⟩ := h3
  obtain ⟨v2, w2, rfl, g2, h3⟩ := h3
  obtain ⟨v3, w3, rfl, g3, h3⟩ := h3
  obtain ⟨v4, w4, rfl, g4, h3⟩ := h3
  obtain ⟨v5, w5, rfl, g5, h3⟩ := h3
  obtain rfl := h3
  exact ⟨p, A, dx, _, v0, rfl, h1, cl, na, rfl, k _ g0⟩
theorem fld_Mater_log {K : Fr} {Z H : Hp} {v : V} {a : Mater} {A : Addr} {Q : V → Prop} (zh : Same Z H) (h : Py.R K Z v a) (nk : PySem.W.nsIn K mainGlobals "Mater" = some (some (.ref A))) (cl : Cls K A) (na : NoAttr K A "log") (k : ∀ u, Py.R K Z u a.log → Q u) : ∃ p C dx fs u, v = .ref p ∧ H p = some (.ins C dx fs) ∧ Cls K C ∧ NoAttr K C "log" ∧ fs.lookup ("log" : Str) = some u ∧ Q u := by
  obtain ⟨p, dx, vs, rfl, h1, hl, h3⟩ := objR.at h zh nk
  obtain ⟨v0, w0, rfl, g0, h3⟩ := h3
  obtain ⟨v1, w1, rfl, g1, h3⟩ := h3
  obtain ⟨v2, w2, rfl, g2, h3⟩ := h3
  obtain ⟨v3, w3, rfl, g3, h3⟩ := h3
  obtain ⟨v4, w4, rfl, g4, h3⟩ := h3
  obtain ⟨v5, w5, rfl, g5, h3⟩ := h3
  obtain rfl := h3
  exact ⟨p, A, dx, _, v1, rfl, h1, cl, na, rfl, k _ g1⟩
theorem fld_Mater_field {K : Fr} {Z H : Hp} {v : V} {a : Mater} {A : Addr} {Q : V → Prop} (zh : Same Z H) (h : Py.R K Z v a) (nk : PySem.W.nsIn K mainGlobals "Mater" = some (some (.ref A))) (cl : Cls K A) (na : NoAttr K A "field") (k : ∀ u, Py.R K Z u a.field → Q u) : ∃ p C dx fs u, v = .ref p ∧ H p = some (.ins C dx fs) ∧ Cls K C ∧ NoAttr K C "field" ∧ fs.lookup ("field" : Str) = some u ∧ Q u := by
  obtain ⟨p, dx, vs, rfl, h1, hl, h3⟩ := objR.at h zh nk
  obtain ⟨v0, w0, rfl, g0, h3⟩ := h3
  obtain ⟨v1, w1, rfl, g1, h3⟩ := h3
  obtain ⟨v2, w2, rfl, g2, h3⟩ := h3
  obtain ⟨v3, w3, rfl, g3, h3⟩ := h3
  obtain ⟨v4, w4, rfl, g4, h3⟩ := h3
  obtain ⟨v5, w5, rfl, g5, h3⟩ := h3
  obtain rfl := h3
  exact ⟨p, A, dx, _, v2, rfl, h1, cl, na, rfl, k _ g2⟩
theorem fld_Mater_parts {K : Fr} {Z H : Hp} {v : V} {a : Mater} {A : Addr} {Q : V → Prop} (zh : Same Z H) (h : Py.R K Z v a) (nk : PySem.W.nsIn K mainGlobals "Mater" = some (some (.ref A))) (cl : Cls K A) (na : NoAttr K A "parts") (k : ∀ u, Py.R K Z u a.parts → Q u) : ∃ p C dx fs u, v = .ref p ∧ H p = some (.ins C dx fs) ∧ Cls K C ∧ NoAttr K C "parts" ∧ fs.lookup ("parts" : Str) = some u ∧ Q u := by
  obtain ⟨p, dx, vs, rfl, h1, hl, h3⟩ := objR.at h zh nk
  obtain ⟨v0, w0, rfl, g0, h3⟩ := h3
  obtain ⟨v1, w1, rfl, g1, h3⟩ := h3
  obtain ⟨v2, w2, rfl, g2, h3⟩ := h3
  obtain ⟨v3, w3, rfl, g3, h3⟩ := h3
  obtain ⟨v4, w4, rfl, g4, h3⟩ := h3
  obtain ⟨v5, w5, rfl, g5, h3⟩ := h3
  obtain rfl := h3
  exact ⟨p, A, dx, _, v4, rfl, h1, cl, na, rfl, k _ g4⟩
theorem fld_Mater_word {K : Fr} {Z H : Hp} {v : V} {a : Mater} {A : Addr} {Q : V → Prop} (zh : Same Z H) (h : Py.R K Z v a) (nk : PySem.W.nsIn K mainGlobals "Mater" = some (some (.ref A))) (cl : Cls K A) (na : NoAttr K A "word") (k : Q (.str a.word)) : ∃ p C dx fs u, v = .ref p ∧ H p = some (.ins C dx fs) ∧ Cls K C ∧ NoAttr K C "word" ∧ fs.lookup ("word" : Str) = some u ∧ Q u := by
  obtain ⟨p, dx, vs, rfl, h1, hl, h3⟩ := objR.at h zh nk
  obtain ⟨v0, w0, rfl, g0, h3⟩ := h3
  obtain ⟨v1, w1, rfl, g1, h3⟩ := h3
  obtain ⟨v2, w2, rfl, g2, h3⟩ := h3
  obtain ⟨v3, w3, rfl, g3, h3⟩ := h3
  obtain ⟨v4, w4, rfl, g4, h3⟩ := h3
  obtain ⟨v5, w5, rfl, g5, h3⟩ := h3
  obtain rfl := h3
  exact ⟨p, A, dx, _, v5, rfl, h1, cl, na, rfl, by rw [show v5 = (.str a.word) from g5]; exact k⟩
structure Mater_Rower where
  pockets : (List (List Str))
  log : (List Int)
  field : (Int × Int)
  fed_last : (Option Str)
deriving Inhabited
def Mater_Rower.row (a : Mater_Rower) : ((List (List Str)) × ((List Int) × ((Int × Int) × ((Option Str) × Unit)))) := (a.pockets, (a.log, (a.field, (a.fed_last, ()))))
def sh_Mater_Rower : Sh Mater_Rower := (Sh.objK "Mater" ["pockets", "log", "field", "fed_last"] (ShL.cons (Sh.lst (ShL.all (Sh.lt Str))) (ShL.cons (Sh.lt Int) (ShL.cons (Sh.told (α := (Int × Int))) (ShL.cons (Sh.told (α := (Option Str))) ShL.nil))))).via Mater_Rower.row
instance : IsRef sh_Mater_Rower := inferInstanceAs (IsRef (Sh.via _ _))
instance : MutS sh_Mater_Rower := mut_obj
structure Mater_Machine where
  pockets : (List (List Str))
  log : (List Int)
deriving Inhabited
def Mater_Machine.row (a : Mater_Machine) : ((List (List Str)) × ((List Int) × Unit)) := (a.pockets, (a.log, ()))
def sh_Mater_Machine : Sh Mater_Machine := (Sh.objK "Mater" ["pockets", "log"] (ShL.cons (Sh.lst (ShL.all (Sh.lt Str))) (ShL.cons (Sh.lt Int) ShL.nil))).via Mater_Machine.row
instance : IsRef sh_Mater_Machine := inferInstanceAs (IsRef (Sh.via _ _))
instance : MutS sh_Mater_Machine := mut_obj
/-! ### mirrors -/
noncomputable def m_rank_of (a_sign : Str) : R Int :=
  chk (a_sign.length ≤ sizeLine) (
if ((!decide (((a_sign).length : Int) = (1 : Int))) || (!inS a_sign (" 0123456789ABCDEFGHIJKLMNOPQRSTUVWXYZ" : Str))) = true then (
  .bad)
  else (
  .ok (Txt.find (" 0123456789ABCDEFGHIJKLMNOPQRSTUVWXYZ" : Str) a_sign)))
noncomputable def m_columns_of (a_field : (Int × Int)) : R (List Int) :=
  chk (-1000000 ≤ (a_field).1 ∧ (a_field).1 ≤ 1000000 ∧ -1000000 ≤ ((a_field).2 + (1 : Int)) ∧ ((a_field).2 + (1 : Int)) ≤ 1000000) (
.ok (rangeL (a_field).1 (((a_field).2 + (1 : Int)) - (a_field).1).toNat))
noncomputable def m_part_of (a_card : Str) (a_field : (Int × Int)) : R Str :=
  chk (a_card.length ≤ sizeLine) (
.ok (cutS a_card (some ((a_field).1 - (1 : Int))) (some (a_field).2)))
noncomputable def m_comes_ahead_b0 (a_card : Str) (a_other : Str) (column_8 : Int) : R (LR (Unit) Bool) :=
  chk (okIx a_card (column_8 - (1 : Int))) (
vl (chS a_card (column_8 - (1 : Int))) fun here_26 => (
  chk (okIx a_other (column_8 - (1 : Int))) (
vl (chS a_other (column_8 - (1 : Int))) fun there_29 => (
  if (!decide (here_26 = there_29)) = true then (
  R.bind (m_rank_of here_26) fun r33 => (
R.bind (m_rank_of there_29) fun r34 => (
.ok (.ret (decide (r33 < r34))))))
  else (
  .ok (.nxt ()))))))
noncomputable def m_comes_ahead (a_card : Str) (a_other : Str) (a_columns : (List Int)) : R Bool :=
  R.bind (forL (fun (s_ : Unit) (q_ : Int) => m_comes_ahead_b0 a_card a_other q_) () a_columns) fun o_ => LR.go o_ (fun _ => (
  .ok false)) (fun v_ => .ok v_)
noncomputable def m_out_at_b0 (a_deck : (List Str)) (a_columns : (List Int)) (place_4 : Int) : R (LR (Unit) (Option Int)) :=
  chk (inR a_deck.length place_4) (
chk (inR a_deck.length (place_4 - (1 : Int))) (
R.bind (m_comes_ahead (getI a_deck place_4) (getI a_deck (place_4 - (1 : Int))) a_columns) fun r23 => (
if r23 = true then (
  .ok (.ret (some place_4)))
  else (
  .ok (.nxt ())))))
noncomputable def m_out_at (a_deck : (List Str)) (a_columns : (List Int)) : R (Option Int) :=
  chk (-(2 ^ 62) ≤ (1 : Int) ∧ (1 : Int) < 2 ^ 62 ∧ -(2 ^ 62) ≤ ((a_deck).length : Int) ∧ ((a_deck).length : Int) < 2 ^ 62) (
R.bind (forL (fun (s_ : Unit) (q_ : Int) => m_out_at_b0 a_deck a_columns q_) () (rangeL (1 : Int) (((a_deck).length : Int) - (1 : Int)).toNat)) fun o_ => LR.go o_ (fun _ => (
  .ok (none : Option Int))) (fun v_ => .ok v_))
noncomputable def m_gather_b0 (deck_14 : (List Str)) (pocket_18 : (List Str)) : R ((List Str)) :=
  chk (deck_14.length + pocket_18.length ≤ sizeLine) (
vl (deck_14 ++ pocket_18) fun deck_39 => (
  .ok deck_39))
noncomputable def m_gather (a_some : (List (List Str))) : R (List Str) :=
  vl ([] : (List Str)) fun deck_1 => (
  R.bind (forR (fun (s_ : (List Str)) (q_ : (List Str)) => m_gather_b0 s_ q_) deck_1 a_some) fun deck_14 => (
  .ok deck_14))
noncomputable def m_put_back_b0 (a_some : (List (List Str))) (deck_27 : (List Str)) (taken_28 : (List Int)) (number_33 : Int) : R ((List Str) × (List Int)) :=
  chk (inR a_some.length number_33) (
chk (inR taken_28.length number_33) (
chk (inR (getI a_some number_33).length (getI taken_28 number_33)) (
chk (deck_27.length < sizeLine) (
vl (deck_27 ++ [(getI (getI a_some number_33) (getI taken_28 number_33))]) fun deck_59 => (
  chk (0 ≤ number_33 ∧ number_33 < (taken_28.length : Int) ∧ taken_28.length < sizeLine) (
vl (setI taken_28 number_33 (getI taken_28 number_33 + (1 : Int))) fun taken_64 => (
  .ok (deck_59, taken_64))))))))
noncomputable def m_put_back_k0 (deck_27 : (List Str)) (taken_28 : (List Int)) : R ((List Str)) :=
  .ok deck_27
noncomputable def m_put_back (a_some : (List (List Str))) (a_numbers : (List Int)) : R (List Str) :=
  chk (-(2 ^ 63) ≤ ((a_some).length : Int) ∧ ((a_some).length : Int) < 2 ^ 63 ∧ [(0 : Int)].length * (((a_some).length : Int)).toNat ≤ sizeLine) (
vl (repL [(0 : Int)] ((a_some).length : Int)) fun taken_2 => (
  vl ([] : (List Str)) fun deck_14 => (
  R.bind (forR (fun (s_ : (List Str) × (List Int)) (q_ : Int) => m_put_back_b0 a_some s_.1 s_.2 q_) (deck_14, taken_2) a_numbers) fun (s_ : (List Str) × (List Int)) => m_put_back_k0 s_.1 s_.2)))
noncomputable def m_Mater_Machine___init__ (a_many : Int) : R Mater_Machine :=
  chk (-(2 ^ 62) ≤ a_many ∧ a_many < 2 ^ 62) (
chk ((rangeL 0 (a_many).toNat).length < sizeLine) (
R.bind (lcR (fun (k_4 : Int) => (
.ok (some ([] : (List Str))))) (rangeL 0 (a_many).toNat)) fun r8 => (
vl r8 fun self_pockets_1 => (
  vl ([] : (List Int)) fun self_log_36 => (
  .ok (⟨self_pockets_1, self_log_36⟩ : Mater_Machine))))))
noncomputable def m_Mater_Rower___init__ (a_field : (Int × Int)) : R Mater_Rower :=
  R.bind (m_Mater_Machine___init__ (2 : Int)) fun r8 => (
  vl a_field fun self_field_20 => (
  vl (none : Option Str) fun self_fed_last_22 => (
  .ok (⟨(r8).pockets, (r8).log, self_field_20, self_fed_last_22⟩ : Mater_Rower))))
noncomputable def m_Mater___init___b0 (a_other_field : (Int × Int)) (self_parts_52 : (Dct Str Bool)) (card_56 : Str) : R ((Dct Str Bool)) :=
  R.bind (m_part_of card_56 a_other_field).nx fun r74 => (
chk (self_parts_52.kv.length < sizeLine) (
vl (⟨dPut (self_parts_52).kv r74 true⟩ : (Dct Str Bool)) fun self_parts_81 => (
  .ok self_parts_81)))
noncomputable def m_Mater___init__ (a_field : (Int × Int)) (a_other : (List Str)) (a_other_field : (Int × Int)) (a_word : Str) : R Mater :=
  R.bind (m_Mater_Rower___init__ a_field).nx fun r8 => (
  if (!decide (((a_field).2 - (a_field).1) = ((a_other_field).2 - (a_other_field).1))) = true then (
  .ex .NoField)
  else (
  R.bind (m_columns_of a_other_field).nx fun r26 => (
R.bind (m_out_at a_other r26).nx fun r27 => (
  optB r27 (
  vl (⟨[]⟩ : (Dct Str Bool)) fun self_parts_39 => (
  R.bind (forR (fun (s_ : (Dct Str Bool)) (q_ : Str) => m_Mater___init___b0 a_other_field s_ q_) self_parts_39 a_other) fun self_parts_52 => (
  vl a_word fun self_word_89 => (
  .ok (⟨(r8).pockets, (r8).log, (r8).field, (r8).fed_last, self_parts_52, self_word_89⟩ : Mater))))) (fun place_38 => (
  .ex (Er.NoOrder (2 : Int) place_38)))))))
noncomputable def m_mater_of (a_going : PyData) (a_trays : (Dct Str (List Str))) : R Mater :=
  chk (dySeq a_going = true ∧ inR (dyItems a_going).length (2 : Int)) (
chk ((FromD.fd (α := Str) (dyAt a_going (2 : Int))).isSome = true) (
vl ((FromD.fd (α := Str) (dyAt a_going (2 : Int))).getD default) fun name_5 => (
  if (!(decide (name_5 ∈ (a_trays).kv.map (·.1)))) = true then (
  .ex .NoTray)
  else (
  chk (dySeq a_going = true ∧ inR (dyItems a_going).length (3 : Int)) (
chk ((FromD.fd (α := (Int × Int)) (dyAt a_going (3 : Int))).isSome = true) (
chk (name_5 ∈ (a_trays).kv.map (·.1)) (
chk (dySeq a_going = true ∧ inR (dyItems a_going).length (4 : Int)) (
chk ((FromD.fd (α := (Int × Int)) (dyAt a_going (4 : Int))).isSome = true) (
chk (dySeq a_going = true ∧ inR (dyItems a_going).length (5 : Int)) (
chk ((FromD.fd (α := Str) (dyAt a_going (5 : Int))).isSome = true) (
R.bind (m_Mater___init__ ((FromD.fd (α := (Int × Int)) (dyAt a_going (3 : Int))).getD default) (dAt a_trays name_5) ((FromD.fd (α := (Int × Int)) (dyAt a_going (4 : Int))).getD default) ((FromD.fd (α := Str) (dyAt a_going (5 : Int))).getD default)) fun r25 => (
.ok r25))))))))))))
noncomputable def m_machine_of (a_going : PyData) (a_trays : (Dct Str (List Str))) : R Mater :=
  chk (dySeq a_going = true ∧ inR (dyItems a_going).length (0 : Int)) (
chk ((FromD.fd (α := Str) (dyAt a_going (0 : Int))).isSome = true) (
vl ((FromD.fd (α := Str) (dyAt a_going (0 : Int))).getD default) fun word_5 => (
  if (decide (word_5 = ("deal" : Str))) = true then (
  .bad)
  else (
  if (decide (word_5 = ("pick" : Str))) = true then (
  .bad)
  else (
  if (decide (word_5 = ("mate" : Str))) = true then (
  R.bind (m_mater_of a_going a_trays) fun r13 => (
.ok r13))
  else (
  if (decide (word_5 = ("first" : Str))) = true then (
  .bad)
  else (
  if (decide (word_5 = ("punch" : Str))) = true then (
  .bad)
  else (
  .bad))))))))
noncomputable def m_law_cell_at (a_law_script : Scr) (a_law_k : Int) : R Int :=
  if (decide (a_law_k < ((a_law_script).ns.length : Int))) = true then (
  chk (inR a_law_script.ns.length a_law_k) (
.ok (getI a_law_script.ns a_law_k)))
  else (
  .ok (0 : Int))
noncomputable def m_law_known  : R Str :=
  .ok (" 0123456789ABCDEFGHIJKLMNOPQRSTUVWXYZ" : Str)
noncomputable def m_law_card_b0 (a_law_menu : Str) (number_5 : Int) (card_here_6 : Str) (k_11 : Int) : R (Int × Str) :=
  chk (IntMulOk number_5 number_5) (
vl ((((number_5 * number_5) + ((17 : Int) * k_11)) + (5 : Int)) % (2147483629 : Int)) fun number_29 => (
  chk (a_law_menu.length ≤ sizeLine) (
chk ((0 : Int) < ((a_law_menu).length : Int)) (
chk (okIx a_law_menu ((number_29 / (3 : Int)) % ((a_law_menu).length : Int))) (
chk (card_here_6.length + (chS a_law_menu ((number_29 / (3 : Int)) % ((a_law_menu).length : Int))).length ≤ sizeLine) (
vl (card_here_6 ++ (chS a_law_menu ((number_29 / (3 : Int)) % ((a_law_menu).length : Int)))) fun card_here_35 => (
  .ok (number_29, card_here_35))))))))
noncomputable def m_law_card_k0 (a_law_mark : Str) (number_5 : Int) (card_here_6 : Str) : R (Str) :=
  chk (card_here_6.length + a_law_mark.length ≤ sizeLine) (
.ok (card_here_6 ++ a_law_mark))
noncomputable def m_law_card (a_law_cell : Int) (a_law_menu : Str) (a_law_mark : Str) : R Str :=
  vl ("" : Str) fun card_here_1 => (
  vl ((a_law_cell % (2147483647 : Int)) + (3 : Int)) fun number_3 => (
  R.bind (forR (fun (s_ : Int × Str) (q_ : Int) => m_law_card_b0 a_law_menu s_.1 s_.2 q_) (number_3, card_here_1) (rangeL 0 ((36 : Int)).toNat)) fun (s_ : Int × Str) => m_law_card_k0 a_law_mark s_.1 s_.2))
noncomputable def m_law_deck_j0 (menu_10 : Str) (deck_here_25 : (List Str)) (cell_30 : Int) (mark_55 : Str) : R ((List Str)) :=
  R.bind (m_law_card cell_30 menu_10 mark_55) fun r63 => (
chk (deck_here_25.length < sizeLine) (
vl (deck_here_25 ++ [r63]) fun deck_here_70 => (
  .ok deck_here_70)))
noncomputable def m_law_deck_b0 (a_law_way : Int) (menu_10 : Str) (deck_here_25 : (List Str)) (k_29 : Int) (cell_30 : Int) : R ((List Str)) :=
  chk ((((k_29 * (271 : Int)) % (10000 : Int))).natAbs.log2 < 1920) (
vl (Txt.zfill (toStr ((k_29 * (271 : Int)) % (10000 : Int))) (4 : Int)) fun mark_53 => (
  R.bind (if (decide (((a_law_way / (4 : Int)) % (4 : Int)) = (1 : Int))) = true then (
  vl ("MARK" : Str) fun mark_61 => (
  .ok mark_61))
  else (
  .ok mark_53)) fun (s_ : Str) => m_law_deck_j0 menu_10 deck_here_25 cell_30 s_))
noncomputable def m_law_deck (a_law_cells : (List Int)) (a_law_way : Int) : R (List Str) :=
  R.bind m_law_known fun r1 => (
chk (inR [("A " : Str), ("0Z9" : Str), ("B5A 0" : Str), r1].length (a_law_way % (4 : Int))) (
vl (getI [("A " : Str), ("0Z9" : Str), ("B5A 0" : Str), r1] (a_law_way % (4 : Int))) fun menu_10 => (
  vl ([] : (List Str)) fun deck_here_12 => (
  R.bind (forR (fun (s_ : (List Str)) (q_ : (Int × Int)) => m_law_deck_b0 a_law_way menu_10 s_ q_.1 q_.2) deck_here_12 (enumL 0 a_law_cells)) fun deck_here_25 => (
  .ok deck_here_25)))))
noncomputable def m_law_part (a_law_card_here : Str) (a_law_field : (Int × Int)) : R Str :=
  chk (a_law_card_here.length ≤ sizeLine) (
.ok (cutS a_law_card_here (some ((a_law_field).1 - (1 : Int))) (some (a_law_field).2)))
noncomputable def m_law_deck_is_b0 (card_here_16 : Str) (other_17 : Str) : R (LR (Unit) Bool) :=
  if ((!true) || (!decide (card_here_16 = other_17))) = true then (
  .ok (.ret false))
  else (
  .ok (.nxt ()))
noncomputable def m_law_deck_is (a_law_found : (List Str)) (a_law_due : (List Str)) : R Bool :=
  if ((!true) || (!decide (((a_law_found).length : Int) = ((a_law_due).length : Int)))) = true then (
  .ok false)
  else (
  R.bind (forL (fun (s_ : Unit) (q_ : (Str × Str)) => m_law_deck_is_b0 q_.1 q_.2) () (a_law_found.zip a_law_due)) fun o_ => LR.go o_ (fun _ => (
  .ok true)) (fun v_ => .ok v_))
noncomputable def m_law_ordered_c1 (a_law_field : (Int × Int)) (found_14 : (List Str)) (card_here_18 : Str) (at_38 : Int) : R Bool :=
  R.bind (if (decide ((0 : Int) < at_38)) = true then (R.bind (m_law_part card_here_18 a_law_field) fun r49 => (
chk (inR found_14.length (at_38 - (1 : Int))) (
R.bind (m_law_part (getI found_14 (at_38 - (1 : Int))) a_law_field) fun r51 => (
.ok (decide (r49.cps.toList < r51.cps.toList)))))) else .ok false) fun t52 => (
.ok t52)
noncomputable def m_law_ordered_b1 (at_38 : Int) : R (Int) :=
  vl (at_38 - (1 : Int)) fun at_73 => (
  .ok at_73)
noncomputable def m_law_ordered_b0 (a_law_field : (Int × Int)) (found_14 : (List Str)) (card_here_18 : Str) : R ((List Str)) :=
  vl ((found_14).length : Int) fun at_36 => (
  R.bind (whR (fun (s_ : Int) => m_law_ordered_c1 a_law_field found_14 card_here_18 s_) (fun (s_ : Int) => m_law_ordered_b1 s_) fuelN at_36) fun at_38 => (
  chk (found_14.length < sizeLine ∧ 0 ≤ at_38 ∧ at_38 < 2 ^ 63) (
vl (insI found_14 at_38 card_here_18) fun found_78 => (
  .ok found_78))))
noncomputable def m_law_ordered (a_law_deck_here : (List Str)) (a_law_field : (Int × Int)) : R (List Str) :=
  vl ([] : (List Str)) fun found_1 => (
  R.bind (forR (fun (s_ : (List Str)) (q_ : Str) => m_law_ordered_b0 a_law_field s_ q_) found_1 a_law_deck_here) fun found_14 => (
  .ok found_14))
noncomputable def m_law_is_other_NoField  : R Bool :=
  if (false || (false || (false || false))) = true then (
  .ok true)
  else (
  .ok true)
noncomputable def m_law_is_other_NoOrder (a_law_e1 : Int) (a_law_e2 : Int) : R Bool :=
  if (false || (false || (false || false))) = true then (
  .ok true)
  else (
  .ok (false || (false || (false || false))))
noncomputable def m_law_is_other_NoTray  : R Bool :=
  if (false || (false || (false || false))) = true then (
  .ok true)
  else (
  .ok (false || (false || (false || true))))
noncomputable def m_law_fields_j1 (width_5 : Int) (first_13 : Int) (other_18 : Int) : R (((Int × Int) × (Int × Int))) :=
  .ok ((first_13, ((first_13 + width_5) - (1 : Int))), (other_18, ((other_18 + width_5) - (1 : Int))))
noncomputable def m_law_fields_j0 (number_1 : Int) (width_5 : Int) : R (((Int × Int) × (Int × Int))) :=
  chk ((0 : Int) < ((37 : Int) - width_5)) (
vl ((1 : Int) + ((number_1 / (27 : Int)) % ((37 : Int) - width_5))) fun first_13 => (
  chk ((0 : Int) < ((37 : Int) - width_5)) (
vl ((1 : Int) + ((number_1 / (1000 : Int)) % ((37 : Int) - width_5))) fun other_16 => (
  R.bind (if (decide (((number_1 / (37000 : Int)) % (5 : Int)) = (0 : Int))) = true then (
  vl first_13 fun other_23 => (
  .ok other_23))
  else (
  .ok other_16)) fun (s_ : Int) => m_law_fields_j1 width_5 first_13 s_))))
noncomputable def m_law_fields (a_law_cell : Int) : R ((Int × Int) × (Int × Int)) :=
  vl ((((a_law_cell % (2147483647 : Int)) + (5 : Int)) * (48271 : Int)) % (2147483647 : Int)) fun number_1 => (
  vl ((1 : Int) + (number_1 % (3 : Int))) fun width_3 => (
  R.bind (if (decide (((number_1 / (3 : Int)) % (9 : Int)) = (0 : Int))) = true then (
  vl (12 : Int) fun width_10 => (
  .ok width_10))
  else (
  .ok width_3)) fun (s_ : Int) => m_law_fields_j0 number_1 s_))
noncomputable def m_law_out_b0 (a_law_deck_here : (List Str)) (a_law_field : (Int × Int)) (k_4 : Int) : R (LR (Unit) (Option Int)) :=
  chk (inR a_law_deck_here.length k_4) (
R.bind (m_law_part (getI a_law_deck_here k_4) a_law_field) fun r22 => (
chk (inR a_law_deck_here.length (k_4 - (1 : Int))) (
R.bind (m_law_part (getI a_law_deck_here (k_4 - (1 : Int))) a_law_field) fun r24 => (
if (decide (r22.cps.toList < r24.cps.toList)) = true then (
  .ok (.ret (some k_4)))
  else (
  .ok (.nxt ()))))))
noncomputable def m_law_out (a_law_deck_here : (List Str)) (a_law_field : (Int × Int)) : R (Option Int) :=
  chk (-(2 ^ 62) ≤ (1 : Int) ∧ (1 : Int) < 2 ^ 62 ∧ -(2 ^ 62) ≤ ((a_law_deck_here).length : Int) ∧ ((a_law_deck_here).length : Int) < 2 ^ 62) (
R.bind (forL (fun (s_ : Unit) (q_ : Int) => m_law_out_b0 a_law_deck_here a_law_field q_) () (rangeL (1 : Int) (((a_law_deck_here).length : Int) - (1 : Int)).toNat)) fun o_ => LR.go o_ (fun _ => (
  .ok (none : Option Int))) (fun v_ => .ok v_))
noncomputable def m_law_made (a_law_fields_here : ((Int × Int) × (Int × Int))) (a_law_others : (List Str)) (a_law_word : Str) (a_law_way : Int) : R Mater :=
  if (decide ((a_law_way % (2 : Int)) = (0 : Int))) = true then (
  R.bind (m_Mater___init__ (a_law_fields_here).1 a_law_others (a_law_fields_here).2 a_law_word) fun r5 => (
.ok r5))
  else (
  R.bind (m_machine_of (ToD.td ((⟨[(ToD.td (("mate" : Str) : Str)), (ToD.td (("a" : Str) : Str)), (ToD.td (("b" : Str) : Str)), (ToD.td ((a_law_fields_here).1 : (Int × Int))), (ToD.td ((a_law_fields_here).2 : (Int × Int))), (ToD.td (a_law_word : Str))]⟩ : (TL PyData)) : (TL PyData))) (⟨dOf [(("a" : Str), ([] : (List Str))), (("b" : Str), a_law_others)]⟩ : (Dct Str (List Str)))) fun r14 => (
.ok r14))
noncomputable def m_law_is_out_NoField (a_law_deck_here : Int) (a_law_place : Int) : R Bool :=
    .ok false
noncomputable def m_law_is_out_NoOrder_b0 (told_37 : Int) (due_38 : Int) : R (LR (Unit) Bool) :=
  if ((!true) || (false || (!decide (told_37 = due_38)))) = true then (
  .ok (.ret false))
  else (
  .ok (.nxt ()))
noncomputable def m_law_is_out_NoOrder (a_law_e1 : Int) (a_law_e2 : Int) (a_law_deck_here : Int) (a_law_place : Int) : R Bool :=
  R.bind (if (!true) = true then .ok true else (if (!true) = true then .ok true else (R.bind (m_law_is_other_NoOrder a_law_e1 a_law_e2) fun r1 => (
.ok r1)))) fun t2 => (
if t2 = true then (
  .ok false)
  else (
  R.bind (forL (fun (s_ : Unit) (q_ : (Int × Int)) => m_law_is_out_NoOrder_b0 q_.1 q_.2) () [(a_law_e1, a_law_deck_here), (a_law_e2, a_law_place)]) fun o_ => LR.go o_ (fun _ => (
  .ok true)) (fun v_ => .ok v_)))
noncomputable def m_law_is_out_NoTray (a_law_deck_here : Int) (a_law_place : Int) : R Bool :=
    .ok false
noncomputable def m_law_no_machine (a_law_fields_here : ((Int × Int) × (Int × Int))) (a_law_others : (List Str)) (a_law_word : Str) (a_law_way : Int) (a_law_place : Int) : R Bool :=
  R.tr (
  R.bind (m_law_made a_law_fields_here a_law_others a_law_word a_law_way) fun r5 => (
  .ok ()))
 (fun _ => (
  .ok false))
 (fun e_ => match e_ with
  | .NoField  => (
  .bad)
  | .NoOrder p_24 q_25 => (
  R.bind (m_law_is_out_NoOrder p_24 q_25 (2 : Int) a_law_place) fun r30 => (
.ok r30))
  | .NoTray  => (
  .bad)
  | _ => .bad)
noncomputable def m_Mater_stays (a_self : Mater) (a_card : Str) : R Bool :=
  R.bind (m_part_of a_card (a_self).field) fun r2 => (
.ok (decide ((decide (r2 ∈ ((a_self).parts).kv.map (·.1))) = (decide ((a_self).word = ("mates" : Str))))))
noncomputable def m_Mater_pocket_for (a_self : Mater) (a_card : Str) : R (Mater × Int) :=
  R.bind (if (!((a_self).fed_last).isNone) = true then (chk ((a_self).fed_last.isSome = true) (
R.bind (m_columns_of (a_self).field).nx fun r15 => (
R.bind (m_comes_ahead a_card ((a_self).fed_last.getD default) r15).nx fun r17 => (
.ok r17)))) else .ok false) fun t18 => (
if t18 = true then (
  .ex (Er.NoOrder (1 : Int) (((a_self).log).length : Int)))
  else (
  R.bind (m_Mater_stays (⟨(a_self).pockets, (a_self).log, (a_self).field, (a_self).fed_last, (a_self).parts, (a_self).word⟩ : Mater) a_card).nx fun r45 => (
vl (b2i (!r45)) fun number_52 => (
  vl (some a_card) fun self_fed_last_54 => (
  .ok ((⟨(a_self).pockets, (a_self).log, (a_self).field, self_fed_last_54, (a_self).parts, (a_self).word⟩ : Mater), number_52))))))
noncomputable def m_Mater_laid (a_self : Mater) (a_card : Str) : R Str :=
  .ok a_card
noncomputable def m_Mater_feed (a_self : Mater) (a_card : Str) : R Mater :=
  R.bind (m_Mater_pocket_for (⟨(a_self).pockets, (a_self).log, (a_self).field, (a_self).fed_last, (a_self).parts, (a_self).word⟩ : Mater) a_card) fun r15 => (
vl r15.2 fun number_50 => (
  chk (inR (r15.1).pockets.length number_50) (
R.bind (m_Mater_laid (⟨(r15.1).pockets, (r15.1).log, (r15.1).field, (r15.1).fed_last, (r15.1).parts, (r15.1).word⟩ : Mater) a_card).nx fun r58 => (
chk ((getI (r15.1).pockets number_50).length < sizeLine) (
vl ((getI (r15.1).pockets number_50) ++ [r58]) fun part_68 => (
vl (setI (r15.1).pockets number_50 part_68) fun self_pockets_70 => (
  chk ((r15.1).log.length < sizeLine) (
vl ((r15.1).log ++ [number_50]) fun self_log_75 => (
  .ok (⟨self_pockets_70, self_log_75, (r15.1).field, (r15.1).fed_last, (r15.1).parts, (r15.1).word⟩ : Mater))))))))))
noncomputable def m_Mater_back (a_self : Mater) : R (List Str) :=
  R.bind (m_put_back (a_self).pockets (a_self).log) fun r3 => (
.ok r3)
noncomputable def m_law_refuses (a_law_machine : Mater) (a_law_card_here : Str) (a_law_fed : (List Str)) : R (Mater × Bool) :=
  vl false fun told_1 => (
  R.tr (
  R.bind (m_Mater_feed a_law_machine a_law_card_here) fun r7 => (
  .ok r7))
 (fun (r7 : Mater) => (
  R.bind (if (!told_1) = true then .ok true else (R.bind (m_Mater_back r7) fun r32 => (
R.bind (m_law_deck_is r32 a_law_fed) fun r33 => (
.ok (!r33))))) fun t34 => (
if t34 = true then (
  .ok (r7, false))
  else (
  chk (inR a_law_fed.length (-(1 : Int))) (
R.bind (m_Mater_feed r7 (getI a_law_fed (-(1 : Int)))).nx fun r56 => (
if true = true then (
  R.bind (m_Mater_back r56) fun r73 => (
chk (a_law_fed.length + (cutL a_law_fed (some (-(1 : Int))) none).length ≤ sizeLine) (
R.bind (m_law_deck_is r73 (a_law_fed ++ (cutL a_law_fed (some (-(1 : Int))) none))) fun r75 => (
.ok (r56, r75)))))
  else (
.ok (r56, false))))))))
 (fun e_ => match e_ with
  | .NoField  => (
  .bad)
  | .NoOrder p_93 q_94 => (
  R.bind (m_law_is_out_NoOrder p_93 q_94 (1 : Int) ((a_law_fed).length : Int)) fun r99 => (
  R.bind (if (!r99) = true then .ok true else (R.bind (m_Mater_back a_law_machine) fun r109 => (
R.bind (m_law_deck_is r109 a_law_fed) fun r110 => (
.ok (!r110))))) fun t111 => (
if t111 = true then (
  .ok (a_law_machine, false))
  else (
  chk (inR a_law_fed.length (-(1 : Int))) (
R.bind (m_Mater_feed a_law_machine (getI a_law_fed (-(1 : Int)))).nx fun r133 => (
if true = true then (
  R.bind (m_Mater_back r133) fun r150 => (
chk (a_law_fed.length + (cutL a_law_fed (some (-(1 : Int))) none).length ≤ sizeLine) (
R.bind (m_law_deck_is r150 (a_law_fed ++ (cutL a_law_fed (some (-(1 : Int))) none))) fun r152 => (
.ok (r133, r152)))))
  else (
.ok (r133, false))))))))
  | _ => .bad))
noncomputable def m_law_no_tray (a_law_fields_here : ((Int × Int) × (Int × Int))) (a_law_word : Str) : R Bool :=
  R.tr (
  R.bind (m_machine_of (ToD.td ((⟨[(ToD.td (("mate" : Str) : Str)), (ToD.td (("a" : Str) : Str)), (ToD.td (("b" : Str) : Str)), (ToD.td ((a_law_fields_here).1 : (Int × Int))), (ToD.td ((a_law_fields_here).2 : (Int × Int))), (ToD.td (a_law_word : Str))]⟩ : (TL PyData)) : (TL PyData))) (⟨dOf [(("a" : Str), ([] : (List Str)))]⟩ : (Dct Str (List Str)))) fun r7 => (
  .ok ()))
 (fun _ => (
  .ok false))
 (fun e_ => match e_ with
  | .NoField  => (
  .bad)
  | .NoOrder p_36 q_37 => (
  .bad)
  | .NoTray  => (
  .ok true)
  | _ => .bad)
noncomputable def m_Mater_finish (a_self : Mater) : R Unit :=
  .ok ()
noncomputable def m_Mater_stayed (a_self : Mater) : R (List Str) :=
  chk (inR (a_self).pockets.length (0 : Int)) (
.ok (getI (a_self).pockets (0 : Int)))
noncomputable def m_Mater_laid_aside (a_self : Mater) : R (List Str) :=
  R.bind (m_gather (cutL (a_self).pockets (some (1 : Int)) none)) fun r2 => (
.ok r2)
noncomputable def m_Mater_lines_out (a_self : Mater) : R (List Str) :=
  .ok ([] : (List Str))
noncomputable def m_law_ended_b0 (a_law_fields_here : ((Int × Int) × (Int × Int))) (known_here_14 : (Dct Str Bool)) (card_here_18 : Str) : R ((Dct Str Bool)) :=
  R.bind (m_law_part card_here_18 (a_law_fields_here).2) fun r37 => (
chk (known_here_14.kv.length < sizeLine) (
vl (⟨dPut (known_here_14).kv r37 true⟩ : (Dct Str Bool)) fun known_here_44 => (
  .ok known_here_44)))
noncomputable def m_law_ended (a_law_machine : Mater) (a_law_ones : (List Str)) (a_law_others : (List Str)) (a_law_fields_here : ((Int × Int) × (Int × Int))) (a_law_word : Str) : R Bool :=
  vl (⟨[]⟩ : (Dct Str Bool)) fun known_here_1 => (
  R.bind (forR (fun (s_ : (Dct Str Bool)) (q_ : Str) => m_law_ended_b0 a_law_fields_here s_ q_) known_here_1 a_law_others) fun known_here_14 => (
  chk (a_law_ones.length < sizeLine) (
R.bind (lcR (fun (card_here_52 : Str) => (
R.bind (m_law_part card_here_52 (a_law_fields_here).1) fun r56 => (
if (decide ((decide (r56 ∈ (known_here_14).kv.map (·.1))) = (decide (a_law_word = ("mates" : Str))))) = true then (.ok (some card_here_52)) else .ok none))) a_law_ones) fun r58 => (
  chk (a_law_ones.length < sizeLine) (
R.bind (lcR (fun (card_here_87 : Str) => (
R.bind (m_law_part card_here_87 (a_law_fields_here).1) fun r91 => (
if (!decide ((decide (r91 ∈ (known_here_14).kv.map (·.1))) = (decide (a_law_word = ("mates" : Str))))) = true then (.ok (some card_here_87)) else .ok none))) a_law_ones) fun r93 => (
  R.bind (R.bind (m_Mater_finish a_law_machine) fun r122 => (
if false = true then .ok true else (R.bind (m_Mater_stayed a_law_machine) fun r123 => (
R.bind (m_law_deck_is r123 r58) fun r124 => (
.ok (!r124)))))) fun t125 => (
if t125 = true then (
  .ok false)
  else (
  R.bind (m_Mater_stayed a_law_machine) fun r149 => (
chk (r149.length < sizeLine) (
  R.bind (m_Mater_laid_aside a_law_machine) fun r160 => (
R.bind (m_law_deck_is r160 r93) fun r161 => (
if (!r161) = true then (
  .ok false)
  else (
  R.bind (R.bind (m_Mater_stayed a_law_machine) fun r173 => (
R.bind (m_law_deck_is r173 r58) fun r174 => (
if r174 = true then (R.bind (m_Mater_lines_out a_law_machine) fun r175 => (
.ok (decide ((r175 : (List Str)) = ([] : (List Str)))))) else .ok false))) fun t176 => (
.ok t176))))))))))))))
noncomputable def m_law_b0 (r41 : ((Int × Int) × (Int × Int))) (ones_53 : (List Str)) (machine_135 : Mater) (k_139 : Int) (card_here_140 : Str) : R (LR (Mater) Bool) :=
  chk (inR ones_53.length (max2 (0 : Int) (k_139 - (1 : Int)))) (
vl (getI ones_53 (max2 (0 : Int) (k_139 - (1 : Int)))) fun before_163 => (
  R.bind (m_law_part card_here_140 (r41).1) fun r166 => (
R.bind (m_law_part before_163 (r41).1) fun r168 => (
if (decide (r166.cps.toList < r168.cps.toList)) = true then (
  R.bind (m_law_refuses machine_135 card_here_140 (cutL ones_53 none (some k_139))) fun r177 => (
.ok (.ret r177.2)))
  else (
  R.bind (m_Mater_feed machine_135 card_here_140).nx fun r190 => (
if false = true then (
  .ok (.ret false))
  else (
  R.bind (m_Mater_back r190) fun r206 => (
R.bind (m_law_deck_is r206 (cutL ones_53 none (some (k_139 + (1 : Int))))) fun r207 => (
if (!r207) = true then (
  .ok (.ret false))
  else (
  .ok (.nxt r190)))))))))))
noncomputable def m_law_j1 (r37 : Int) (r41 : ((Int × Int) × (Int × Int))) (word_51 : Str) (ones_53 : (List Str)) (others_66 : (List Str)) : R (Bool) :=
  R.bind (m_law_out others_66 (r41).2) fun r80 => (
  optB r80 (
  vl others_66 fun handed_86 => (
  R.bind (m_law_made r41 handed_86 word_51 (r37 / (18 : Int))).nx fun r98 => (
  R.bind (if (!decide ((handed_86 : (List Str)) = others_66)) = true then .ok true else (if (!true) = true then .ok true else (R.bind (m_law_no_tray r41 word_51) fun r109 => (
.ok (!r109))))) fun t110 => (
if t110 = true then (
  .ok false)
  else (
  vl ([] : (List Str)) fun handed_128 => (
  R.bind (forL (fun (s_ : Mater) (q_ : (Int × Str)) => m_law_b0 r41 ones_53 s_ q_.1 q_.2) r98 (enumL 0 ones_53)) fun o_ => LR.go o_ (fun machine_135 => (
  R.bind (m_Mater_back machine_135) fun r234 => (
R.bind (m_law_deck_is r234 ones_53) fun r235 => (
if (!r235) = true then (
  .ok false)
  else (
  R.bind (m_law_ended machine_135 ones_53 others_66 r41 word_51) fun r247 => (
.ok r247)))))) (fun v_ => .ok v_))))))) (fun place_85 => (
  R.bind (m_law_no_machine r41 others_66 word_51 (r37 / (18 : Int)) place_85) fun r251 => (
.ok r251))))
noncomputable def m_law_j0 (others_31 : (List Str)) (r37 : Int) (r41 : ((Int × Int) × (Int × Int))) (word_51 : Str) (ones_53 : (List Str)) : R (Bool) :=
  R.bind (if (decide ((0 : Int) < ((r37 / (6 : Int)) % (3 : Int)))) = true then (
  R.bind (m_law_ordered others_31 (r41).2) fun r72 => (
  .ok r72))
  else (
  .ok others_31)) fun (s_ : (List Str)) => m_law_j1 r37 r41 word_51 ones_53 s_
noncomputable def m_law (a_law_script : Scr) : R Bool :=
  vl (cutL a_law_script.ns (some (3 : Int)) (some (63 : Int))) fun cells_1 => (
  R.bind (m_law_cell_at a_law_script (1 : Int)) fun r7 => (
chk ((0 : Int) < (((cells_1).length : Int) + (1 : Int))) (
vl (r7 % (((cells_1).length : Int) + (1 : Int))) fun cut_12 => (
  R.bind (m_law_cell_at a_law_script (0 : Int)) fun r14 => (
R.bind (m_law_deck cells_1 r14) fun r15 => (
  vl (cutL r15 none (some cut_12)) fun ones_25 => (
  vl (cutL r15 (some cut_12) none) fun others_31 => (
  R.bind (m_law_cell_at a_law_script (2 : Int)) fun r37 => (
  R.bind (m_law_fields r37) fun r41 => (
  chk (inR [("mates" : Str), ("without" : Str)].length (r37 % (2 : Int))) (
vl (getI [("mates" : Str), ("without" : Str)] (r37 % (2 : Int))) fun word_51 => (
  R.bind (if (decide ((0 : Int) < ((r37 / (2 : Int)) % (3 : Int)))) = true then (
  R.bind (m_law_ordered ones_25 (r41).1) fun r59 => (
  .ok r59))
  else (
  .ok ones_25)) fun (s_ : (List Str)) => m_law_j0 others_31 r37 r41 word_51 s_))))))))))))
/-! ### promises -/
def sp_rank_of (K : Fr) (ca : CA) : Sp := fun vs H Q _ => ∃ (Z : Hp) (a_sign : Str), vs = [(.str a_sign)] ∧ Same Z H ∧ Good (m_rank_of a_sign) (fun r_ => ∀ Z' H', Step Z H Z' H' → Q (.int r_) H') NoE
def sp_columns_of (K : Fr) (ca : CA) : Sp := fun vs H Q _ => ∃ (Z : Hp) (a_field : (Int × Int)) (v_field : V), vs = [v_field] ∧ Same Z H ∧ Py.R K Z v_field a_field ∧ Good (m_columns_of a_field) (fun r_ => NewO (Sh.lt Int) K Z H Q r_) NoE
def sp_part_of (K : Fr) (ca : CA) : Sp := fun vs H Q _ => ∃ (Z : Hp) (a_card : Str) (a_field : (Int × Int)) (v_field : V), vs = [(.str a_card), v_field] ∧ Same Z H ∧ Py.R K Z v_field a_field ∧ Good (m_part_of a_card a_field) (fun r_ => ∀ Z' H', Step Z H Z' H' → Q (.str r_) H') NoE
def sp_comes_ahead (K : Fr) (ca : CA) : Sp := fun vs H Q _ => ∃ (Z : Hp) (a_card : Str) (a_other : Str) (a_columns : (List Int)) (v_columns : V), vs = [(.str a_card), (.str a_other), v_columns] ∧ Same Z H ∧ Py.R K Z v_columns a_columns ∧ Good (m_comes_ahead a_card a_other a_columns) (fun r_ => ∀ Z' H', Step Z H Z' H' → Q (.bl r_) H') NoE
def sp_out_at (K : Fr) (ca : CA) : Sp := fun vs H Q _ => ∃ (Z : Hp) (a_deck : (List Str)) (v_deck : V) (a_columns : (List Int)) (v_columns : V), vs = [v_deck, v_columns] ∧ Same Z H ∧ Py.R K Z v_deck a_deck ∧ Py.R K Z v_columns a_columns ∧ Good (m_out_at a_deck a_columns) (fun r_ => Tel K Z H Q r_) NoE
def sp_gather (K : Fr) (ca : CA) : Sp := fun vs H Q _ => ∃ (Z : Hp) (a_some : (List (List Str))) (v_some : V), vs = [v_some] ∧ Same Z H ∧ Py.R K Z v_some a_some ∧ Good (m_gather a_some) (fun r_ => NewO (Sh.lt Str) K Z H Q r_) NoE
def sp_put_back (K : Fr) (ca : CA) : Sp := fun vs H Q _ => ∃ (Z : Hp) (a_some : (List (List Str))) (v_some : V) (a_numbers : (List Int)) (v_numbers : V), vs = [v_some, v_numbers] ∧ Same Z H ∧ Py.R K Z v_some a_some ∧ Py.R K Z v_numbers a_numbers ∧ Good (m_put_back a_some a_numbers) (fun r_ => NewO (Sh.lt Str) K Z H Q r_) NoE
def sp_Mater_Machine___init__ (K : Fr) (ca : CA) : Sp := fun vs H Q _ => ∃ (Z : Hp) (p_self dx_self : Addr) (a_many : Int), vs = [.ref p_self, (.int a_many)] ∧ Same Z (delL H [p_self, dx_self]) ∧ (∃ C_, PySem.W.nsIn K mainGlobals "Mater" = some (some (.ref C_)) ∧ H p_self = some (.ins C_ dx_self [])) ∧ H dx_self = some (.own p_self) ∧ Good (m_Mater_Machine___init__ a_many) (fun r_ => ∀ (Z' H' : Hp) (ps' : List Addr), Step Z (delL H [p_self, dx_self]) Z' H' → OwnO sh_Mater_Machine K (delL H [p_self, dx_self]) Z' H' (.ref p_self) ps' r_ → Q .non H') NoE
def sp_Mater_Rower___init__ (K : Fr) (ca : CA) : Sp := fun vs H Q _ => ∃ (Z : Hp) (p_self dx_self : Addr) (a_field : (Int × Int)) (v_field : V), vs = [.ref p_self, v_field] ∧ Same Z (delL H [p_self, dx_self]) ∧ (∃ C_, PySem.W.nsIn K mainGlobals "Mater" = some (some (.ref C_)) ∧ H p_self = some (.ins C_ dx_self [])) ∧ H dx_self = some (.own p_self) ∧ Py.R K Z v_field a_field ∧ Good (m_Mater_Rower___init__ a_field) (fun r_ => ∀ (Z' H' : Hp) (ps' : List Addr), Step Z (delL H [p_self, dx_self]) Z' H' → OwnO sh_Mater_Rower K (delL H [p_self, dx_self]) Z' H' (.ref p_self) ps' r_ → Q .non H') NoE
def sp_Mater___init__ (K : Fr) (ca : CA) : Sp := fun vs H Q E => ∃ (Z : Hp) (p_self dx_self : Addr) (a_field : (Int × Int)) (v_field : V) (a_other : (List Str)) (v_other : V) (a_other_field : (Int × Int)) (v_other_field : V) (a_word : Str), vs = [.ref p_self, v_field, v_other, v_other_field, (.str a_word)] ∧ Same Z (delL H [p_self, dx_self]) ∧ (∃ C_, PySem.W.nsIn K mainGlobals "Mater" = some (some (.ref C_)) ∧ H p_self = some (.ins C_ dx_self [])) ∧ H dx_self = some (.own p_self) ∧ Py.R K Z v_field a_field ∧ Py.R K Z v_other a_other ∧ Py.R K Z v_other_field a_other_field ∧ Good (m_Mater___init__ a_field a_other a_other_field a_word) (fun r_ => ∀ (Z' H' : Hp) (ps' : List Addr), Step Z (delL H [p_self, dx_self]) Z' H' → OwnO sh_Mater K (delL H [p_self, dx_self]) Z' H' (.ref p_self) ps' r_ → Q .non H') (fun e_ => ∀ Z' H' cls_ d_, Step Z (delL H [p_self, dx_self]) Z' H' → ExR ca K Z' H' e_ cls_ d_ → E cls_ d_ H')
def sp_mater_of (K : Fr) (ca : CA) : Sp := fun vs H Q E => ∃ (Z : Hp) (a_going : PyData) (v_going : V) (a_trays : (Dct Str (List Str))) (v_trays : V), vs = [v_going, v_trays] ∧ Same Z H ∧ Py.R K Z v_going a_going ∧ Py.R K Z v_trays a_trays ∧ Good (m_mater_of a_going a_trays) (fun r_ => NewO sh_Mater K Z H Q r_) (fun e_ => ∀ Z' H' cls_ d_, Step Z H Z' H' → ExR ca K Z' H' e_ cls_ d_ → E cls_ d_ H')
def sp_machine_of (K : Fr) (ca : CA) : Sp := fun vs H Q E => ∃ (Z : Hp) (a_going : PyData) (v_going : V) (a_trays : (Dct Str (List Str))) (v_trays : V), vs = [v_going, v_trays] ∧ Same Z H ∧ Py.R K Z v_going a_going ∧ Py.R K Z v_trays a_trays ∧ Good (m_machine_of a_going a_trays) (fun r_ => NewO sh_Mater K Z H Q r_) (fun e_ => ∀ Z' H' cls_ d_, Step Z H Z' H' → ExR ca K Z' H' e_ cls_ d_ → E cls_ d_ H')
def sp_law_cell_at (K : Fr) (ca : CA) : Sp := fun vs H Q _ => ∃ (Z : Hp) (a_law_script : Scr) (v_law_script : V) (a_law_k : Int), vs = [v_law_script, (.int a_law_k)] ∧ Same Z H ∧ Py.R K Z v_law_script a_law_script ∧ Good (m_law_cell_at a_law_script a_law_k) (fun r_ => ∀ Z' H', Step Z H Z' H' → Q (.int r_) H') NoE
def sp_law_known (K : Fr) (ca : CA) : Sp := fun vs H Q _ => ∃ (Z : Hp), vs = [] ∧ Same Z H ∧ Good m_law_known (fun r_ => ∀ Z' H', Step Z H Z' H' → Q (.str r_) H') NoE
def sp_law_card (K : Fr) (ca : CA) : Sp := fun vs H Q _ => ∃ (Z : Hp) (a_law_cell : Int) (a_law_menu : Str) (a_law_mark : Str), vs = [(.int a_law_cell), (.str a_law_menu), (.str a_law_mark)] ∧ Same Z H ∧ Good (m_law_card a_law_cell a_law_menu a_law_mark) (fun r_ => ∀ Z' H', Step Z H Z' H' → Q (.str r_) H') NoE
def sp_law_deck (K : Fr) (ca : CA) : Sp := fun vs H Q _ => ∃ (Z : Hp) (a_law_cells : (List Int)) (v_law_cells : V) (a_law_way : Int), vs = [v_law_cells, (.int a_law_way)] ∧ Same Z H ∧ Py.R K Z v_law_cells a_law_cells ∧ Good (m_law_deck a_law_cells a_law_way) (fun r_ => NewO (Sh.lt Str) K Z H Q r_) NoE
def sp_law_part (K : Fr) (ca : CA) : Sp := fun vs H Q _ => ∃ (Z : Hp) (a_law_card_here : Str) (a_law_field : (Int × Int)) (v_law_field : V), vs = [(.str a_law_card_here), v_law_field] ∧ Same Z H ∧ Py.R K Z v_law_field a_law_field ∧ Good (m_law_part a_law_card_here a_law_field) (fun r_ => ∀ Z' H', Step Z H Z' H' → Q (.str r_) H') NoE
def sp_law_deck_is (K : Fr) (ca : CA) : Sp := fun vs H Q _ => ∃ (Z : Hp) (a_law_found : (List Str)) (v_law_found : V) (a_law_due : (List Str)) (v_law_due : V), vs = [v_law_found, v_law_due] ∧ Same Z H ∧ Py.R K Z v_law_found a_law_found ∧ Py.R K Z v_law_due a_law_due ∧ Good (m_law_deck_is a_law_found a_law_due) (fun r_ => ∀ Z' H', Step Z H Z' H' → Q (.bl r_) H') NoE
def sp_law_ordered (K : Fr) (ca : CA) : Sp := fun vs H Q _ => ∃ (Z : Hp) (a_law_deck_here : (List Str)) (v_law_deck_here : V) (a_law_field : (Int × Int)) (v_law_field : V), vs = [v_law_deck_here, v_law_field] ∧ Same Z H ∧ Py.R K Z v_law_deck_here a_law_deck_here ∧ Py.R K Z v_law_field a_law_field ∧ Good (m_law_ordered a_law_deck_here a_law_field) (fun r_ => NewO (Sh.lt Str) K Z H Q r_) NoE
def sp_law_is_other_NoField (K : Fr) (ca : CA) : Pn → Sp := fun p_ vs H Q _ => ∃ (Z : Hp) (x_a : Addr), vs = [.ref x_a] ∧ Same Z H ∧ Rf (.ref ca.NoField) none x_a p_ ∧ Good m_law_is_other_NoField (fun r_ => ∀ Z' H', Step Z H Z' H' → Q (.bl r_) H') NoE
def sp_law_is_other_NoOrder (K : Fr) (ca : CA) : Pn → Sp := fun p_ vs H Q _ => ∃ (Z : Hp) (x_a d_a : Addr) (a_law_e1 a_law_e2 : Int), vs = [.ref x_a] ∧ Same Z H ∧ Rf (.ref ca.NoOrder) (some d_a) x_a p_ ∧ Py.R K Z (.ref d_a) (⟨[("place", .int a_law_e2), ("deck", .int a_law_e1)]⟩ : Xd) ∧ Good (m_law_is_other_NoOrder a_law_e1 a_law_e2) (fun r_ => ∀ Z' H', Step Z H Z' H' → Q (.bl r_) H') NoE
def sp_law_is_other_NoTray (K : Fr) (ca : CA) : Pn → Sp := fun p_ vs H Q _ => ∃ (Z : Hp) (x_a : Addr), vs = [.ref x_a] ∧ Same Z H ∧ Rf (.ref ca.NoTray) none x_a p_ ∧ Good m_law_is_other_NoTray (fun r_ => ∀ Z' H', Step Z H Z' H' → Q (.bl r_) H') NoE
def sp_law_fields (K : Fr) (ca : CA) : Sp := fun vs H Q _ => ∃ (Z : Hp) (a_law_cell : Int), vs = [(.int a_law_cell)] ∧ Same Z H ∧ Good (m_law_fields a_law_cell) (fun r_ => Tel K Z H Q r_) NoE
def sp_law_out (K : Fr) (ca : CA) : Sp := fun vs H Q _ => ∃ (Z : Hp) (a_law_deck_here : (List Str)) (v_law_deck_here : V) (a_law_field : (Int × Int)) (v_law_field : V), vs = [v_law_deck_here, v_law_field] ∧ Same Z H ∧ Py.R K Z v_law_deck_here a_law_deck_here ∧ Py.R K Z v_law_field a_law_field ∧ Good (m_law_out a_law_deck_here a_law_field) (fun r_ => Tel K Z H Q r_) NoE
def sp_law_made (K : Fr) (ca : CA) : Sp := fun vs H Q E => ∃ (Z : Hp) (a_law_fields_here : ((Int × Int) × (Int × Int))) (v_law_fields_here : V) (a_law_others : (List Str)) (v_law_others : V) (a_law_word : Str) (a_law_way : Int), vs = [v_law_fields_here, v_law_others, (.str a_law_word), (.int a_law_way)] ∧ Same Z H ∧ Py.R K Z v_law_fields_here a_law_fields_here ∧ Py.R K Z v_law_others a_law_others ∧ Good (m_law_made a_law_fields_here a_law_others a_law_word a_law_way) (fun r_ => NewO sh_Mater K Z H Q r_) (fun e_ => ∀ Z' H' cls_ d_, Step Z H Z' H' → ExR ca K Z' H' e_ cls_ d_ → E cls_ d_ H')
def sp_law_is_out_NoField (K : Fr) (ca : CA) : Pn → Sp := fun p_ vs H Q _ => ∃ (Z : Hp) (x_a : Addr) (a_law_deck_here : Int) (a_law_place : Int), vs = [.ref x_a, (.int a_law_deck_here), (.int a_law_place)] ∧ Same Z H ∧ Rf (.ref ca.NoField) none x_a p_ ∧ Good (m_law_is_out_NoField a_law_deck_here a_law_place) (fun r_ => ∀ Z' H', Step Z H Z' H' → Q (.bl r_) H') NoE
def sp_law_is_out_NoOrder (K : Fr) (ca : CA) : Pn → Sp := fun p_ vs H Q _ => ∃ (Z : Hp) (x_a d_a : Addr) (a_law_e1 a_law_e2 : Int) (a_law_deck_here : Int) (a_law_place : Int), vs = [.ref x_a, (.int a_law_deck_here), (.int a_law_place)] ∧ Same Z H ∧ Rf (.ref ca.NoOrder) (some d_a) x_a p_ ∧ Py.R K Z (.ref d_a) (⟨[("place", .int a_law_e2), ("deck", .int a_law_e1)]⟩ : Xd) ∧ Good (m_law_is_out_NoOrder a_law_e1 a_law_e2 a_law_deck_here a_law_place) (fun r_ => ∀ Z' H', Step Z H Z' H' → Q (.bl r_) H') NoE
def sp_law_is_out_NoTray (K : Fr) (ca : CA) : Pn → Sp := fun p_ vs H Q _ => ∃ (Z : Hp) (x_a : Addr) (a_law_deck_here : Int) (a_law_place : Int), vs = [.ref x_a, (.int a_law_deck_here), (.int a_law_place)] ∧ Same Z H ∧ Rf (.ref ca.NoTray) none x_a p_ ∧ Good (m_law_is_out_NoTray a_law_deck_here a_law_place) (fun r_ => ∀ Z' H', Step Z H Z' H' → Q (.bl r_) H') NoE
def sp_law_no_machine (K : Fr) (ca : CA) : Sp := fun vs H Q _ => ∃ (Z : Hp) (a_law_fields_here : ((Int × Int) × (Int × Int))) (v_law_fields_here : V) (a_law_others : (List Str)) (v_law_others : V) (a_law_word : Str) (a_law_way : Int) (a_law_place : Int), vs = [v_law_fields_here, v_law_others, (.str a_law_word), (.int a_law_way), (.int a_law_place)] ∧ Same Z H ∧ Py.R K Z v_law_fields_here a_law_fields_here ∧ Py.R K Z v_law_others a_law_others ∧ Good (m_law_no_machine a_law_fields_here a_law_others a_law_word a_law_way a_law_place) (fun r_ => ∀ Z' H', Step Z H Z' H' → Q (.bl r_) H') NoE
def sp_Mater_stays (K : Fr) (ca : CA) : Sp := fun vs H Q _ => ∃ (Z : Hp) (a_self : Mater) (v_self : V) (a_card : Str), vs = [v_self, (.str a_card)] ∧ Same Z H ∧ Py.R K Z v_self a_self ∧ Good (m_Mater_stays a_self a_card) (fun r_ => ∀ Z' H', Step Z H Z' H' → Q (.bl r_) H') NoE
def sp_Mater_pocket_for (K : Fr) (ca : CA) : Sp := fun vs H Q E => ∃ (Z : Hp) (a_self : Mater) (v_self : V) (ps_self : List Addr) (a_card : Str), vs = [v_self, (.str a_card)] ∧ Same Z H ∧ sh_Mater.R K Z H v_self ps_self a_self ∧ ps_self.Nodup ∧ (∀ q ∈ ps_self, Z q = none) ∧ Good (m_Mater_pocket_for a_self a_card) (fun r_ => ∀ (Z' H' : Hp) (ps' : List Addr), Step Z (delL H ps_self) Z' H' → OwnO sh_Mater K (delL H ps_self) Z' H' v_self ps' r_.1 → Q (.int r_.2) H') (fun e_ => ∀ Z' H' ps' cls_ d_, Step Z (delL H ps_self) Z' H' → OwnO sh_Mater K (delL H ps_self) Z' H' v_self ps' a_self → ExR ca K Z' H' e_ cls_ d_ → E cls_ d_ H')
def sp_Mater_laid (K : Fr) (ca : CA) : Sp := fun vs H Q _ => ∃ (Z : Hp) (a_self : Mater) (v_self : V) (a_card : Str), vs = [v_self, (.str a_card)] ∧ Same Z H ∧ Py.R K Z v_self a_self ∧ Good (m_Mater_laid a_self a_card) (fun r_ => ∀ Z' H', Step Z H Z' H' → Q (.str r_) H') NoE
def sp_Mater_feed (K : Fr) (ca : CA) : Sp := fun vs H Q E => ∃ (Z : Hp) (a_self : Mater) (v_self : V) (ps_self : List Addr) (a_card : Str), vs = [v_self, (.str a_card)] ∧ Same Z H ∧ sh_Mater.R K Z H v_self ps_self a_self ∧ ps_self.Nodup ∧ (∀ q ∈ ps_self, Z q = none) ∧ Good (m_Mater_feed a_self a_card) (fun r_ => ∀ (Z' H' : Hp) (ps' : List Addr), Step Z (delL H ps_self) Z' H' → OwnO sh_Mater K (delL H ps_self) Z' H' v_self ps' r_ → Q .non H') (fun e_ => ∀ Z' H' ps' cls_ d_, Step Z (delL H ps_self) Z' H' → OwnO sh_Mater K (delL H ps_self) Z' H' v_self ps' a_self → ExR ca K Z' H' e_ cls_ d_ → E cls_ d_ H')
def sp_Mater_back (K : Fr) (ca : CA) : Sp := fun vs H Q _ => ∃ (Z : Hp) (a_self : Mater) (v_self : V), vs = [v_self] ∧ Same Z H ∧ Py.R K Z v_self a_self ∧ Good (m_Mater_back a_self) (fun r_ => NewO (Sh.lt Str) K Z H Q r_) NoE
def sp_law_refuses (K : Fr) (ca : CA) : Sp := fun vs H Q _ => ∃ (Z : Hp) (a_law_machine : Mater) (v_law_machine : V) (ps_law_machine : List Addr) (a_law_card_here : Str) (a_law_fed : (List Str)) (v_law_fed : V), vs = [v_law_machine, (.str a_law_card_here), v_law_fed] ∧ Same Z H ∧ sh_Mater.R K Z H v_law_machine ps_law_machine a_law_machine ∧ ps_law_machine.Nodup ∧ (∀ q ∈ ps_law_machine, Z q = none) ∧ Py.R K Z v_law_fed a_law_fed ∧ Good (m_law_refuses a_law_machine a_law_card_here a_law_fed) (fun r_ => ∀ (Z' H' : Hp) (ps' : List Addr), Step Z (delL H ps_law_machine) Z' H' → OwnO sh_Mater K (delL H ps_law_machine) Z' H' v_law_machine ps' r_.1 → Q (.bl r_.2) H') NoE
def sp_law_no_tray (K : Fr) (ca : CA) : Sp := fun vs H Q _ => ∃ (Z : Hp) (a_law_fields_here : ((Int × Int) × (Int × Int))) (v_law_fields_here : V) (a_law_word : Str), vs = [v_law_fields_here, (.str a_law_word)] ∧ Same Z H ∧ Py.R K Z v_law_fields_here a_law_fields_here ∧ Good (m_law_no_tray a_law_fields_here a_law_word) (fun r_ => ∀ Z' H', Step Z H Z' H' → Q (.bl r_) H') NoE
def sp_Mater_finish (K : Fr) (ca : CA) : Sp := fun vs H Q _ => ∃ (Z : Hp) (a_self : Mater) (v_self : V), vs = [v_self] ∧ Same Z H ∧ Py.R K Z v_self a_self ∧ Good (m_Mater_finish a_self) (fun r_ => ∀ Z' H', Step Z H Z' H' → Q .non H') NoE
def sp_Mater_stayed (K : Fr) (ca : CA) : Sp := fun vs H Q _ => ∃ (Z : Hp) (a_self : Mater) (v_self : V), vs = [v_self] ∧ Same Z H ∧ Py.R K Z v_self a_self ∧ Good (m_Mater_stayed a_self) (fun r_ => NewO (Sh.lt Str) K Z H Q r_) NoE
def sp_Mater_laid_aside (K : Fr) (ca : CA) : Sp := fun vs H Q _ => ∃ (Z : Hp) (a_self : Mater) (v_self : V), vs = [v_self] ∧ Same Z H ∧ Py.R K Z v_self a_self ∧ Good (m_Mater_laid_aside a_self) (fun r_ => NewO (Sh.lt Str) K Z H Q r_) NoE
def sp_Mater_lines_out (K : Fr) (ca : CA) : Sp := fun vs H Q _ => ∃ (Z : Hp) (a_self : Mater) (v_self : V), vs = [v_self] ∧ Same Z H ∧ Py.R K Z v_self a_self ∧ Good (m_Mater_lines_out a_self) (fun r_ => NewO (Sh.lt Str) K Z H Q r_) NoE
def sp_law_ended (K : Fr) (ca : CA) : Sp := fun vs H Q _ => ∃ (Z : Hp) (a_law_machine : Mater) (v_law_machine : V) (a_law_ones : (List Str)) (v_law_ones : V) (a_law_others : (List Str)) (v_law_others : V) (a_law_fields_here : ((Int × Int) × (Int × Int))) (v_law_fields_here : V) (a_law_word : Str), vs = [v_law_machine, v_law_ones, v_law_others, v_law_fields_here, (.str a_law_word)] ∧ Same Z H ∧ Py.R K Z v_law_machine a_law_machine ∧ Py.R K Z v_law_ones a_law_ones ∧ Py.R K Z v_law_others a_law_others ∧ Py.R K Z v_law_fields_here a_law_fields_here ∧ Good (m_law_ended a_law_machine a_law_ones a_law_others a_law_fields_here a_law_word) (fun r_ => ∀ Z' H', Step Z H Z' H' → Q (.bl r_) H') NoE
def sp_law (K : Fr) : Sp := fun vs H Q _ => ∃ (Z : Hp) (a_law_script : Scr) (v_law_script : V), vs = [v_law_script] ∧ Same Z H ∧ Py.R K Z v_law_script a_law_script ∧ Good (m_law a_law_script) (fun r_ => ∀ Z' H', Step Z H Z' H' → Q (.bl r_) H') NoE
structure Txt (K : Fr) (mg : Str → Option Value) (ca : CA) (cb : CB) : Prop where
  cl_Mater : Cls K cb.Mater
  gc_Mater : mg "Mater" = some (.ref cb.Mater)
  nk_Mater : PySem.W.nsIn K mainGlobals "Mater" = some (some (.ref cb.Mater))
  na_Mater_pockets : NoAttr K cb.Mater "pockets"
  na_Mater_log : NoAttr K cb.Mater "log"
  na_Mater_field : NoAttr K cb.Mater "field"
  na_Mater_fed_last : NoAttr K cb.Mater "fed_last"
  na_Mater_parts : NoAttr K cb.Mater "parts"
  na_Mater_word : NoAttr K cb.Mater "word"
  cl_Mater_Rower : Cls K cb.Mater
  gc_Mater_Rower : mg "Mater" = some (.ref cb.Mater)
  nk_Mater_Rower : PySem.W.nsIn K mainGlobals "Mater" = some (some (.ref cb.Mater))
  na_Mater_Rower_pockets : NoAttr K cb.Mater "pockets"
  na_Mater_Rower_log : NoAttr K cb.Mater "log"
  na_Mater_Rower_field : NoAttr K cb.Mater "field"
  na_Mater_Rower_fed_last : NoAttr K cb.Mater "fed_last"
  cl_Mater_Machine : Cls K cb.Mater
  gc_Mater_Machine : mg "Mater" = some (.ref cb.Mater)
  nk_Mater_Machine : PySem.W.nsIn K mainGlobals "Mater" = some (some (.ref cb.Mater))
  na_Mater_Machine_pockets : NoAttr K cb.Mater "pockets"
  na_Mater_Machine_log : NoAttr K cb.Mater "log"
  gb_Rower : mg "Rower" = some (.ref cb.Rower)
  rb_Rower : CRd K cb.Rower
  gb_Machine : mg "Machine" = some (.ref cb.Machine)
  rb_Machine : CRd K cb.Machine
  is_Mater_Machine : IsiC K cb.Mater cb.Machine
  b_ValueError : mg "ValueError" = none
  b_bool : mg "bool" = none
  b_enumerate : mg "enumerate" = none
  b_int : mg "int" = none
  b_isinstance : mg "isinstance" = none
  b_len : mg "len" = none
  b_list : mg "list" = none
  b_max : mg "max" = none
  b_range : mg "range" = none
  b_str : mg "str" = none
  b_zip : mg "zip" = none
  g_SIGNS : ∃ t, mg "SIGNS" = some (.str (" 0123456789ABCDEFGHIJKLMNOPQRSTUVWXYZ" : Str) t)
  crd_ShopError : CRd K ca.ShopError
  em_NoOrder_ShopError : PySem.W.exmOne K (.ref ca.NoOrder) (.ref ca.ShopError) = some true
  em_NoTray_NoTray : PySem.W.exmOne K (.ref ca.NoTray) (.ref ca.NoTray) = some true
  ex_NoField : PySem.W.excIn K ca.NoField [.type "ValueError", .type "Exception", .type "BaseException", .type "object"] "ValueError.__new__" = true
  ex_NoTray : PySem.W.excIn K ca.NoTray [.type "ValueError", .type "Exception", .type "BaseException", .type "object"] "ValueError.__new__" = true
  gx_Meet : mg "Meet" = some (.ref ca.Meet)
  gx_NoAsking : mg "NoAsking" = some (.ref ca.NoAsking)
  gx_NoBoard : mg "NoBoard" = some (.ref ca.NoBoard)
  gx_NoCard : mg "NoCard" = some (.ref ca.NoCard)
  gx_NoField : mg "NoField" = some (.ref ca.NoField)
  gx_NoOrder : mg "NoOrder" = some (.ref ca.NoOrder)
  gx_NoPlan : mg "NoPlan" = some (.ref ca.NoPlan)
  gx_NoRow : mg "NoRow" = some (.ref ca.NoRow)
  gx_NoTray : mg "NoTray" = some (.ref ca.NoTray)
  gx_ShopError : mg "ShopError" = some (.ref ca.ShopError)
  ki_NoField_Meet : PySem.W.kitOne K (.ref ca.NoField) (.ref ca.Meet) = some false
  ki_NoField_NoAsking : PySem.W.kitOne K (.ref ca.NoField) (.ref ca.NoAsking) = some false
  ki_NoField_NoBoard : PySem.W.kitOne K (.ref ca.NoField) (.ref ca.NoBoard) = some false
  ki_NoField_NoCard : PySem.W.kitOne K (.ref ca.NoField) (.ref ca.NoCard) = some false
  ki_NoField_NoField : PySem.W.kitOne K (.ref ca.NoField) (.ref ca.NoField) = some true
  ki_NoField_NoOrder : PySem.W.kitOne K (.ref ca.NoField) (.ref ca.NoOrder) = some false
  ki_NoOrder_Meet : PySem.W.kitOne K (.ref ca.NoOrder) (.ref ca.Meet) = some false
  ki_NoOrder_NoAsking : PySem.W.kitOne K (.ref ca.NoOrder) (.ref ca.NoAsking) = some false
  ki_NoOrder_NoBoard : PySem.W.kitOne K (.ref ca.NoOrder) (.ref ca.NoBoard) = some false
  ki_NoOrder_NoCard : PySem.W.kitOne K (.ref ca.NoOrder) (.ref ca.NoCard) = some false
  ki_NoOrder_NoField : PySem.W.kitOne K (.ref ca.NoOrder) (.ref ca.NoField) = some false
  ki_NoOrder_NoOrder : PySem.W.kitOne K (.ref ca.NoOrder) (.ref ca.NoOrder) = some true
  ki_NoOrder_NoPlan : PySem.W.kitOne K (.ref ca.NoOrder) (.ref ca.NoPlan) = some false
  ki_NoOrder_NoRow : PySem.W.kitOne K (.ref ca.NoOrder) (.ref ca.NoRow) = some false
  ki_NoOrder_NoTray : PySem.W.kitOne K (.ref ca.NoOrder) (.ref ca.NoTray) = some false
  ki_NoOrder_ValueError : PySem.W.kitOne K (.ref ca.NoOrder) (.type "ValueError") = some true
  ki_NoTray_Meet : PySem.W.kitOne K (.ref ca.NoTray) (.ref ca.Meet) = some false
  ki_NoTray_NoAsking : PySem.W.kitOne K (.ref ca.NoTray) (.ref ca.NoAsking) = some false
  ki_NoTray_NoBoard : PySem.W.kitOne K (.ref ca.NoTray) (.ref ca.NoBoard) = some false
  ki_NoTray_NoCard : PySem.W.kitOne K (.ref ca.NoTray) (.ref ca.NoCard) = some false
  ki_NoTray_NoField : PySem.W.kitOne K (.ref ca.NoTray) (.ref ca.NoField) = some false
  ki_NoTray_NoOrder : PySem.W.kitOne K (.ref ca.NoTray) (.ref ca.NoOrder) = some false
  ki_NoTray_NoPlan : PySem.W.kitOne K (.ref ca.NoTray) (.ref ca.NoPlan) = some false
  ki_NoTray_NoRow : PySem.W.kitOne K (.ref ca.NoTray) (.ref ca.NoRow) = some false
  ki_NoTray_NoTray : PySem.W.kitOne K (.ref ca.NoTray) (.ref ca.NoTray) = some true
  kx_NoField : PySem.W.keepIn K (.ref ca.NoField) = true
  kx_NoTray : PySem.W.keepIn K (.ref ca.NoTray) = true
  oe_NoOrder : OexC K ca.NoOrder
  su_NoField : PySem.W.subIn K (.ref ca.NoField) (.type "BaseException") = some true
  su_NoTray : PySem.W.subIn K (.ref ca.NoTray) (.type "BaseException") = some true
  ty_NoField : PySem.W.typeIn K (.ref ca.NoField) = some (.type "type")
  ty_NoTray : PySem.W.typeIn K (.ref ca.NoTray) = some (.type "type")
  vin_ShopError : PySem.W.findCls K (.ref ca.ShopError) (.type "type") "__init__" = some (.val (.builtin "ValueError.__init__"))
  xc_NoField : ExcC K ca.NoField
  xc_NoOrder : ExcC K ca.NoOrder
  xc_NoTray : ExcC K ca.NoTray
  xf_NoOrder : XfC K ca.NoOrder
  xn_NoOrder_deck : PySem.W.findIn K (.ref ca.NoOrder) "deck" = some none
  xn_NoOrder_place : PySem.W.findIn K (.ref ca.NoOrder) "place" = some none
section
variable {P : Program} {w : World} {K : Fr} {mg : Str → Option Value} {base : Heap} {ca : CA} {cb : CB}
theorem sc_NoOrder___init__ : FnScope ["self", "deck", "place"] ["self", "deck", "place"] (defScope (inClass (topS 5) 0)) := ⟨rfl, rfl, rfl, by decide +kernel, rfl, by decide +kernel, by decide +kernel⟩
theorem okf_NoOrder___init__ {f : Addr} {fd : FuncData} (F : Fun K "__init__" "NoOrder.__init__" (inClass (topS 5) 0) f fd) (T : Txt K mg ca cb) : FnOk P w K mg base CX0 1 f fd ["self", "deck", "place"] (sp_NoOrder K) := by
  refine F.ok sc_NoOrder___init__ (fun vs H0 Q E h => ?_) (fun cdv A outer s H0 vs Q E hr h => ?_)
  · obtain ⟨a, C, d, p, rfl, T1, n1, n2, ha, k⟩ := h
    rfl
  · obtain ⟨a, C, d, p, rfl, T1, n1, n2, ha, k⟩ := h
    have nd := sc_NoOrder___init__.nd
    refine ⟨_, (pss_cons (ps_expr (pe_cinit rfl T.gx_ShopError T.crd_ShopError T.vin_ShopError (pa_cons (pv 0) (pa_cons (pcK pe_str) pnK)))) (pss_cons (ps_ost (pv 0) (pv 1)) (pss_one (ps_ost (pv 0) (pv 2))))), ?_⟩
    refine ⟨_, rfl, ⟨trivial, ⟨trivial, a, C, _, rfl, Nat.le_of_ble_eq_true rfl, T1, ha, ?_⟩⟩⟩
    refine ⟨_, rfl, ⟨_, rfl, a, C, rfl, T1, n1, .inl ⟨ha, fun dx hdx ne => ?_⟩⟩⟩
    refine ⟨_, rfl, ⟨_, rfl, a, C, rfl, T1, n2, .inr ⟨dx, _, upd_same, by rw [upd_ne ne, upd_same], Nat.le_of_ble_eq_true rfl, ?_⟩⟩⟩
    exact xinit_done (k dx hdx ne)
theorem ok_NoOrder___init__ {f : Addr} {fd : FuncData} (F : Fun K "__init__" "NoOrder.__init__" (inClass (topS 5) 0) f fd) (hi : PySem.W.findIn K (.ref ca.NoOrder) "__init__" = some (some (.ref f))) (ht : PySem.W.typeIn K (.ref f) = some (.type "function")) (T : Txt K mg ca cb) : MkE P w K mg base 1 "NoOrder" ca.NoOrder ["self", "deck", "place"] (sp_NoOrder K) :=
  ⟨⟨f, fd, T.oe_NoOrder, hi, ht, okf_NoOrder___init__ F T, F.binds (ps := ["self", "deck", "place"]) fun _ _ _ _ _ _ us hl => match us, hl with | [_, _, _], _ => rfl, T.gx_NoOrder⟩⟩
theorem sc_rank_of : FnScope ["sign"] ["sign"] (defScope (topS 14)) := ⟨rfl, rfl, rfl, by decide +kernel, rfl, by decide +kernel, by decide +kernel⟩
theorem okf_rank_of {f : Addr} {fd : FuncData} (F : Fun K "rank_of" "rank_of" (topS 14) f fd) (T : Txt K mg ca cb) : FnOk P w K mg base CX0 1 f fd ["sign"] (sp_rank_of K ca) := by
  refine F.ok sc_rank_of (fun vs H0 Q E h => ?_) (fun cdv A outer s H0 vs Q E hr h => ?_)
  · obtain ⟨Z0, a_sign, rfl, _⟩ := h
    rfl
  · obtain ⟨Z0, a_sign, rfl, zh, hm⟩ := h
    obtain ⟨t_SIGNS, g_SIGNS⟩ := T.g_SIGNS
    have nd := sc_rank_of.nd
    have hm_ := hm.opn; clear hm; obtain ⟨W, WE, hm, hW, hWE⟩ := hm_
    have hS := Sep.start (K := K) zh
    unfold m_rank_of at hm
    refine ⟨_, (pss_cons (ps_if (ptK (PW.pt (pw_or (pt_cmpR op_ne (pe_callB call_len_str (by rfl) T.b_len PySem.boot_len (pa_cons (pv 0) pnK)) (pcK pe_int) (nomark _)) (pw_or1 (pt_cmpR op_notin_str (pv 0) (pcK (pe_glob (v := .str (" 0123456789ABCDEFGHIJKLMNOPQRSTUVWXYZ" : Str)) rfl g_SIGNS ⟨_, rfl⟩)) (by rfl)))))) (pss_one ps_never) pss_nil) (pss_one (ps_ret (pe_bmK (K := K) rfl PySem.F.plainAttrs_str PySem.F.slot_str_find PySem.F.type_str_find mt_find (pcK (pe_glob (v := .str (" 0123456789ABCDEFGHIJKLMNOPQRSTUVWXYZ" : Str)) rfl g_SIGNS ⟨_, rfl⟩)) (pa_cons (pv 0) pnK))))), ?_⟩
    obtain ⟨g1, hm⟩ := Good.chk hm
    refine ⟨trivial, (ansOr (fun _ q => ⟨_, rfl, ⟨trivial, ⟨_, rfl, g1, ⟨trivial, (k_neI ⟨_, rfl, q⟩)⟩⟩⟩⟩) (fun b4 _ q => ⟨_, rfl, ⟨trivial, ⟨_, _, rfl, rfl, ⟨_, rfl, q⟩⟩⟩⟩) (ite2 (fun e2 => ?_) (fun e3 => ?_)))⟩
    · skip
      have hm := Good.ifT e2 hm
      exact hm.elim
    · skip
      have hm := Good.ifF e3 hm
      refine ⟨trivial, ⟨rfl, ⟨_, rfl, ⟨trivial, ⟨_, _, rfl, rfl, ?_⟩⟩⟩⟩⟩
      exact hW _ hm _ _ hS.st
theorem ok_rank_of {f : Addr} {fd : FuncData} (F : Fun K "rank_of" "rank_of" (topS 14) f fd) (gm : mg "rank_of" = some (.ref f)) (T : Txt K mg ca cb) : Cal P w K mg base CX0 "rank_of" 1 ["sign"] (sp_rank_of K ca) :=
  ⟨⟨f, fd, okf_rank_of F T, gm, F.kp, F.binds (ps := ["sign"]) fun _ _ _ _ _ _ us hl => match us, hl with | [_], _ => rfl⟩⟩
theorem sc_columns_of : FnScope ["field"] ["field"] (defScope (topS 20)) := ⟨rfl, rfl, rfl, by decide +kernel, rfl, by decide +kernel, by decide +kernel⟩
theorem okf_columns_of {f : Addr} {fd : FuncData} (F : Fun K "columns_of" "columns_of" (topS 20) f fd) (T : Txt K mg ca cb) : FnOk P w K mg base CX0 1 f fd ["field"] (sp_columns_of K ca) := by
  refine F.ok sc_columns_of (fun vs H0 Q E h => ?_) (fun cdv A outer s H0 vs Q E hr h => ?_)
  · obtain ⟨Z0, a_field, v_field, rfl, _⟩ := h
    rfl
  · obtain ⟨Z0, a_field, v_field, rfl, zh, h_field, hm⟩ := h
    have nd := sc_columns_of.nd
    have hm_ := hm.opn; clear hm; obtain ⟨W, WE, hm, hW, hWE⟩ := hm_
    have hS := Sep.start (K := K) zh
    have hS := hS.tel h_field
    unfold m_columns_of at hm
    refine ⟨_, (pss_one (ps_ret (pe_listRgN rfl rfl T.b_list (prg_2 rfl T.b_range (pe_ix (ix_tupK (K := K) rfl) (pv 0) (pcK pe_int) (fun _ _ => rfl)) (pe_op op_add (pe_ix (ix_tupK (K := K) rfl) (pv 0) (pcK pe_int) (fun _ _ => rfl)) (pcK pe_int)))))), ?_⟩
    obtain ⟨g1, hm⟩ := Good.chk hm
    refine ⟨_, rfl, ⟨trivial, (k_fstS hS.zh (hS.fact 0 rfl) ⟨_, rfl, ⟨trivial, (k_sndS hS.zh (hS.fact 0 rfl) ⟨trivial, ⟨_, _, rfl, rfl, ⟨_, _, rfl, rfl, (k_listRgN (K := K) hS.zh (rg_ok g1.1 g1.2.1 g1.2.2.1 g1.2.2.2) (New.ownS fun p5 ps6 Z2 H3 st4 o7 => ?_))⟩⟩⟩)⟩⟩)⟩⟩
    have hS := hS.own st4 o7
    obtain ⟨ps_, o_⟩ := hS.nth 0 rfl
    exact hW _ hm _ _ _ _ hS.st o_
theorem ok_columns_of {f : Addr} {fd : FuncData} (F : Fun K "columns_of" "columns_of" (topS 20) f fd) (gm : mg "columns_of" = some (.ref f)) (T : Txt K mg ca cb) : Cal P w K mg base CX0 "columns_of" 1 ["field"] (sp_columns_of K ca) :=
  ⟨⟨f, fd, okf_columns_of F T, gm, F.kp, F.binds (ps := ["field"]) fun _ _ _ _ _ _ us hl => match us, hl with | [_], _ => rfl⟩⟩
theorem sc_part_of : FnScope ["card", "field"] ["card", "field"] (defScope (topS 21)) := ⟨rfl, rfl, rfl, by decide +kernel, rfl, by decide +kernel, by decide +kernel⟩
theorem okf_part_of {f : Addr} {fd : FuncData} (F : Fun K "part_of" "part_of" (topS 21) f fd) (T : Txt K mg ca cb) : FnOk P w K mg base CX0 1 f fd ["card", "field"] (sp_part_of K ca) := by
  refine F.ok sc_part_of (fun vs H0 Q E h => ?_) (fun cdv A outer s H0 vs Q E hr h => ?_)
  · obtain ⟨Z0, a_card, a_field, v_field, rfl, _⟩ := h
    rfl
  · obtain ⟨Z0, a_card, a_field, v_field, rfl, zh, h_field, hm⟩ := h
    have nd := sc_part_of.nd
    have hm_ := hm.opn; clear hm; obtain ⟨W, WE, hm, hW, hWE⟩ := hm_
    have hS := Sep.start (K := K) zh
    have hS := hS.tel h_field
    unfold m_part_of at hm
    refine ⟨_, (pss_one (ps_ret (pe_slice sl_str (pv 0) (po_some (pe_op op_sub (pe_ix (ix_tupK (K := K) rfl) (pv 1) (pcK pe_int) (fun _ _ => rfl)) (pcK pe_int))) (po_some (pe_ix (ix_tupK (K := K) rfl) (pv 1) (pcK pe_int) (fun _ _ => rfl)))))), ?_⟩
    obtain ⟨g1, hm⟩ := Good.chk hm
    refine ⟨_, rfl, ⟨_, rfl, ⟨trivial, (k_fstS hS.zh (hS.fact 0 rfl) ⟨trivial, ⟨_, _, rfl, rfl, ⟨_, rfl, ⟨_, rfl, ⟨trivial, (k_sndS hS.zh (hS.fact 0 rfl) ⟨_, rfl, ⟨_, rfl, g1, ?_⟩⟩)⟩⟩⟩⟩⟩)⟩⟩⟩
    exact hW _ hm _ _ hS.st
theorem ok_part_of {f : Addr} {fd : FuncData} (F : Fun K "part_of" "part_of" (topS 21) f fd) (gm : mg "part_of" = some (.ref f)) (T : Txt K mg ca cb) : Cal P w K mg base CX0 "part_of" 1 ["card", "field"] (sp_part_of K ca) :=
  ⟨⟨f, fd, okf_part_of F T, gm, F.kp, F.binds (ps := ["card", "field"]) fun _ _ _ _ _ _ us hl => match us, hl with | [_, _], _ => rfl⟩⟩
theorem sc_comes_ahead : FnScope ["card", "other", "columns", "column", "here", "there"] ["card", "other", "columns"] (defScope (topS 30)) := ⟨rfl, rfl, rfl, by decide +kernel, rfl, by decide +kernel, by decide +kernel⟩
theorem okf_comes_ahead {f : Addr} {fd : FuncData} (F : Fun K "comes_ahead" "comes_ahead" (topS 30) f fd) (T : Txt K mg ca cb) (C_rank_of : Cal P w K mg base CX0 "rank_of" 1 ["sign"] (sp_rank_of K ca)) : FnOk P w K mg base CX0 2 f fd ["card", "other", "columns"] (sp_comes_ahead K ca) := by
  refine F.ok sc_comes_ahead (fun vs H0 Q E h => ?_) (fun cdv A outer s H0 vs Q E hr h => ?_)
  · obtain ⟨Z0, a_card, a_other, a_columns, v_columns, rfl, _⟩ := h
    rfl
  · obtain ⟨Z0, a_card, a_other, a_columns, v_columns, rfl, zh, h_columns, hm⟩ := h
    have nd := sc_comes_ahead.nd
    have hm_ := hm.opn; clear hm; obtain ⟨W, WE, hm, hW, hWE⟩ := hm_
    have hS := Sep.start (K := K) zh
    have hS := hS.tel h_columns
    unfold m_comes_ahead at hm
    refine ⟨_, (pss_cons (ps_for PassesOwn.never rfl (pi_list (pv 2)) (pg_name (i := 3) nd rfl (Or.inl rfl)) (pss_cons (ps_set (i := 4) nd rfl (Or.inl rfl) (pe_ix ix_str (pv 0) (pe_op op_sub (pv 3) (pcK pe_int)) (fun _ _ => rfl))) (pss_cons (ps_set (i := 5) nd rfl (Or.inl rfl) (pe_ix ix_str (pv 1) (pe_op op_sub (pv 3) (pcK pe_int)) (fun _ _ => rfl))) (pss_one (ps_if (pt_cmpR op_ne (pv 4) (pv 5) (nomark _)) (pss_one (ps_ret (pe_cmpR op_lt (pe_cal C_rank_of (hr.mono (by decide)) pass0 (pa_cons (pv 4) pnK)) (pe_cal C_rank_of (hr.mono (by decide)) pass0 (pa_cons (pv 5) pnK)) (nomark _)))) pss_nil))))) (pss_one (ps_ret (pcK pe_bl)))), ?_⟩
    obtain ⟨a1, xs2, ev3, hz4, pr5⟩ := pyL (hS.fact 0 rfl)
    obtain ⟨W7, hm, hWW7⟩ := Good.bndW hm
    refine ⟨_, rfl, ⟨_, ev3, ⟨_, SqL.of (hS.zh _ _ hz4)⟩, (forK (Z := Z0) (L := a_columns) (src_list hz4 pr5) (fun rr σr Hr Zr => (∃ (w_column : Option V) (w_here : Option V) (w_there : Option V), σr = [some (.str a_card), some (.str a_other), some v_columns, w_column, w_here, w_there] ∧ Sep K Z0 H0 Zr Hr [⟨(Sh.told (α := (List Int))), v_columns, a_columns⟩] ∧ Same Z0 Zr ∧ (Good (forL (fun (s_ : Unit) (q_ : Int) => m_comes_ahead_b0 a_card a_other q_) () rr) W7 WE))) ?_ ?_ ?_ ?_)⟩⟩
    · rintro rr σr Hr Zr hk
      obtain ⟨w_column, w_here, w_there, rfl, hS, sm6, hm⟩ := hk
      exact ⟨sm6, hS.zh⟩
    · exact ⟨Z0, (none), (none), (none), rfl, hS.pick [0] (by decide) rfl, Same.refl _, hm⟩
    · skip
      intro column_8 r9 x10 sg11 H12 H13 Z14 mem15 dec16 hp17 y18
      obtain ⟨w_column, w_here, w_there, rfl, hS, sm6, hm⟩ := hp17
      obtain ⟨W19, hm, hn20, hb21, hr22⟩ := Good.forL hm
      have hm : Good (m_comes_ahead_b0 a_card a_other column_8) _ _ := hm; unfold m_comes_ahead_b0 at hm
      obtain ⟨rfl, rfl⟩ := y18
      refine (tgt1 ?_)
      obtain ⟨g25, hm⟩ := Good.chk hm
      refine ⟨_, rfl, ⟨_, rfl, ⟨trivial, ⟨_, _, rfl, rfl, (k_ixS g25.1 g25.2 (storeS fun here_26 en27 => ?_))⟩⟩⟩⟩
      have hm := Good.vl en27 hm
      obtain ⟨g28, hm⟩ := Good.chk hm
      refine ⟨_, rfl, ⟨_, rfl, ⟨trivial, ⟨_, _, rfl, rfl, (k_ixS g28.1 g28.2 (storeS fun there_29 en30 => ?_))⟩⟩⟩⟩
      have hm := Good.vl en30 hm
      refine ⟨_, rfl, ⟨_, rfl, (k_neS ⟨_, rfl, (ite2 (fun e31 => ?_) (fun e32 => ?_))⟩)⟩⟩
      · skip
        have hm := Good.ifT e31 hm
        refine ⟨_, rfl, ⟨trivial, ⟨_, _, rfl, hS.zh, (Good.bnd hm).imp (fun r33 hm => fun Z35 H36 st37 => ?_) hWE⟩⟩⟩
        have sm6 := sm6.trans st37.zz
        have hS := hS.step st37
        refine ⟨_, rfl, ⟨trivial, ⟨_, _, rfl, hS.zh, (Good.bnd hm).imp (fun r34 hm => fun Z38 H39 st40 => ?_) hWE⟩⟩⟩
        have sm6 := sm6.trans st40.zz
        have hS := hS.step st40
        refine ⟨_, _, rfl, rfl, ?_⟩
        have hm := hr22 _ hm
        have hm := hWW7 _ hm
        exact hW _ hm _ _ hS.st
      · skip
        have hm := Good.ifF e32 hm
        have hm := hn20 _ hm
        exact ⟨_, (some (.int column_8)), (some (.str here_26)), (some (.str there_29)), rfl, hS.pick [0] (by decide) rfl, sm6, hm⟩
    · intro sg41 H42 Z43 hp44
      obtain ⟨w_column, w_here, w_there, rfl, hS, sm6, hm⟩ := hp44
      have hm := hWW7 _ hm
      refine ⟨trivial, ?_⟩
      exact hW _ hm _ _ hS.st
theorem ok_comes_ahead {f : Addr} {fd : FuncData} (F : Fun K "comes_ahead" "comes_ahead" (topS 30) f fd) (gm : mg "comes_ahead" = some (.ref f)) (T : Txt K mg ca cb) (C_rank_of : Cal P w K mg base CX0 "rank_of" 1 ["sign"] (sp_rank_of K ca)) : Cal P w K mg base CX0 "comes_ahead" 2 ["card", "other", "columns"] (sp_comes_ahead K ca) :=
  ⟨⟨f, fd, okf_comes_ahead F T C_rank_of, gm, F.kp, F.binds (ps := ["card", "other", "columns"]) fun _ _ _ _ _ _ us hl => match us, hl with | [_, _, _], _ => rfl⟩⟩
theorem sc_out_at : FnScope ["deck", "columns", "place"] ["deck", "columns"] (defScope (topS 31)) := ⟨rfl, rfl, rfl, by decide +kernel, rfl, by decide +kernel, by decide +kernel⟩
theorem okf_out_at {f : Addr} {fd : FuncData} (F : Fun K "out_at" "out_at" (topS 31) f fd) (T : Txt K mg ca cb) (C_comes_ahead : Cal P w K mg base CX0 "comes_ahead" 2 ["card", "other", "columns"] (sp_comes_ahead K ca)) : FnOk P w K mg base CX0 3 f fd ["deck", "columns"] (sp_out_at K ca) := by
  refine F.ok sc_out_at (fun vs H0 Q E h => ?_) (fun cdv A outer s H0 vs Q E hr h => ?_)
  · obtain ⟨Z0, a_deck, v_deck, a_columns, v_columns, rfl, _⟩ := h
    rfl
  · obtain ⟨Z0, a_deck, v_deck, a_columns, v_columns, rfl, zh, h_deck, h_columns, hm⟩ := h
    have nd := sc_out_at.nd
    have hm_ := hm.opn; clear hm; obtain ⟨W, WE, hm, hW, hWE⟩ := hm_
    have hS := Sep.start (K := K) zh
    have hS := hS.tel h_deck
    have hS := hS.tel h_columns
    unfold m_out_at at hm
    refine ⟨_, (pss_cons (ps_for PassesOwn.never rfl (pi_range2 rfl T.b_range (pa_cons (pcK pe_int) (pa_cons (pe_callB (call_lenK (K := K) rfl) (by rfl) T.b_len PySem.boot_len (pa_cons (pv 0) pnK)) pnK))) (pg_name (i := 2) nd rfl (Or.inl rfl)) (pss_one (ps_if (ptK (pt_val (pe_cal C_comes_ahead (hr.mono (by decide)) pass0 (pa_cons (pe_ix (ix_listK (K := K) rfl) (pv 0) (pv 2) (fun _ _ => rfl)) (pa_cons (pe_ix (ix_listK (K := K) rfl) (pv 0) (pe_op op_sub (pv 2) (pcK pe_int)) (fun _ _ => rfl)) (pa_cons (pv 1) pnK)))))) (pss_one (ps_ret (pv 2))) pss_nil))) (pss_one (ps_ret (pcK pe_non)))), ?_⟩
    obtain ⟨g1, hm⟩ := Good.chk hm
    obtain ⟨W3, hm, hWW3⟩ := Good.bndW hm
    refine ⟨trivial, ⟨_, rfl, ⟨trivial, (k_lenQ hS.zh (hS.fact 1 rfl) ⟨trivial, ⟨_, _, rfl, ⟨g1.1, g1.2.1, g1.2.2.1, g1.2.2.2⟩, (forK (Z := Z0) (L := (rangeL (1 : Int) (((a_deck).length : Int) - (1 : Int)).toNat)) (src_range _ _) (fun rr σr Hr Zr => (∃ (w_place : Option V), σr = [some v_deck, some v_columns, w_place] ∧ Sep K Z0 H0 Zr Hr [⟨(Sh.told (α := (List Str))), v_deck, a_deck⟩, ⟨(Sh.told (α := (List Int))), v_columns, a_columns⟩] ∧ Same Z0 Zr ∧ (Good (forL (fun (s_ : Unit) (q_ : Int) => m_out_at_b0 a_deck a_columns q_) () rr) W3 WE))) ?_ ?_ ?_ ?_)⟩⟩)⟩⟩⟩
    · rintro rr σr Hr Zr hk
      obtain ⟨w_place, rfl, hS, sm2, hm⟩ := hk
      exact ⟨sm2, hS.zh⟩
    · exact ⟨Z0, (none), rfl, hS.pick [1, 0] (by decide) rfl, Same.refl _, hm⟩
    · skip
      intro place_4 r5 x6 sg7 H8 H9 Z10 mem11 dec12 hp13 y14
      obtain ⟨w_place, rfl, hS, sm2, hm⟩ := hp13
      obtain ⟨W15, hm, hn16, hb17, hr18⟩ := Good.forL hm
      have hm : Good (m_out_at_b0 a_deck a_columns place_4) _ _ := hm; unfold m_out_at_b0 at hm
      obtain ⟨rfl, rfl⟩ := y14
      refine (tgt1 ?_)
      obtain ⟨g21, hm⟩ := Good.chk hm
      obtain ⟨g22, hm⟩ := Good.chk hm
      refine ⟨trivial, ⟨_, rfl, ⟨_, rfl, (k_ixLs hS.zh (hS.fact 0 rfl) g21 ⟨_, rfl, ⟨_, rfl, ⟨trivial, ⟨_, _, rfl, rfl, (k_ixLs hS.zh (hS.fact 0 rfl) g22 ⟨_, rfl, ⟨trivial, ⟨_, _, _, _, _, rfl, hS.zh, (hS.fact 1 rfl), (Good.bnd hm).imp (fun r23 hm => fun Z24 H25 st26 => ?_) hWE⟩⟩⟩)⟩⟩⟩⟩)⟩⟩⟩
      have sm2 := sm2.trans st26.zz
      have hS := hS.step st26
      refine ⟨_, rfl, (ite2 (fun e27 => ?_) (fun e28 => ?_))⟩
      · skip
        have hm := Good.ifT e27 hm
        refine ⟨_, rfl, ?_⟩
        have hm := hr18 _ hm
        have hm := hWW3 _ hm
        exact hW _ hm _ _ _ hS.st rfl
      · skip
        have hm := Good.ifF e28 hm
        have hm := hn16 _ hm
        exact ⟨_, (some (.int place_4)), rfl, hS.pick [0, 1] (by decide) rfl, sm2, hm⟩
    · intro sg29 H30 Z31 hp32
      obtain ⟨w_place, rfl, hS, sm2, hm⟩ := hp32
      have hm := hWW3 _ hm
      refine ⟨trivial, ?_⟩
      exact hW _ hm _ _ _ hS.st rfl
theorem ok_out_at {f : Addr} {fd : FuncData} (F : Fun K "out_at" "out_at" (topS 31) f fd) (gm : mg "out_at" = some (.ref f)) (T : Txt K mg ca cb) (C_comes_ahead : Cal P w K mg base CX0 "comes_ahead" 2 ["card", "other", "columns"] (sp_comes_ahead K ca)) : Cal P w K mg base CX0 "out_at" 3 ["deck", "columns"] (sp_out_at K ca) :=
  ⟨⟨f, fd, okf_out_at F T C_comes_ahead, gm, F.kp, F.binds (ps := ["deck", "columns"]) fun _ _ _ _ _ _ us hl => match us, hl with | [_, _], _ => rfl⟩⟩
theorem sc_gather : FnScope ["some", "deck", "pocket"] ["some"] (defScope (topS 35)) := ⟨rfl, rfl, rfl, by decide +kernel, rfl, by decide +kernel, by decide +kernel⟩
theorem okf_gather {f : Addr} {fd : FuncData} (F : Fun K "gather" "gather" (topS 35) f fd) (T : Txt K mg ca cb) : FnOk P w K mg base CX0 1 f fd ["some"] (sp_gather K ca) := by
  refine F.ok sc_gather (fun vs H0 Q E h => ?_) (fun cdv A outer s H0 vs Q E hr h => ?_)
  · obtain ⟨Z0, a_some, v_some, rfl, _⟩ := h
    rfl
  · obtain ⟨Z0, a_some, v_some, rfl, zh, h_some, hm⟩ := h
    have nd := sc_gather.nd
    have hm_ := hm.opn; clear hm; obtain ⟨W, WE, hm, hW, hWE⟩ := hm_
    have hS := Sep.start (K := K) zh
    have hS := hS.tel h_some
    unfold m_gather at hm
    refine ⟨_, (pss_cons (ps_set (i := 1) nd rfl (Or.inl rfl) (pe_lstQ pnK)) (pss_cons (ps_for PassesOwn.never rfl (pi_list (pv 0)) (pg_name (i := 2) nd rfl (Or.inl rfl)) (pss_one (ps_expr (pe_bm PySem.F.plainAttrs_list PySem.F.slot_list_extend PySem.F.type_list_extend mt_extend (pv 1) (pa_cons (pv 2) pnK))))) (pss_one (ps_ret (pv 1))))), ?_⟩
    refine ⟨trivial, (k_lst (K := K) (m := ([] : (List Str))) hS.zh .nil (Nat.le_of_ble_eq_true rfl) (New.gen fun deck_1 en2 => New.ownS fun p6 ps7 Z3 H4 st5 o8 => ?_))⟩
    have hS := hS.own st5 o8
    refine (tgt1 ?_)
    have hm := Good.vl en2 hm
    obtain ⟨a9, xs10, ev11, hz12, pr13⟩ := pyL (hS.fact 1 rfl)
    obtain ⟨W17, hm, hWW17⟩ := Good.bndW hm
    refine ⟨_, rfl, ⟨_, ev11, ⟨_, SqL.of (hS.zh _ _ hz12)⟩, (forK (Z := Z3) (L := a_some) (src_list hz12 pr13) (fun rr σr Hr Zr => (∃ (deck_14 : (List Str)) (v15 : V) (w_pocket : Option V), σr = [some v_some, some v15, w_pocket] ∧ Sep K Z0 H0 Zr Hr [⟨(Sh.lt Str), v15, deck_14⟩, ⟨(Sh.told (α := (List (List Str)))), v_some, a_some⟩] ∧ Same Z3 Zr ∧ (Good (forR (fun (s_ : (List Str)) (q_ : (List Str)) => m_gather_b0 s_ q_) deck_14 rr) W17 WE))) ?_ ?_ ?_ ?_)⟩⟩
    · rintro rr σr Hr Zr hk
      obtain ⟨deck_14, v15, w_pocket, rfl, hS, sm16, hm⟩ := hk
      obtain ⟨p41, er_⟩ := hS.ref 0 rfl
      subst er_
      exact ⟨sm16, hS.zh⟩
    · exact ⟨Z3, deck_1, ((.ref p6)), (none), rfl, hS.pick [0, 1] (by decide) rfl, Same.refl _, hm⟩
    · skip
      intro pocket_18 r19 x20 sg21 H22 H23 Z24 mem25 dec26 hp27 y28
      obtain ⟨deck_14, v15, w_pocket, rfl, hS, sm16, hm⟩ := hp27
      obtain ⟨p29, er_⟩ := hS.ref 0 rfl
      subst er_
      obtain ⟨W30, hm, hn31⟩ := Good.forR hm
      have hm : Good (m_gather_b0 deck_14 pocket_18) _ _ := hm; unfold m_gather_b0 at hm
      obtain ⟨rfl, h35⟩ := y28
      have h35 := Py.mono sm16 h35
      have hS := hS.tel h35
      refine (tgt1 ?_)
      obtain ⟨g38, hm⟩ := Good.chk hm
      refine ⟨_, rfl, ⟨tyO (hS.L 1 rfl), ⟨_, rfl, ⟨trivial, (k_extend hS.zh (hS.L 1 rfl) (hS.fact 0 rfl) g38 fun u36 o37 => ?_)⟩⟩⟩⟩
      have hS := hS.mutL 1 rfl o37; dsimp only [List.set] at hS
      obtain ⟨deck_39, en40⟩ : ∃ z, z = (deck_14 ++ pocket_18) := ⟨_, rfl⟩
      rw [← en40] at hS
      have hm := Good.vl en40 hm
      have hm := hn31 _ hm
      exact ⟨_, deck_39, ((.ref p29)), (some x20), rfl, hS.pick [1, 2] (by decide) rfl, sm16, hm⟩
    · intro sg42 H43 Z44 hp45
      obtain ⟨deck_14, v15, w_pocket, rfl, hS, sm16, hm⟩ := hp45
      obtain ⟨p46, er_⟩ := hS.ref 0 rfl
      subst er_
      have hm := hWW17 _ hm
      refine ⟨_, rfl, ?_⟩
      obtain ⟨ps_, o_⟩ := hS.nth 0 rfl
      exact hW _ hm _ _ _ _ hS.st o_
theorem ok_gather {f : Addr} {fd : FuncData} (F : Fun K "gather" "gather" (topS 35) f fd) (gm : mg "gather" = some (.ref f)) (T : Txt K mg ca cb) : Cal P w K mg base CX0 "gather" 1 ["some"] (sp_gather K ca) :=
  ⟨⟨f, fd, okf_gather F T, gm, F.kp, F.binds (ps := ["some"]) fun _ _ _ _ _ _ us hl => match us, hl with | [_], _ => rfl⟩⟩
theorem sc_put_back : FnScope ["some", "numbers", "taken", "deck", "number"] ["some", "numbers"] (defScope (topS 36)) := ⟨rfl, rfl, rfl, by decide +kernel, rfl, by decide +kernel, by decide +kernel⟩
theorem okf_put_back {f : Addr} {fd : FuncData} (F : Fun K "put_back" "put_back" (topS 36) f fd) (T : Txt K mg ca cb) : FnOk P w K mg base CX0 1 f fd ["some", "numbers"] (sp_put_back K ca) := by
  refine F.ok sc_put_back (fun vs H0 Q E h => ?_) (fun cdv A outer s H0 vs Q E hr h => ?_)
  · obtain ⟨Z0, a_some, v_some, a_numbers, v_numbers, rfl, _⟩ := h
    rfl
  · obtain ⟨Z0, a_some, v_some, a_numbers, v_numbers, rfl, zh, h_some, h_numbers, hm⟩ := h
    have nd := sc_put_back.nd
    have hm_ := hm.opn; clear hm; obtain ⟨W, WE, hm, hW, hWE⟩ := hm_
    have hS := Sep.start (K := K) zh
    have hS := hS.tel h_some
    have hS := hS.tel h_numbers
    unfold m_put_back at hm
    refine ⟨_, (pss_cons (ps_set (i := 2) nd rfl (Or.inl rfl) (pe_op op_rep (pe_lstQ (pa_cons (pcK pe_int) pnK)) (pe_callB (call_lenK (K := K) rfl) (by rfl) T.b_len PySem.boot_len (pa_cons (pv 0) pnK)))) (pss_cons (ps_set (i := 3) nd rfl (Or.inl rfl) (pe_lstQ pnK)) (pss_cons (ps_for PassesOwn.never rfl (pi_list (pv 1)) (pg_name (i := 4) nd rfl (Or.inl rfl)) (pss_cons (ps_expr (pe_bm PySem.F.plainAttrs_list PySem.F.slot_list_append PySem.F.type_list_append mt_append (pv 3) (pa_cons (pe_ix (ix_listK (K := K) rfl) (pe_ix (ix_listK (K := K) rfl) (pv 0) (pv 4) (fun _ _ => rfl)) (pe_ix (ix_listK (K := K) rfl) (pv 2) (pv 4) (fun _ _ => rfl)) (fun _ _ => rfl)) pnK))) (pss_one (ps_augS (pv 2) (pv 4) (get_listK (K := K) rfl) (pcK pe_int) ip_add set_list)))) (pss_one (ps_ret (pv 3)))))), ?_⟩
    refine ⟨trivial, ⟨trivial, (k_lst (K := K) (m := [(0 : Int)]) hS.zh (.cons rfl .nil) (Nat.le_of_ble_eq_true rfl) (New.tel fun v7 Z4 H5 st6 hv7 => ?_))⟩⟩
    have hS := (hS.step st6).tel (a := [(0 : Int)]) hv7
    obtain ⟨g1, hm⟩ := Good.chk hm
    refine ⟨_, rfl, ⟨trivial, (k_lenQ hS.zh (hS.fact 2 rfl) (k_rep hS.zh (RO.tell hS.zh (hS.fact 0 rfl)) g1.1 g1.2.1 g1.2.2 (New.gen fun taken_2 en3 => New.ownS fun p11 ps12 Z8 H9 st10 o13 => ?_)))⟩⟩
    have hS := hS.own st10 o13
    refine (tgt1 ?_)
    have hm := Good.vl en3 hm
    have hS := hS.drop1
    refine ⟨trivial, (k_lst (K := K) (m := ([] : (List Str))) hS.zh .nil (Nat.le_of_ble_eq_true rfl) (New.gen fun deck_14 en15 => New.ownS fun p19 ps20 Z16 H17 st18 o21 => ?_))⟩
    have hS := hS.own st18 o21
    refine (tgt1 ?_)
    have hm := Good.vl en15 hm
    obtain ⟨a22, xs23, ev24, hz25, pr26⟩ := pyL (hS.fact 2 rfl)
    obtain ⟨W32, hm, hWW32⟩ := Good.bndW hm
    refine ⟨_, rfl, ⟨_, ev24, ⟨_, SqL.of (hS.zh _ _ hz25)⟩, (forK (Z := Z16) (L := a_numbers) (src_list hz25 pr26) (fun rr σr Hr Zr => (∃ (deck_27 : (List Str)) (taken_28 : (List Int)) (v29 : V) (v30 : V) (w_number : Option V), σr = [some v_some, some v_numbers, some v30, some v29, w_number] ∧ Sep K Z0 H0 Zr Hr [⟨(Sh.lt Str), v29, deck_27⟩, ⟨(Sh.lt Int), v30, taken_28⟩, ⟨(Sh.told (α := (List (List Str)))), v_some, a_some⟩, ⟨(Sh.told (α := (List Int))), v_numbers, a_numbers⟩] ∧ Same Z16 Zr ∧ (Good (forR (fun (s_ : (List Str) × (List Int)) (q_ : Int) => m_put_back_b0 a_some s_.1 s_.2 q_) (deck_27, taken_28) rr) W32 WE))) ?_ ?_ ?_ ?_)⟩⟩
    · rintro rr σr Hr Zr hk
      obtain ⟨deck_27, taken_28, v29, v30, w_number, rfl, hS, sm31, hm⟩ := hk
      obtain ⟨p66, er_⟩ := hS.ref 0 rfl
      subst er_
      obtain ⟨p67, er_⟩ := hS.ref 1 rfl
      subst er_
      exact ⟨sm31, hS.zh⟩
    · exact ⟨Z16, deck_14, taken_2, ((.ref p19)), ((.ref p11)), (none), rfl, hS.pick [0, 1, 3, 2] (by decide) rfl, Same.refl _, hm⟩
    · skip
      intro number_33 r34 x35 sg36 H37 H38 Z39 mem40 dec41 hp42 y43
      obtain ⟨deck_27, taken_28, v29, v30, w_number, rfl, hS, sm31, hm⟩ := hp42
      obtain ⟨p44, er_⟩ := hS.ref 0 rfl
      subst er_
      obtain ⟨p45, er_⟩ := hS.ref 1 rfl
      subst er_
      obtain ⟨W46, hm, hn47⟩ := Good.forR hm
      have hm : Good (m_put_back_b0 a_some deck_27 taken_28 number_33) _ _ := hm; unfold m_put_back_b0 at hm
      obtain ⟨rfl, rfl⟩ := y43
      refine (tgt1 ?_)
      obtain ⟨g52, hm⟩ := Good.chk hm
      obtain ⟨g54, hm⟩ := Good.chk hm
      obtain ⟨g55, hm⟩ := Good.chk hm
      obtain ⟨g58, hm⟩ := Good.chk hm
      refine ⟨_, rfl, ⟨tyO (hS.L 0 rfl), ⟨_, rfl, ⟨_, rfl, (k_ixL hS.zh (hS.fact 2 rfl) g52 (fun y53 hy53 => ⟨_, rfl, ⟨_, rfl, (k_ixOs (hS.L 1 rfl) g54 (k_ixLs hS.zh hy53 g55 ⟨trivial, (k_append (a := (getI (getI a_some number_33) (getI taken_28 number_33))) (hS.L 0 rfl) rfl g58 fun u56 o57 => ?_)⟩))⟩⟩))⟩⟩⟩⟩
      have hS := hS.mutL 0 rfl o57; dsimp only [List.set] at hS
      obtain ⟨deck_59, en60⟩ : ∃ z, z = (deck_27 ++ [(getI (getI a_some number_33) (getI taken_28 number_33))]) := ⟨_, rfl⟩
      rw [← en60] at hS
      have hm := Good.vl en60 hm
      obtain ⟨g61, hm⟩ := Good.chk hm
      refine ⟨_, rfl, ⟨_, rfl, (k_getO (hS.L 1 rfl) g61.1 g61.2.1 g61.2.2 ⟨trivial, ⟨_, _, rfl, rfl, (k_setL (hS.L 1 rfl) rfl ⟨by omega, by omega⟩ (fun u62 o63 => ?_))⟩⟩)⟩⟩
      have hS := hS.mutL 1 rfl o63; dsimp only [List.set] at hS
      obtain ⟨taken_64, en65⟩ : ∃ z, z = (setI taken_28 number_33 (getI taken_28 number_33 + (1 : Int))) := ⟨_, rfl⟩
      rw [← en65] at hS
      have hm := Good.vl en65 hm
      have hm := hn47 _ hm
      exact ⟨_, deck_59, taken_64, ((.ref p44)), ((.ref p45)), (some (.int number_33)), rfl, hS.pick [0, 1, 2, 3] (by decide) rfl, sm31, hm⟩
    · intro sg68 H69 Z70 hp71
      obtain ⟨deck_27, taken_28, v29, v30, w_number, rfl, hS, sm31, hm⟩ := hp71
      obtain ⟨p72, er_⟩ := hS.ref 0 rfl
      subst er_
      obtain ⟨p73, er_⟩ := hS.ref 1 rfl
      subst er_
      have hm := hWW32 _ hm
      have hm : Good (m_put_back_k0 deck_27 taken_28) _ _ := hm; unfold m_put_back_k0 at hm
      refine ⟨_, rfl, ?_⟩
      obtain ⟨ps_, o_⟩ := hS.nth 0 rfl
      exact hW _ hm _ _ _ _ hS.st o_
theorem ok_put_back {f : Addr} {fd : FuncData} (F : Fun K "put_back" "put_back" (topS 36) f fd) (gm : mg "put_back" = some (.ref f)) (T : Txt K mg ca cb) : Cal P w K mg base CX0 "put_back" 1 ["some", "numbers"] (sp_put_back K ca) :=
  ⟨⟨f, fd, okf_put_back F T, gm, F.kp, F.binds (ps := ["some", "numbers"]) fun _ _ _ _ _ _ us hl => match us, hl with | [_, _], _ => rfl⟩⟩
theorem sc_Mater_Machine___init__ : FnScope ["self", "many", "k"] ["self", "many"] (defScope (inClass (topS 38) 0)) := ⟨rfl, rfl, rfl, by decide +kernel, rfl, by decide +kernel, by decide +kernel⟩
theorem okf_Mater_Machine___init__ {f : Addr} {fd : FuncData} (F : FunD K "__init__" "Machine.__init__" (defArgs (inClass (topS 38) 0)) (defBody (inClass (topS 38) 0)) (defScope (inClass (topS 38) 0)) [V.int 1] [] f fd) (T : Txt K mg ca cb) : FnOk P w K mg base CX0 1 f fd ["self", "many"] (sp_Mater_Machine___init__ K ca) := by
  refine F.ok sc_Mater_Machine___init__ (fun vs H0 Q E h => ?_) (fun cdv A outer s H0 vs Q E hr h => ?_)
  · obtain ⟨Z0, p_self, dx_self, a_many, rfl, _⟩ := h
    rfl
  · obtain ⟨Z0, p_self, dx_self, a_many, rfl, zh, hat_self, hdx_self, hm⟩ := h
    have nd := sc_Mater_Machine___init__.nd
    have hm_ := hm.opn; clear hm; obtain ⟨W, WE, hm, hW, hWE⟩ := hm_
    obtain ⟨C_, nk_, hat_self⟩ := hat_self
    have hS := Sep.newH zh nk_ hat_self hdx_self
    unfold m_Mater_Machine___init__ at hm
    refine ⟨_, (pss_cons (ps_fldK (K := K) rfl (pv 0) (pe_lcQ (own := [("k", 2)]) (g := (gName 2)) rfl nd (pi_range1 rfl T.b_range (pa_cons (pv 1) pnK)) (blkOk_by (N := ["self", "many", "k"]) (sc := defScope (inClass (topS 38) 0)) (own := [("k", 2)]) (by decide +kernel)) (by intro _ _ _ _ _; exact pg_name (i := 2) nd rfl (Or.inl rfl)) (by intro _ _ _ _ _; exact pts_nil) (by intro _ _ _ _ _; exact (pe_lstQ pnK))) rfl) (pss_one (ps_fldK (K := K) rfl (pv 0) (pe_lstQ pnK) rfl))), ?_⟩
    obtain ⟨g3, hm⟩ := Good.chk hm
    obtain ⟨g7, hm⟩ := Good.chk hm
    obtain ⟨W22, hmc, hWW22⟩ := Good.bndW hm
    refine ⟨_, rfl, ⟨trivial, ⟨_, rfl, And.left g3, And.right g3, (lcMO (K := K) (S := (Sh.lt Str)) (src_range _ _) hS.zh _ g7 (hmc.imp (fun _ h_ => h_) hWE) (fun k_4 x9 Z10 H11 H12 C13 N14 Wo20 mem15 st16 y17 hm21 kC18 kN19 => ?_) (fun r8 wW22 => (fun v23 ps24 Z25 H26 st27 o28 => ?_)))⟩⟩⟩
    · skip
      have hS := hS.step st16
      have sx_ := Step.refl hS.zh
      have hm := hm21
      have hWE : ∀ e_, NoE e_ → False := fun _ h => h
      obtain ⟨rfl, rfl⟩ := y17
      refine (tgt1 ?_)
      refine ⟨rfl, (yesK ⟨trivial, (k_lst (K := K) (m := ([] : (List Str))) hS.zh .nil (Nat.le_of_ble_eq_true rfl) (New.ownS fun pv29 ps30 Z31 H32 st33 o34 => ?_))⟩)⟩
      have hw_ := hm
      exact kC18 _ hw_ _ _ _ _ _ _ sx_ st33 o34
    have hm := hWW22 _ wW22
    have hS := hS.own st27 o28
    obtain ⟨p35, er_⟩ := hS.ref 0 rfl
    subst er_
    obtain ⟨self_pockets_1, en2⟩ : ∃ z, z = r8 := ⟨_, rfl⟩
    have hS := hS.nam 0 rfl en2; dsimp only [List.set] at hS
    have hm := Good.vl en2 hm
    refine ⟨_, rfl, (hS.put (v := (.ref p35)) (ns' := ["pockets"]) (vs' := [(.ref p35)]) 1 rfl T.nk_Mater_Machine T.cl_Mater_Machine T.na_Mater_Machine_pockets (Nat.le_of_ble_eq_true rfl) (rfl) rfl fun H_ hS => ?_)⟩
    dsimp only [List.set] at hS
    refine ⟨trivial, (k_lst (K := K) (m := ([] : (List Int))) hS.zh .nil (Nat.le_of_ble_eq_true rfl) (New.ownS fun p41 ps42 Z38 H39 st40 o43 => ?_))⟩
    have hS := hS.own st40 o43
    obtain ⟨self_log_36, en37⟩ : ∃ z, z = ([] : (List Int)) := ⟨_, rfl⟩
    have hS := hS.nam 0 rfl en37; dsimp only [List.set] at hS
    have hm := Good.vl en37 hm
    refine ⟨_, rfl, (hS.put (v := (.ref p41)) (ns' := ["pockets", "log"]) (vs' := [(.ref p35), (.ref p41)]) 2 rfl T.nk_Mater_Machine T.cl_Mater_Machine T.na_Mater_Machine_log (Nat.le_of_ble_eq_true rfl) (rfl) rfl fun H_ hS => ?_)⟩
    dsimp only [List.set] at hS
    have hS : (Sep K Z0 (delL H0 [p_self, dx_self]) _ _ [⟨(Sh.lt Int), (.ref p41), self_log_36⟩, ⟨(Sh.lst (ShL.all (Sh.lt Str))), (.ref p35), self_pockets_1⟩, ⟨(Sh.husk "Mater" ["pockets", "log"]), (.ref p_self), [(.ref p35), (.ref p41)]⟩]) := hS.pick [0, 1, 2] (by decide) rfl
    have hS := hS.mknil
    have hS := hS.mkr
    have hS := hS.mkr
    have hS : (Sep K Z0 (delL H0 [p_self, dx_self]) _ _ [⟨sh_Mater_Machine, (.ref p_self), (⟨self_pockets_1, self_log_36⟩ : Mater_Machine)⟩]) := Sep.clsO (f := Mater_Machine.row) rfl hS
    obtain ⟨ps_, o_⟩ := hS.nth 0 rfl; exact hW _ hm _ _ _ hS.st o_
theorem ok_Mater_Machine___init__ {f : Addr} {fd : FuncData} (F : FunD K "__init__" "Machine.__init__" (defArgs (inClass (topS 38) 0)) (defBody (inClass (topS 38) 0)) (defScope (inClass (topS 38) 0)) [V.int 1] [] f fd) (hi : PySem.W.findCls K (.ref cb.Machine) (.type "type") "__init__" = some (.val (.ref f))) (T : Txt K mg ca cb) : BinX P w K mg base CX0 1 "Machine" cb.Machine ["self", "many"] [] (sp_Mater_Machine___init__ K ca) :=
  ⟨⟨f, fd, T.rb_Machine, hi, F.kp, okf_Mater_Machine___init__ F T, by exact FunD.binds1 (ps := ["self", "many"]) F 2 1 (by decide) rfl (fun _ _ _ _ _ _ _ us its h1 h2 => match us, its, h1, h2 with | [_, _], [_], _, _ => ⟨_, rfl, rfl⟩), T.gb_Machine⟩⟩
theorem sc_Mater_Rower___init__ : FnScope ["self", "field"] ["self", "field"] (defScope (inClass (topS 41) 0)) := ⟨rfl, rfl, rfl, by decide +kernel, rfl, by decide +kernel, by decide +kernel⟩
theorem okf_Mater_Rower___init__ {f : Addr} {fd : FuncData} (F : Fun K "__init__" "Rower.__init__" (inClass (topS 41) 0) f fd) (T : Txt K mg ca cb) (C_Mater_Machine___init__ : BinX P w K mg base CX0 1 "Machine" cb.Machine ["self", "many"] [] (sp_Mater_Machine___init__ K ca)) : FnOk P w K mg base CX0 3 f fd ["self", "field"] (sp_Mater_Rower___init__ K ca) := by
  refine F.ok sc_Mater_Rower___init__ (fun vs H0 Q E h => ?_) (fun cdv A outer s H0 vs Q E hr h => ?_)
  · obtain ⟨Z0, p_self, dx_self, a_field, v_field, rfl, _⟩ := h
    rfl
  · obtain ⟨Z0, p_self, dx_self, a_field, v_field, rfl, zh, hat_self, hdx_self, h_field, hm⟩ := h
    have nd := sc_Mater_Rower___init__.nd
    have hm_ := hm.opn; clear hm; obtain ⟨W, WE, hm, hW, hWE⟩ := hm_
    obtain ⟨C_, nk_, hat_self⟩ := hat_self
    have hS := Sep.newH zh nk_ hat_self hdx_self
    have hS := hS.tel h_field
    unfold m_Mater_Rower___init__ at hm
    refine ⟨_, (pss_cons (ps_expr (pe_binit C_Mater_Machine___init__ (hr.mono (by decide)) pass0 (pa_cons (pv 0) (pa_cons (pcK pe_int) pnK)))) (pss_cons (ps_fldK (K := K) rfl (pv 0) (pv 1) rfl) (pss_one (ps_fldK (K := K) rfl (pv 0) (pcK pe_non) rfl)))), ?_⟩
    refine ⟨_, rfl, ⟨trivial, ⟨trivial, ?_⟩⟩⟩
    obtain ⟨ps1, h2, lg3⟩ := hS.lend 1 rfl
    obtain ⟨dx4, e5, h6, h7⟩ := husk0 h2.1; subst e5
    refine ⟨_, _, _, _, rfl, same_del hS.zh h2.2.2, h6, h7, (Good.bnd hm).imp (fun r8 hm Z9 H10 ps11 st12 o13 => ?_) hWE⟩
    have hS := lg3 (b := r8) st12 o13; dsimp only [List.set] at hS
    have hS : (Sep K Z0 (delL H0 [p_self, dx_self]) _ _ [⟨sh_Mater_Machine, (.ref p_self), r8⟩, ⟨(Sh.told (α := (Int × Int))), v_field, a_field⟩]) := hS.pick [1, 0] (by decide) rfl
    have hT_ := hS; clear hS; obtain ⟨p_, vs_, ev_, hl_, hS⟩ := Sep.opnO hT_; clear hT_
    have hq_ := V.ref.inj ev_; subst hq_
    obtain ⟨v15, w14, rfl, hS⟩ := hS.unr
    obtain ⟨v17, w16, rfl, hS⟩ := hS.unr
    obtain ⟨rfl, hS⟩ := hS.nilrow
    have hS : (Sep K Z0 (delL H0 [p_self, dx_self]) _ _ [⟨(Sh.lt Int), v17, (r8).log⟩, ⟨(Sh.lst (ShL.all (Sh.lt Str))), v15, (r8).pockets⟩, ⟨(Sh.husk "Mater" ["pockets", "log"]), (.ref p_self), [v15, v17]⟩, ⟨(Sh.told (α := (Int × Int))), v_field, a_field⟩]) := hS
    obtain ⟨p18, er_⟩ := hS.ref 0 rfl
    subst er_
    obtain ⟨p19, er_⟩ := hS.ref 1 rfl
    subst er_
    obtain ⟨self_field_20, en21⟩ : ∃ z, z = a_field := ⟨_, rfl⟩
    have hS := hS.tel (v := v_field) (a := self_field_20) (by rw [en21]; exact (hS.fact 3 rfl))
    have hm := Good.vl en21 hm
    refine ⟨_, rfl, ⟨_, rfl, (hS.put (v := v_field) (ns' := ["pockets", "log", "field"]) (vs' := [(.ref p19), (.ref p18), v_field]) 3 rfl T.nk_Mater_Rower T.cl_Mater_Rower T.na_Mater_Rower_field (Nat.le_of_ble_eq_true rfl) (rfl) rfl fun H_ hS => ?_)⟩⟩
    dsimp only [List.set] at hS
    obtain ⟨self_fed_last_22, en23⟩ : ∃ z, z = (none : Option Str) := ⟨_, rfl⟩
    have hS := hS.tel (v := (.non)) (a := self_fed_last_22) (by rw [en23]; exact rfl)
    have hm := Good.vl en23 hm
    refine ⟨trivial, ⟨_, rfl, (hS.put (v := (.non)) (ns' := ["pockets", "log", "field", "fed_last"]) (vs' := [(.ref p19), (.ref p18), v_field, .non]) 4 rfl T.nk_Mater_Rower T.cl_Mater_Rower T.na_Mater_Rower_fed_last (Nat.le_of_ble_eq_true rfl) (rfl) rfl fun H_ hS => ?_)⟩⟩
    dsimp only [List.set] at hS
    have hS : (Sep K Z0 (delL H0 [p_self, dx_self]) _ _ [⟨(Sh.told (α := (Option Str))), .non, self_fed_last_22⟩, ⟨(Sh.told (α := (Int × Int))), v_field, self_field_20⟩, ⟨(Sh.lt Int), (.ref p18), (r8).log⟩, ⟨(Sh.lst (ShL.all (Sh.lt Str))), (.ref p19), (r8).pockets⟩, ⟨(Sh.husk "Mater" ["pockets", "log", "field", "fed_last"]), (.ref p_self), [(.ref p19), (.ref p18), v_field, .non]⟩, ⟨(Sh.told (α := (Int × Int))), v_field, a_field⟩]) := hS.pick [0, 1, 2, 3, 4, 5] (by decide) rfl
    have hS := hS.mknil
    have hS := hS.mkr
    have hS := hS.mkr
    have hS := hS.mkr
    have hS := hS.mkr
    have hS : (Sep K Z0 (delL H0 [p_self, dx_self]) _ _ [⟨sh_Mater_Rower, (.ref p_self), (⟨(r8).pockets, (r8).log, self_field_20, self_fed_last_22⟩ : Mater_Rower)⟩, ⟨(Sh.told (α := (Int × Int))), v_field, a_field⟩]) := Sep.clsO (f := Mater_Rower.row) rfl hS
    obtain ⟨ps_, o_⟩ := hS.nth 0 rfl; exact hW _ hm _ _ _ hS.st o_
theorem ok_Mater_Rower___init__ {f : Addr} {fd : FuncData} (F : Fun K "__init__" "Rower.__init__" (inClass (topS 41) 0) f fd) (hi : PySem.W.findCls K (.ref cb.Rower) (.type "type") "__init__" = some (.val (.ref f))) (T : Txt K mg ca cb) (C_Mater_Machine___init__ : BinX P w K mg base CX0 1 "Machine" cb.Machine ["self", "many"] [] (sp_Mater_Machine___init__ K ca)) : BinX P w K mg base CX0 3 "Rower" cb.Rower ["self", "field"] [] (sp_Mater_Rower___init__ K ca) :=
  ⟨⟨f, fd, T.rb_Rower, hi, F.kp, okf_Mater_Rower___init__ F T C_Mater_Machine___init__, ⟨[], .nil, F.binds (ps := ["self", "field"]) fun _ _ _ _ _ _ us hl => match us, hl with | [_, _], _ => rfl⟩, T.gb_Rower⟩⟩
theorem sc_Mater___init__ : FnScope ["self", "field", "other", "other_field", "word", "place", "card"] ["self", "field", "other", "other_field", "word"] (defScope (inClass (topS 42) 0)) := ⟨rfl, rfl, rfl, by decide +kernel, rfl, by decide +kernel, by decide +kernel⟩
theorem okf_Mater___init__ {f : Addr} {fd : FuncData} (F : Fun K "__init__" "Mater.__init__" (inClass (topS 42) 0) f fd) (T : Txt K mg ca cb) (C_NoOrder___init__ : MkE P w K mg base 1 "NoOrder" ca.NoOrder ["self", "deck", "place"] (sp_NoOrder K)) (C_columns_of : Cal P w K mg base CX0 "columns_of" 1 ["field"] (sp_columns_of K ca)) (C_part_of : Cal P w K mg base CX0 "part_of" 1 ["card", "field"] (sp_part_of K ca)) (C_out_at : Cal P w K mg base CX0 "out_at" 3 ["deck", "columns"] (sp_out_at K ca)) (C_Mater_Rower___init__ : BinX P w K mg base CX0 3 "Rower" cb.Rower ["self", "field"] [] (sp_Mater_Rower___init__ K ca)) : FnOk P w K mg base (L2N.CX P w) 5 f fd ["self", "field", "other", "other_field", "word"] (sp_Mater___init__ K ca) := by
  refine F.okXC sc_Mater___init__ (fun vs H0 Q E h => ?_) (fun cdv A outer s H0 vs Q E hr h => ?_)
  · obtain ⟨Z0, p_self, dx_self, a_field, v_field, a_other, v_other, a_other_field, v_other_field, a_word, rfl, _⟩ := h
    rfl
  · obtain ⟨Z0, p_self, dx_self, a_field, v_field, a_other, v_other, a_other_field, v_other_field, a_word, rfl, zh, hat_self, hdx_self, h_field, h_other, h_other_field, hm⟩ := h
    have nd := sc_Mater___init__.nd
    have hm_ := hm.opn; clear hm; obtain ⟨W, WE, hm, hW, hWE⟩ := hm_
    obtain ⟨C_, nk_, hat_self⟩ := hat_self
    have hS := Sep.newH zh nk_ hat_self hdx_self
    have hS := hS.tel h_field
    have hS := hS.tel h_other
    have hS := hS.tel h_other_field
    unfold m_Mater___init__ at hm
    refine ⟨_, (pss_cons (ps_expr (pe_binit C_Mater_Rower___init__ (hr.mono (by decide)) pass0 (pa_cons (pv 0) (pa_cons (pv 1) pnK)))) (pss_cons (ps_if (pt_cmpR op_ne (pe_op op_sub (pe_ix (ix_tupK (K := K) rfl) (pv 1) (pcK pe_int) (fun _ _ => rfl)) (pe_ix (ix_tupK (K := K) rfl) (pv 1) (pcK pe_int) (fun _ _ => rfl))) (pe_op op_sub (pe_ix (ix_tupK (K := K) rfl) (pv 3) (pcK pe_int) (fun _ _ => rfl)) (pe_ix (ix_tupK (K := K) rfl) (pv 3) (pcK pe_int) (fun _ _ => rfl))) (nomark _)) (pss_one (L2N.ps_raise rfl (L2N.takes_of rfl rfl rfl rfl) (L2N.pmk_own PySem.F.excBase_ValueError T.ex_NoField T.gx_NoField T.kx_NoField (raises_own T.su_NoField T.ty_NoField) rfl))) pss_nil) (pss_cons (ps_set (i := 5) nd rfl (Or.inl rfl) (pe_cal C_out_at (hr.mono (by decide)) pass0 (pa_cons (pv 2) (pa_cons (pe_cal C_columns_of (hr.mono (by decide)) pass0 (pa_cons (pv 3) pnK)) pnK)))) (pss_cons (ps_if (pt_cmpR op_notNQ (pv 5) (pcK pe_non) (nomark _)) (pss_one (L2N.ps_raise rfl (L2N.takes_of rfl rfl rfl rfl) (pmk_EC C_NoOrder___init__ (hr.mono (by decide)) (pa_cons (pcK pe_int) (pa_cons (pv 5) pnK))))) pss_nil) (pss_cons (ps_fldK (K := K) rfl (pv 0) (puK pe_dnewQ) rfl) (pss_cons (ps_for (passes_of rfl) rfl (pi_list (pv 2)) (pg_name (i := 6) nd rfl (Or.inl rfl)) (pss_one (ps_dputQ (hu_of hr) (pe_fldK (K := K) rfl (pv 0) rfl) (pe_cal C_part_of (hr.mono (by decide)) pass0 (pa_cons (pv 6) (pa_cons (pv 3) pnK))) (pcK pe_bl) rfl))) (pss_one (ps_fldK (K := K) rfl (pv 0) (pv 4) rfl)))))))), ?_⟩
    refine ⟨_, rfl, ⟨_, rfl, ⟨trivial, ?_⟩⟩⟩
    obtain ⟨ps1, h2, lg3⟩ := hS.lend 3 rfl
    obtain ⟨dx4, e5, h6, h7⟩ := husk0 h2.1; subst e5
    refine ⟨_, _, _, _, _, rfl, same_del hS.zh h2.2.2, h6, h7, (hS.fact 2 rfl), (Good.nx (Good.bnd hm)).imp (fun r8 hm Z9 H10 ps11 st12 o13 => ?_) (fun _ h_ => h_)⟩
    have hS := lg3 (b := r8) st12 o13; dsimp only [List.set] at hS
    have hS : (Sep K Z0 (delL H0 [p_self, dx_self]) _ _ [⟨sh_Mater_Rower, (.ref p_self), r8⟩, ⟨(Sh.told (α := (Int × Int))), v_other_field, a_other_field⟩, ⟨(Sh.told (α := (List Str))), v_other, a_other⟩, ⟨(Sh.told (α := (Int × Int))), v_field, a_field⟩]) := hS.pick [3, 0, 1, 2] (by decide) rfl
    have hT_ := hS; clear hS; obtain ⟨p_, vs_, ev_, hl_, hS⟩ := Sep.opnO hT_; clear hT_
    have hq_ := V.ref.inj ev_; subst hq_
    obtain ⟨v15, w14, rfl, hS⟩ := hS.unr
    obtain ⟨v17, w16, rfl, hS⟩ := hS.unr
    obtain ⟨v19, w18, rfl, hS⟩ := hS.unr
    obtain ⟨v21, w20, rfl, hS⟩ := hS.unr
    obtain ⟨rfl, hS⟩ := hS.nilrow
    have hS : (Sep K Z0 (delL H0 [p_self, dx_self]) _ _ [⟨(Sh.told (α := (Option Str))), v21, (r8).fed_last⟩, ⟨(Sh.told (α := (Int × Int))), v19, (r8).field⟩, ⟨(Sh.lt Int), v17, (r8).log⟩, ⟨(Sh.lst (ShL.all (Sh.lt Str))), v15, (r8).pockets⟩, ⟨(Sh.husk "Mater" ["pockets", "log", "field", "fed_last"]), (.ref p_self), [v15, v17, v19, v21]⟩, ⟨(Sh.told (α := (Int × Int))), v_other_field, a_other_field⟩, ⟨(Sh.told (α := (List Str))), v_other, a_other⟩, ⟨(Sh.told (α := (Int × Int))), v_field, a_field⟩]) := hS
    obtain ⟨p22, er_⟩ := hS.ref 2 rfl
    subst er_
    obtain ⟨p23, er_⟩ := hS.ref 3 rfl
    subst er_
    refine ⟨_, rfl, ⟨trivial, (k_sndS hS.zh (hS.fact 7 rfl) ⟨_, rfl, ⟨trivial, (k_fstS hS.zh (hS.fact 7 rfl) ⟨_, _, rfl, rfl, ⟨_, rfl, ⟨trivial, (k_sndS hS.zh (hS.fact 5 rfl) ⟨_, rfl, ⟨trivial, (k_fstS hS.zh (hS.fact 5 rfl) ⟨_, _, rfl, rfl, (k_neI ⟨_, rfl, (ite2 (fun e24 => ?_) (fun e25 => ?_))⟩)⟩)⟩⟩)⟩⟩⟩)⟩⟩)⟩⟩
    · skip
      have hm := Good.ifT e24 hm
      exact hWE _ hm _ _ _ _ hS.st ⟨rfl, rfl⟩
    · skip
      have hm := Good.ifF e25 hm
      refine ⟨_, rfl, ⟨_, rfl, ⟨trivial, ⟨_, _, _, rfl, hS.zh, (hS.fact 5 rfl), (Good.nx (Good.bnd hm)).imp (fun r26 hm => NewO.tel hS.zh (fun v31 Z28 H29 st30 hv31 => ?_)) (fun _ h_ => h_)⟩⟩⟩⟩
      have hS := (hS.step st30).tel (a := r26) hv31
      refine ⟨trivial, ⟨_, _, _, _, _, rfl, hS.zh, (hS.fact 7 rfl), (hS.fact 0 rfl), (Good.nx (Good.bnd hm)).imp (fun r27 hm => fun v37 Z34 H35 st36 hv37 => ?_) (fun _ h_ => h_)⟩⟩
      have hS := (hS.step st36).tel (a := r27) hv37
      refine (tgt1 ?_)
      have hS := hS.drop1
      rcases eplace_38 : r27 with _ | place_38
      · have hm := Good.oN eplace_38 hm
        refine ⟨_, rfl, ⟨trivial, (k_notNQ (hS.fact 0 rfl) ⟨_, rfl, ?_⟩)⟩⟩
        refine iteFe (by rw [eplace_38]; rfl) ?_
        obtain ⟨ev_, hS⟩ := hS.optN 0 rfl eplace_38; subst ev_; dsimp only [List.set] at hS
        have hS := hS.drop
        refine ⟨trivial, (k_dnew (K := K) (κ := Str) (α := Bool) hS.zh (NewD.ownS fun p44 ps45 Z41 H42 st43 o46 => ?_))⟩
        have hS := hS.own st43 o46
        obtain ⟨self_parts_39, en40⟩ : ∃ z, z = (⟨[]⟩ : (Dct Str Bool)) := ⟨_, rfl⟩
        have hS := hS.nam 0 rfl en40; dsimp only [List.set] at hS
        have hm := Good.vl en40 hm
        refine ⟨_, rfl, (hS.put (v := (.ref p44)) (ns' := ["pockets", "log", "field", "fed_last", "parts"]) (vs' := [(.ref p23), (.ref p22), v19, v21, (.ref p44)]) 5 rfl T.nk_Mater T.cl_Mater T.na_Mater_parts (Nat.le_of_ble_eq_true rfl) (rfl) rfl fun H_ hS => ?_)⟩
        dsimp only [List.set] at hS
        obtain ⟨a47, xs48, ev49, hz50, pr51⟩ := pyL (hS.fact 7 rfl)
        obtain ⟨W55, hm, hWW55⟩ := Good.bndW hm
        refine ⟨_, rfl, ⟨_, ev49, ⟨_, SqL.of (hS.zh _ _ hz50)⟩, (forK (Z := Z41) (L := a_other) (src_list hz50 pr51) (fun rr σr Hr Zr => (∃ (self_parts_52 : (Dct Str Bool)) (v53 : V) (w_card : Option V), σr = [some (.ref p_self), some v_field, some v_other, some v_other_field, some (.str a_word), some .non, w_card] ∧ Sep K Z0 (delL H0 [p_self, dx_self]) Zr Hr [⟨(Sh.dc Str Bool), v53, self_parts_52⟩, ⟨(Sh.told (α := (Int × Int))), v_field, a_field⟩, ⟨(Sh.told (α := (List Str))), v_other, a_other⟩, ⟨(Sh.told (α := (Int × Int))), v_other_field, a_other_field⟩, ⟨(Sh.lst (ShL.all (Sh.lt Str))), (.ref p23), (r8).pockets⟩, ⟨(Sh.lt Int), (.ref p22), (r8).log⟩, ⟨(Sh.told (α := (Int × Int))), v19, (r8).field⟩, ⟨(Sh.told (α := (Option Str))), v21, (r8).fed_last⟩, ⟨(Sh.husk "Mater" ["pockets", "log", "field", "fed_last", "parts"]), (.ref p_self), [(.ref p23), (.ref p22), v19, v21, v53]⟩] ∧ Same Z41 Zr ∧ (Good (forR (fun (s_ : (Dct Str Bool)) (q_ : Str) => m_Mater___init___b0 a_other_field s_ q_) self_parts_52 rr) W55 WE))) ?_ ?_ ?_ ?_)⟩⟩
        · rintro rr σr Hr Zr hk
          obtain ⟨self_parts_52, v53, w_card, rfl, hS, sm54, hm⟩ := hk
          obtain ⟨p83, er_⟩ := hS.ref 0 rfl
          subst er_
          exact ⟨sm54, hS.zh⟩
        · exact ⟨Z41, self_parts_39, ((.ref p44)), (none), rfl, hS.pick [0, 8, 7, 6, 4, 3, 2, 1, 5] (by decide) rfl, Same.refl _, hm⟩
        · skip
          intro card_56 r57 x58 sg59 H60 H61 Z62 mem63 dec64 hp65 y66
          obtain ⟨self_parts_52, v53, w_card, rfl, hS, sm54, hm⟩ := hp65
          obtain ⟨p67, er_⟩ := hS.ref 0 rfl
          subst er_
          obtain ⟨W68, hm, hn69⟩ := Good.forR hm
          have hm : Good (m_Mater___init___b0 a_other_field self_parts_52 card_56) _ _ := hm; unfold m_Mater___init___b0 at hm
          obtain ⟨rfl, rfl⟩ := y66
          refine (tgt1 ?_)
          refine ⟨trivial, ⟨_, rfl, (hS.fld 8 rfl T.nk_Mater T.cl_Mater T.na_Mater_parts rfl ⟨_, rfl, ⟨_, rfl, ⟨trivial, ⟨_, _, _, _, rfl, hS.zh, (hS.fact 3 rfl), (Good.nx (Good.bnd hm)).imp (fun r74 hm => fun Z75 H76 st77 => ?_) (fun _ h_ => h_)⟩⟩⟩⟩)⟩⟩
          have sm54 := sm54.trans st77.zz
          have hS := hS.step st77
          obtain ⟨g80, hm⟩ := Good.chk hm
          refine (k_dput (k0 := r74) (a := true) (hS.D 0 rfl) rfl g80 (fun u78 o79 => ?_))
          have hS := hS.mutD 0 rfl o79; dsimp only [List.set] at hS
          obtain ⟨self_parts_81, en82⟩ : ∃ z, z = (⟨dPut (self_parts_52).kv r74 true⟩ : (Dct Str Bool)) := ⟨_, rfl⟩
          rw [← en82] at hS
          have hm := Good.vl en82 hm
          have hm := hn69 _ hm
          exact ⟨_, self_parts_81, ((.ref p67)), (some (.str card_56)), rfl, hS.pick [0, 1, 2, 3, 4, 5, 6, 7, 8] (by decide) rfl, sm54, hm⟩
        · intro sg84 H85 Z86 hp87
          obtain ⟨self_parts_52, v53, w_card, rfl, hS, sm54, hm⟩ := hp87
          obtain ⟨p88, er_⟩ := hS.ref 0 rfl
          subst er_
          have hm := hWW55 _ hm
          obtain ⟨self_word_89, en90⟩ : ∃ z, z = a_word := ⟨_, rfl⟩
          have hm := Good.vl en90 hm
          refine ⟨_, rfl, ⟨_, rfl, (hS.put (v := (.str a_word)) (ns' := ["pockets", "log", "field", "fed_last", "parts", "word"]) (vs' := [(.ref p23), (.ref p22), v19, v21, (.ref p88), (.str self_word_89)]) 8 rfl T.nk_Mater T.cl_Mater T.na_Mater_word (Nat.le_of_ble_eq_true rfl) (by subst en90; rfl) rfl fun H_ hS => ?_)⟩⟩
          dsimp only [List.set] at hS
          have hS : (Sep K Z0 (delL H0 [p_self, dx_self]) _ _ [⟨(Sh.dc Str Bool), (.ref p88), self_parts_52⟩, ⟨(Sh.told (α := (Option Str))), v21, (r8).fed_last⟩, ⟨(Sh.told (α := (Int × Int))), v19, (r8).field⟩, ⟨(Sh.lt Int), (.ref p22), (r8).log⟩, ⟨(Sh.lst (ShL.all (Sh.lt Str))), (.ref p23), (r8).pockets⟩, ⟨(Sh.husk "Mater" ["pockets", "log", "field", "fed_last", "parts", "word"]), (.ref p_self), [(.ref p23), (.ref p22), v19, v21, (.ref p88), (.str self_word_89)]⟩, ⟨(Sh.told (α := (Int × Int))), v_field, a_field⟩, ⟨(Sh.told (α := (List Str))), v_other, a_other⟩, ⟨(Sh.told (α := (Int × Int))), v_other_field, a_other_field⟩]) := hS.pick [0, 7, 6, 5, 4, 8, 1, 2, 3] (by decide) rfl
          have hS := hS.mknil
          have hS := Sep.mkrS self_word_89 hS
          have hS := hS.mkr
          have hS := hS.mkr
          have hS := hS.mkr
          have hS := hS.mkr
          have hS := hS.mkr
          have hS : (Sep K Z0 (delL H0 [p_self, dx_self]) _ _ [⟨sh_Mater, (.ref p_self), (⟨(r8).pockets, (r8).log, (r8).field, (r8).fed_last, self_parts_52, self_word_89⟩ : Mater)⟩, ⟨(Sh.told (α := (Int × Int))), v_field, a_field⟩, ⟨(Sh.told (α := (List Str))), v_other, a_other⟩, ⟨(Sh.told (α := (Int × Int))), v_other_field, a_other_field⟩]) := Sep.clsO (f := Mater.row) rfl hS
          obtain ⟨ps_, o_⟩ := hS.nth 0 rfl; exact hW _ hm _ _ _ hS.st o_
      · have hm := Good.oS eplace_38 hm
        refine ⟨_, rfl, ⟨trivial, (k_notNQ (hS.fact 0 rfl) ⟨_, rfl, ?_⟩)⟩⟩
        refine iteTe (by rw [eplace_38]; rfl) ?_
        obtain ⟨ev_, hS⟩ := hS.optSs 0 rfl eplace_38; subst ev_; dsimp only [List.set] at hS
        have hS := hS.drop
        refine ⟨trivial, ⟨_, rfl, ⟨trivial, ⟨Nat.le_of_ble_eq_true rfl, raise_noorder hS.zh T.oe_NoOrder T.xn_NoOrder_deck T.xn_NoOrder_place (fun dx91 Z92 H93 st94 hx95 => ?_)⟩⟩⟩⟩
        have hS := hS.step st94
        exact hWE _ hm _ _ _ _ hS.st ⟨rfl, _, rfl, hx95⟩
theorem ok_Mater___init__ {f : Addr} {fd : FuncData} (F : Fun K "__init__" "Mater.__init__" (inClass (topS 42) 0) f fd) (gm : Mk K cb.Mater f) (T : Txt K mg ca cb) (C_NoOrder___init__ : MkE P w K mg base 1 "NoOrder" ca.NoOrder ["self", "deck", "place"] (sp_NoOrder K)) (C_columns_of : Cal P w K mg base CX0 "columns_of" 1 ["field"] (sp_columns_of K ca)) (C_part_of : Cal P w K mg base CX0 "part_of" 1 ["card", "field"] (sp_part_of K ca)) (C_out_at : Cal P w K mg base CX0 "out_at" 3 ["deck", "columns"] (sp_out_at K ca)) (C_Mater_Rower___init__ : BinX P w K mg base CX0 3 "Rower" cb.Rower ["self", "field"] [] (sp_Mater_Rower___init__ K ca)) : MakX P w K mg base (L2N.CX P w) 5 "Mater" cb.Mater ["self", "field", "other", "other_field", "word"] (sp_Mater___init__ K ca) :=
  ⟨⟨f, fd, gm, okf_Mater___init__ F T C_NoOrder___init__ C_columns_of C_part_of C_out_at C_Mater_Rower___init__, T.gc_Mater, F.binds (ps := ["self", "field", "other", "other_field", "word"]) fun _ _ _ _ _ _ us hl => match us, hl with | [_, _, _, _, _], _ => rfl⟩⟩
theorem sc_mater_of : FnScope ["going", "trays", "name"] ["going", "trays"] (defScope (topS 46)) := ⟨rfl, rfl, rfl, by decide +kernel, rfl, by decide +kernel, by decide +kernel⟩
theorem okf_mater_of {f : Addr} {fd : FuncData} (F : Fun K "mater_of" "mater_of" (topS 46) f fd) (T : Txt K mg ca cb) (C_Mater___init__ : MakX P w K mg base (L2N.CX P w) 5 "Mater" cb.Mater ["self", "field", "other", "other_field", "word"] (sp_Mater___init__ K ca)) : FnOk P w K mg base (L2N.CX P w) 7 f fd ["going", "trays"] (sp_mater_of K ca) := by
  refine F.okXC sc_mater_of (fun vs H0 Q E h => ?_) (fun cdv A outer s H0 vs Q E hr h => ?_)
  · obtain ⟨Z0, a_going, v_going, a_trays, v_trays, rfl, _⟩ := h
    rfl
  · obtain ⟨Z0, a_going, v_going, a_trays, v_trays, rfl, zh, h_going, h_trays, hm⟩ := h
    have nd := sc_mater_of.nd
    have hm_ := hm.opn; clear hm; obtain ⟨W, WE, hm, hW, hWE⟩ := hm_
    have hS := Sep.start (K := K) zh
    have hS := hS.tel h_going
    have hS := hS.tel h_trays
    unfold m_mater_of at hm
    refine ⟨_, (pss_cons (ps_set (i := 2) nd rfl (Or.inl rfl) (pe_ix (ix_dyK (K := K) rfl) (pv 0) (pcK pe_int) (fun _ _ => rfl))) (pss_cons (ps_if (pt_cmp (pc_dninQ (hu_of hr) (pv 2) (pv 1))) (pss_one (L2N.ps_raise rfl (L2N.takes_of rfl rfl rfl rfl) (L2N.pmk_own PySem.F.excBase_ValueError T.ex_NoTray T.gx_NoTray T.kx_NoTray (raises_own T.su_NoTray T.ty_NoTray) rfl))) pss_nil) (pss_one (ps_ret (pe_mkX C_Mater___init__ (hr.mono (by decide)) (passC (L2N.takes_of rfl rfl rfl rfl) (fun _ _ _ _ h => h)) (pa_cons (pe_ix (ix_dyK (K := K) rfl) (pv 0) (pcK pe_int) (fun _ _ => rfl)) (pa_cons (pe_callTy (call_listK (K := K) rfl) (by rfl) T.b_list (by decide +kernel) (pa_cons (pe_dgetQ (hu_of hr) (pv 1) (pv 2) (fun _ _ => rfl)) pnK)) (pa_cons (pe_ix (ix_dyK (K := K) rfl) (pv 0) (pcK pe_int) (fun _ _ => rfl)) (pa_cons (pe_ix (ix_dyK (K := K) rfl) (pv 0) (pcK pe_int) (fun _ _ => rfl)) pnK))))))))), ?_⟩
    obtain ⟨g3, hm⟩ := Good.chk hm
    obtain ⟨g4, hm⟩ := Good.chk hm
    refine ⟨_, rfl, ⟨trivial, (k_ixDS (α := Str) hS.zh (hS.fact 1 rfl) g3.1 g3.2 g4 (storeS fun name_5 en6 => ?_))⟩⟩
    have hm := Good.vl en6 hm
    refine ⟨_, rfl, ⟨_, rfl, (k_dnin (RD.tell hS.zh (hS.fact 0 rfl)) ⟨_, rfl, (ite2 (fun e7 => ?_) (fun e8 => ?_))⟩)⟩⟩
    · skip
      have hm := Good.ifT e7 hm
      exact hWE _ hm _ _ _ _ hS.st ⟨rfl, rfl⟩
    · skip
      have hm := Good.ifF e8 hm
      obtain ⟨g17, hm⟩ := Good.chk hm
      obtain ⟨g18, hm⟩ := Good.chk hm
      obtain ⟨g11, hm⟩ := Good.chk hm
      refine ⟨_, rfl, ⟨trivial, (k_ixDT (α := (Int × Int)) hS.zh (hS.fact 1 rfl) g17.1 g17.2 g18 (fun y19 hy19 => ⟨_, rfl, ⟨_, rfl, (k_dget (RD.tell hS.zh (hS.fact 0 rfl)) g11 (fun y12 hy12 => ⟨trivial, (k_listQ hS.zh hy12 (New.tel fun v29 Z26 H27 st28 hv29 => ?_))⟩))⟩⟩))⟩⟩
      have hS := hS.tel (a := ((FromD.fd (α := (Int × Int)) (dyAt a_going (3 : Int))).getD default)) hy19
      have hS := hS.tel (a := (dAt a_trays name_5)) hy12
      have hS := (hS.step st28).tel (a := (dAt a_trays name_5)) hv29
      obtain ⟨g20, hm⟩ := Good.chk hm
      obtain ⟨g21, hm⟩ := Good.chk hm
      obtain ⟨g23, hm⟩ := Good.chk hm
      obtain ⟨g24, hm⟩ := Good.chk hm
      refine ⟨_, rfl, ⟨trivial, (k_ixDT (α := (Int × Int)) hS.zh (hS.fact 4 rfl) g20.1 g20.2 g21 (fun y22 hy22 => ⟨_, rfl, ⟨trivial, (k_ixDS (α := Str) hS.zh (hS.fact 4 rfl) g23.1 g23.2 g24 ⟨trivial, fun x_r25 dx_ nx_ ndx_ ne_ => ⟨_, x_r25, dx_, _, _, _, _, _, _, _, rfl, new_zh hS.zh nx_ ndx_ ne_, ⟨_, T.nk_Mater, upd_same⟩, new_dx ne_, (hS.fact 2 rfl), (hS.fact 0 rfl), hy22, (Good.bnd hm).imp (fun r25 hm => new_fitP nx_ ndx_ ne_ (fun ps34 Z30 H31 st32 o35 => ?_)) (fun e_ h_ Z_ H_ cls_ d_ st_ x_ => hWE e_ h_ Z_ H_ cls_ d_ (hS.st.trans (new_st nx_ ndx_ ne_ st_)) x_)⟩⟩)⟩⟩))⟩⟩
      have hS := hS.tel (a := ((FromD.fd (α := (Int × Int)) (dyAt a_going (4 : Int))).getD default)) hy22
      have hS := hS.own st32 o35
      obtain ⟨ps_, o_⟩ := hS.nth 0 rfl
      exact hW _ hm _ _ _ _ hS.st o_
theorem ok_mater_of {f : Addr} {fd : FuncData} (F : Fun K "mater_of" "mater_of" (topS 46) f fd) (gm : mg "mater_of" = some (.ref f)) (T : Txt K mg ca cb) (C_Mater___init__ : MakX P w K mg base (L2N.CX P w) 5 "Mater" cb.Mater ["self", "field", "other", "other_field", "word"] (sp_Mater___init__ K ca)) : Cal P w K mg base (L2N.CX P w) "mater_of" 7 ["going", "trays"] (sp_mater_of K ca) :=
  ⟨⟨f, fd, okf_mater_of F T C_Mater___init__, gm, F.kp, F.binds (ps := ["going", "trays"]) fun _ _ _ _ _ _ us hl => match us, hl with | [_, _], _ => rfl⟩⟩
theorem sc_machine_of : FnScope ["going", "trays", "word"] ["going", "trays"] (defScope (topS 47)) := ⟨rfl, rfl, rfl, by decide +kernel, rfl, by decide +kernel, by decide +kernel⟩
theorem okf_machine_of {f : Addr} {fd : FuncData} (F : Fun K "machine_of" "machine_of" (topS 47) f fd) (T : Txt K mg ca cb) (C_mater_of : Cal P w K mg base (L2N.CX P w) "mater_of" 7 ["going", "trays"] (sp_mater_of K ca)) : FnOk P w K mg base (L2N.CX P w) 8 f fd ["going", "trays"] (sp_machine_of K ca) := by
  refine F.okXC sc_machine_of (fun vs H0 Q E h => ?_) (fun cdv A outer s H0 vs Q E hr h => ?_)
  · obtain ⟨Z0, a_going, v_going, a_trays, v_trays, rfl, _⟩ := h
    rfl
  · obtain ⟨Z0, a_going, v_going, a_trays, v_trays, rfl, zh, h_going, h_trays, hm⟩ := h
    have nd := sc_machine_of.nd
    have hm_ := hm.opn; clear hm; obtain ⟨W, WE, hm, hW, hWE⟩ := hm_
    have hS := Sep.start (K := K) zh
    have hS := hS.tel h_going
    have hS := hS.tel h_trays
    unfold m_machine_of at hm
    refine ⟨_, (pss_cons (ps_set (i := 2) nd rfl (Or.inl rfl) (pe_ix (ix_dyK (K := K) rfl) (pv 0) (pcK pe_int) (fun _ _ => rfl))) (pss_cons (ps_if (pt_cmpR op_eq (pv 2) (pcK pe_str) (nomark _)) (pss_one ps_never) pss_nil) (pss_cons (ps_if (pt_cmpR op_eq (pv 2) (pcK pe_str) (nomark _)) (pss_one ps_never) pss_nil) (pss_cons (ps_if (pt_cmpR op_eq (pv 2) (pcK pe_str) (nomark _)) (pss_one (ps_ret (pe_cal C_mater_of (hr.mono (by decide)) (passC (L2N.takes_of rfl rfl rfl rfl) (fun _ _ _ _ h => h)) (pa_cons (pv 0) (pa_cons (pv 1) pnK))))) pss_nil) (pss_cons (ps_if (pt_cmpR op_eq (pv 2) (pcK pe_str) (nomark _)) (pss_one ps_never) pss_nil) (pss_cons (ps_if (pt_cmpR op_eq (pv 2) (pcK pe_str) (nomark _)) (pss_one ps_never) pss_nil) (pss_one ps_never))))))), ?_⟩
    obtain ⟨g3, hm⟩ := Good.chk hm
    obtain ⟨g4, hm⟩ := Good.chk hm
    refine ⟨_, rfl, ⟨trivial, (k_ixDS (α := Str) hS.zh (hS.fact 1 rfl) g3.1 g3.2 g4 (storeS fun word_5 en6 => ?_))⟩⟩
    have hm := Good.vl en6 hm
    refine ⟨_, rfl, ⟨trivial, (k_eqS ⟨_, rfl, (ite2 (fun e7 => ?_) (fun e8 => ?_))⟩)⟩⟩
    · skip
      have hm := Good.ifT e7 hm
      exact hm.elim
    · skip
      have hm := Good.ifF e8 hm
      refine ⟨_, rfl, ⟨trivial, (k_eqS ⟨_, rfl, (ite2 (fun e9 => ?_) (fun e10 => ?_))⟩)⟩⟩
      · skip
        have hm := Good.ifT e9 hm
        exact hm.elim
      · skip
        have hm := Good.ifF e10 hm
        refine ⟨_, rfl, ⟨trivial, (k_eqS ⟨_, rfl, (ite2 (fun e11 => ?_) (fun e12 => ?_))⟩)⟩⟩
        · skip
          have hm := Good.ifT e11 hm
          refine ⟨_, rfl, ⟨_, rfl, ⟨trivial, ⟨_, _, _, _, _, rfl, hS.zh, (hS.fact 1 rfl), (hS.fact 0 rfl), (Good.bnd hm).imp (fun r13 hm => fun v17 ps18 Z14 H15 st16 o19 => ?_) (fun e_ h_ Z_ H_ cls_ d_ st_ x_ => hWE e_ h_ Z_ H_ cls_ d_ (hS.st.trans st_) x_)⟩⟩⟩⟩
          have hS := hS.own st16 o19
          obtain ⟨p20, er_⟩ := hS.ref 0 rfl
          subst er_
          obtain ⟨ps_, o_⟩ := hS.nth 0 rfl
          exact hW _ hm _ _ _ _ hS.st o_
        · skip
          have hm := Good.ifF e12 hm
          refine ⟨_, rfl, ⟨trivial, (k_eqS ⟨_, rfl, (ite2 (fun e21 => ?_) (fun e22 => ?_))⟩)⟩⟩
          · skip
            have hm := Good.ifT e21 hm
            exact hm.elim
          · skip
            have hm := Good.ifF e22 hm
            refine ⟨_, rfl, ⟨trivial, (k_eqS ⟨_, rfl, (ite2 (fun e23 => ?_) (fun e24 => ?_))⟩)⟩⟩
            · skip
              have hm := Good.ifT e23 hm
              exact hm.elim
            · skip
              have hm := Good.ifF e24 hm
              exact hm.elim
theorem ok_machine_of {f : Addr} {fd : FuncData} (F : Fun K "machine_of" "machine_of" (topS 47) f fd) (gm : mg "machine_of" = some (.ref f)) (T : Txt K mg ca cb) (C_mater_of : Cal P w K mg base (L2N.CX P w) "mater_of" 7 ["going", "trays"] (sp_mater_of K ca)) : Cal P w K mg base (L2N.CX P w) "machine_of" 8 ["going", "trays"] (sp_machine_of K ca) :=
  ⟨⟨f, fd, okf_machine_of F T C_mater_of, gm, F.kp, F.binds (ps := ["going", "trays"]) fun _ _ _ _ _ _ us hl => match us, hl with | [_, _], _ => rfl⟩⟩
theorem sc_law_cell_at : FnScope ["_law_script", "_law_k"] ["_law_script", "_law_k"] (defScope (topS 49)) := ⟨rfl, rfl, rfl, by decide +kernel, rfl, by decide +kernel, by decide +kernel⟩
theorem okf_law_cell_at {f : Addr} {fd : FuncData} (F : Fun K "_law_cell_at" "_law_cell_at" (topS 49) f fd) (T : Txt K mg ca cb) : FnOk P w K mg base CX0 1 f fd ["_law_script", "_law_k"] (sp_law_cell_at K ca) := by
  refine F.ok sc_law_cell_at (fun vs H0 Q E h => ?_) (fun cdv A outer s H0 vs Q E hr h => ?_)
  · obtain ⟨Z0, a_law_script, v_law_script, a_law_k, rfl, _⟩ := h
    rfl
  · obtain ⟨Z0, a_law_script, v_law_script, a_law_k, rfl, zh, h_law_script, hm⟩ := h
    have nd := sc_law_cell_at.nd
    have hm_ := hm.opn; clear hm; obtain ⟨W, WE, hm, hW, hWE⟩ := hm_
    have hS := Sep.start (K := K) zh
    have hS := hS.tel h_law_script
    unfold m_law_cell_at at hm
    refine ⟨_, (pss_cons (ps_if (pt_cmpR op_lt (pv 1) (pe_callB (call_lenK (K := K) rfl) (by rfl) T.b_len PySem.boot_len (pa_cons (pv 0) pnK)) (nomark _)) (pss_one (ps_ret (pe_ix (ix_listK (K := K) rfl) (pv 0) (pv 1) (fun _ _ => rfl)))) pss_nil) (pss_one (ps_ret (pcK pe_int)))), ?_⟩
    refine ⟨_, rfl, ⟨_, rfl, ⟨trivial, (k_lenRQ hS.zh (hS.fact 0 rfl) ⟨_, _, rfl, rfl, ⟨_, rfl, (ite2 (fun e1 => ?_) (fun e2 => ?_))⟩⟩)⟩⟩⟩
    · skip
      have hm := Good.ifT e1 hm
      obtain ⟨g3, hm⟩ := Good.chk hm
      refine ⟨_, rfl, ⟨_, rfl, (k_ixR hS.zh (hS.fact 0 rfl) g3 ?_)⟩⟩
      exact hW _ hm _ _ hS.st
    · skip
      have hm := Good.ifF e2 hm
      refine ⟨trivial, ?_⟩
      exact hW _ hm _ _ hS.st
theorem ok_law_cell_at {f : Addr} {fd : FuncData} (F : Fun K "_law_cell_at" "_law_cell_at" (topS 49) f fd) (gm : mg "_law_cell_at" = some (.ref f)) (T : Txt K mg ca cb) : Cal P w K mg base CX0 "_law_cell_at" 1 ["_law_script", "_law_k"] (sp_law_cell_at K ca) :=
  ⟨⟨f, fd, okf_law_cell_at F T, gm, F.kp, F.binds (ps := ["_law_script", "_law_k"]) fun _ _ _ _ _ _ us hl => match us, hl with | [_, _], _ => rfl⟩⟩
theorem sc_law_known : FnScope [] [] (defScope (topS 50)) := ⟨rfl, rfl, rfl, by decide +kernel, rfl, by decide +kernel, by decide +kernel⟩
theorem okf_law_known {f : Addr} {fd : FuncData} (F : Fun K "_law_known" "_law_known" (topS 50) f fd) (T : Txt K mg ca cb) : FnOk P w K mg base CX0 1 f fd [] (sp_law_known K ca) := by
  refine F.ok sc_law_known (fun vs H0 Q E h => ?_) (fun cdv A outer s H0 vs Q E hr h => ?_)
  · obtain ⟨Z0, rfl, _⟩ := h
    rfl
  · obtain ⟨Z0, rfl, zh, hm⟩ := h
    have nd := sc_law_known.nd
    have hm_ := hm.opn; clear hm; obtain ⟨W, WE, hm, hW, hWE⟩ := hm_
    have hS := Sep.start (K := K) zh
    unfold m_law_known at hm
    refine ⟨_, (pss_one (ps_ret (pcK pe_str))), ?_⟩
    refine ⟨trivial, ?_⟩
    exact hW _ hm _ _ hS.st
theorem ok_law_known {f : Addr} {fd : FuncData} (F : Fun K "_law_known" "_law_known" (topS 50) f fd) (gm : mg "_law_known" = some (.ref f)) (T : Txt K mg ca cb) : Cal P w K mg base CX0 "_law_known" 1 [] (sp_law_known K ca) :=
  ⟨⟨f, fd, okf_law_known F T, gm, F.kp, F.binds (ps := []) fun _ _ _ _ _ _ us hl => match us, hl with | [], _ => rfl⟩⟩
theorem sc_law_card : FnScope ["_law_cell", "_law_menu", "_law_mark", "_law_card_here", "_law_number", "_law_k"] ["_law_cell", "_law_menu", "_law_mark"] (defScope (topS 51)) := ⟨rfl, rfl, rfl, by decide +kernel, rfl, by decide +kernel, by decide +kernel⟩
theorem okf_law_card {f : Addr} {fd : FuncData} (F : Fun K "_law_card" "_law_card" (topS 51) f fd) (T : Txt K mg ca cb) : FnOk P w K mg base CX0 1 f fd ["_law_cell", "_law_menu", "_law_mark"] (sp_law_card K ca) := by
  refine F.ok sc_law_card (fun vs H0 Q E h => ?_) (fun cdv A outer s H0 vs Q E hr h => ?_)
  · obtain ⟨Z0, a_law_cell, a_law_menu, a_law_mark, rfl, _⟩ := h
    rfl
  · obtain ⟨Z0, a_law_cell, a_law_menu, a_law_mark, rfl, zh, hm⟩ := h
    have nd := sc_law_card.nd
    have hm_ := hm.opn; clear hm; obtain ⟨W, WE, hm, hW, hWE⟩ := hm_
    have hS := Sep.start (K := K) zh
    unfold m_law_card at hm
    refine ⟨_, (pss_cons (ps_set (i := 3) nd rfl (Or.inl rfl) (pcK pe_str)) (pss_cons (ps_set (i := 4) nd rfl (Or.inl rfl) (pe_op op_add (pe_op op_mod (pv 0) (pcK pe_int)) (pcK pe_int))) (pss_cons (ps_for PassesOwn.never rfl (pi_range1 rfl T.b_range (pa_cons (pcK pe_int) pnK)) (pg_name (i := 5) nd rfl (Or.inl rfl)) (pss_cons (ps_set (i := 4) nd rfl (Or.inl rfl) (pe_op op_mod (pe_op op_add (pe_op op_add (pe_op op_mulC (pv 4) (pv 4)) (pe_op op_mulC (pcK pe_int) (pv 5))) (pcK pe_int)) (pcK pe_int))) (pss_one (ps_set (i := 3) nd rfl (Or.inl rfl) (pe_op op_add_str (pv 3) (pe_ix ix_str (pv 1) (pe_op op_mod (pe_op op_fdiv (pv 4) (pcK pe_int)) (pe_callB call_len_str (by rfl) T.b_len PySem.boot_len (pa_cons (pv 1) pnK))) (fun _ _ => rfl))))))) (pss_one (ps_ret (pe_op op_add_str (pv 3) (pv 2))))))), ?_⟩
    refine ⟨trivial, (storeS fun card_here_1 en2 => ?_)⟩
    have hm := Good.vl en2 hm
    refine ⟨_, rfl, ⟨trivial, ⟨_, _, rfl, rfl, (show (0 : Int) < (2147483647 : Int) from (by decide)), ⟨trivial, ⟨_, _, rfl, rfl, (storeI fun number_3 en4 => ?_)⟩⟩⟩⟩⟩
    have hm := Good.vl en4 hm
    obtain ⟨W10, hm, hWW10⟩ := Good.bndW hm
    refine ⟨trivial, ⟨trivial, ⟨_, rfl, by decide, by decide, (forK (Z := Z0) (L := (rangeL 0 ((36 : Int)).toNat)) (src_range _ _) (fun rr σr Hr Zr => (∃ (number_5 : Int) (card_here_6 : Str) (w_law_k : Option V), σr = [some (.int a_law_cell), some (.str a_law_menu), some (.str a_law_mark), some (.str card_here_6), some (.int number_5), w_law_k] ∧ Sep K Z0 H0 Zr Hr [] ∧ Same Z0 Zr ∧ (Good (forR (fun (s_ : Int × Str) (q_ : Int) => m_law_card_b0 a_law_menu s_.1 s_.2 q_) (number_5, card_here_6) rr) W10 WE))) ?_ ?_ ?_ ?_)⟩⟩⟩
    · rintro rr σr Hr Zr hk
      obtain ⟨number_5, card_here_6, w_law_k, rfl, hS, sm9, hm⟩ := hk
      exact ⟨sm9, hS.zh⟩
    · exact ⟨Z0, number_3, card_here_1, (none), rfl, hS.pick [] (by decide) rfl, Same.refl _, hm⟩
    · skip
      intro k_11 r12 x13 sg14 H15 H16 Z17 mem18 dec19 hp20 y21
      obtain ⟨number_5, card_here_6, w_law_k, rfl, hS, sm9, hm⟩ := hp20
      obtain ⟨W22, hm, hn23⟩ := Good.forR hm
      have hm : Good (m_law_card_b0 a_law_menu number_5 card_here_6 k_11) _ _ := hm; unfold m_law_card_b0 at hm
      obtain ⟨rfl, rfl⟩ := y21
      refine (tgt1 ?_)
      obtain ⟨g28, hm⟩ := Good.chk hm
      refine ⟨_, rfl, ⟨_, rfl, ⟨_, _, rfl, rfl, g28, ⟨trivial, ⟨_, rfl, ⟨_, _, rfl, rfl, (mulL ⟨by decide, by decide⟩), ⟨_, _, rfl, rfl, ⟨trivial, ⟨_, _, rfl, rfl, ⟨trivial, ⟨_, _, rfl, rfl, (show (0 : Int) < (2147483629 : Int) from (by decide)), (storeI fun number_29 en30 => ?_)⟩⟩⟩⟩⟩⟩⟩⟩⟩⟩⟩
      have hm := Good.vl en30 hm
      obtain ⟨g31, hm⟩ := Good.chk hm
      obtain ⟨g32, hm⟩ := Good.chk hm
      obtain ⟨g33, hm⟩ := Good.chk hm
      obtain ⟨g34, hm⟩ := Good.chk hm
      refine ⟨_, rfl, ⟨_, rfl, ⟨_, rfl, ⟨trivial, ⟨_, _, rfl, rfl, ⟨by decide, by decide⟩, ⟨_, rfl, ⟨trivial, ⟨_, rfl, g31, ⟨_, _, rfl, rfl, (show (0 : Int) < ((a_law_menu).length : Int) from g32), (k_ixS g33.1 g33.2 ⟨_, _, rfl, rfl, g34, (storeS fun card_here_35 en36 => ?_)⟩)⟩⟩⟩⟩⟩⟩⟩⟩⟩
      have hm := Good.vl en36 hm
      have hm := hn23 _ hm
      exact ⟨_, number_29, card_here_35, (some (.int k_11)), rfl, hS.pick [] (by decide) rfl, sm9, hm⟩
    · intro sg37 H38 Z39 hp40
      obtain ⟨number_5, card_here_6, w_law_k, rfl, hS, sm9, hm⟩ := hp40
      have hm := hWW10 _ hm
      have hm : Good (m_law_card_k0 a_law_mark number_5 card_here_6) _ _ := hm; unfold m_law_card_k0 at hm
      obtain ⟨g41, hm⟩ := Good.chk hm
      refine ⟨_, rfl, ⟨_, rfl, ⟨_, _, rfl, rfl, g41, ?_⟩⟩⟩
      exact hW _ hm _ _ hS.st
theorem ok_law_card {f : Addr} {fd : FuncData} (F : Fun K "_law_card" "_law_card" (topS 51) f fd) (gm : mg "_law_card" = some (.ref f)) (T : Txt K mg ca cb) : Cal P w K mg base CX0 "_law_card" 1 ["_law_cell", "_law_menu", "_law_mark"] (sp_law_card K ca) :=
  ⟨⟨f, fd, okf_law_card F T, gm, F.kp, F.binds (ps := ["_law_cell", "_law_menu", "_law_mark"]) fun _ _ _ _ _ _ us hl => match us, hl with | [_, _, _], _ => rfl⟩⟩
theorem sc_law_deck : FnScope ["_law_cells", "_law_way", "_law_menu", "_law_deck_here", "_law_k", "_law_cell", "_law_mark"] ["_law_cells", "_law_way"] (defScope (topS 52)) := ⟨rfl, rfl, rfl, by decide +kernel, rfl, by decide +kernel, by decide +kernel⟩
theorem okf_law_deck {f : Addr} {fd : FuncData} (F : Fun K "_law_deck" "_law_deck" (topS 52) f fd) (T : Txt K mg ca cb) (C_law_known : Cal P w K mg base CX0 "_law_known" 1 [] (sp_law_known K ca)) (C_law_card : Cal P w K mg base CX0 "_law_card" 1 ["_law_cell", "_law_menu", "_law_mark"] (sp_law_card K ca)) : FnOk P w K mg base CX0 2 f fd ["_law_cells", "_law_way"] (sp_law_deck K ca) := by
  refine F.ok sc_law_deck (fun vs H0 Q E h => ?_) (fun cdv A outer s H0 vs Q E hr h => ?_)
  · obtain ⟨Z0, a_law_cells, v_law_cells, a_law_way, rfl, _⟩ := h
    rfl
  · obtain ⟨Z0, a_law_cells, v_law_cells, a_law_way, rfl, zh, h_law_cells, hm⟩ := h
    have nd := sc_law_deck.nd
    have hm_ := hm.opn; clear hm; obtain ⟨W, WE, hm, hW, hWE⟩ := hm_
    have hS := Sep.start (K := K) zh
    have hS := hS.tel h_law_cells
    unfold m_law_deck at hm
    refine ⟨_, (pss_cons (ps_set (i := 2) nd rfl (Or.inl rfl) (pe_ix (ix_listK (K := K) rfl) (pe_lstQ (pa_cons (pcK pe_str) (pa_cons (pcK pe_str) (pa_cons (pcK pe_str) (pa_cons (pe_cal0 C_law_known (hr.mono (by decide)) pass0) pnK))))) (pe_op op_mod (pv 1) (pcK pe_int)) (fun _ _ => rfl))) (pss_cons (ps_set (i := 3) nd rfl (Or.inl rfl) (pe_lstQ pnK)) (pss_cons (ps_for PassesOwn.never rfl (pi_enum rfl T.b_enumerate (pa_cons (pv 0) pnK)) (pg_tup rfl (pgs_cons (pg_name (i := 4) nd rfl (Or.inl rfl)) (pgs_cons (pg_name (i := 5) nd rfl (Or.inl rfl)) pgs_nil))) (pss_cons (ps_set (i := 6) nd rfl (Or.inl rfl) (pe_bmK (K := K) rfl PySem.F.plainAttrs_str PySem.F.slot_str_zfill PySem.F.type_str_zfill mt_zfill (pe_callTy call_strQ (by rfl) T.b_str (by decide +kernel) (pa_cons (pe_op op_mod (pe_op op_mulC (pv 4) (pcK pe_int)) (pcK pe_int)) pnK)) (pa_cons (pcK pe_int) pnK))) (Evl.pss_cut (ps_if (pt_cmpR op_eq (pe_op op_mod (pe_op op_fdiv (pv 1) (pcK pe_int)) (pcK pe_int)) (pcK pe_int) (nomark _)) (pss_one (ps_set (i := 6) nd rfl (Or.inl rfl) (pcK pe_str))) pss_nil) (pss_one (ps_expr (pe_bm PySem.F.plainAttrs_list PySem.F.slot_list_append PySem.F.type_list_append mt_append (pv 3) (pa_cons (pe_cal C_law_card (hr.mono (by decide)) pass0 (pa_cons (pv 5) (pa_cons (pv 2) (pa_cons (pv 6) pnK)))) pnK))))))) (pss_one (ps_ret (pv 3)))))), ?_⟩
    refine ⟨trivial, ⟨trivial, ⟨trivial, ⟨_, rfl, hS.zh, (Good.bnd hm).imp (fun r1 hm => fun Z3 H4 st5 => ?_) hWE⟩⟩⟩⟩
    have hS := hS.step st5
    refine ⟨trivial, (k_lst (K := K) (m := [("A " : Str), ("0Z9" : Str), ("B5A 0" : Str), r1]) hS.zh (.cons rfl (.cons rfl (.cons rfl (.cons rfl .nil)))) (Nat.le_of_ble_eq_true rfl) (New.tel fun v9 Z6 H7 st8 hv9 => ?_))⟩
    have hS := (hS.step st8).tel (a := [("A " : Str), ("0Z9" : Str), ("B5A 0" : Str), r1]) hv9
    obtain ⟨g2, hm⟩ := Good.chk hm
    refine ⟨_, rfl, ⟨trivial, ⟨_, _, rfl, rfl, (show (0 : Int) < (4 : Int) from (by decide)), (k_ixLs hS.zh (hS.fact 0 rfl) g2 (storeS fun menu_10 en11 => ?_))⟩⟩⟩
    have hm := Good.vl en11 hm
    have hS := hS.drop
    refine ⟨trivial, (k_lst (K := K) (m := ([] : (List Str))) hS.zh .nil (Nat.le_of_ble_eq_true rfl) (New.gen fun deck_here_12 en13 => New.ownS fun p17 ps18 Z14 H15 st16 o19 => ?_))⟩
    have hS := hS.own st16 o19
    refine (tgt1 ?_)
    have hm := Good.vl en13 hm
    obtain ⟨a20, xs21, ev22, hz23, pr24⟩ := pyL (hS.fact 1 rfl)
    obtain ⟨W28, hm, hWW28⟩ := Good.bndW hm
    refine ⟨_, rfl, ⟨trivial, ⟨_, _, by rw [ev22], SqL.of (hS.zh _ _ hz23), (forK (Z := Z14) (L := (enumL 0 a_law_cells)) (src_enum hz23 pr24) (fun rr σr Hr Zr => (∃ (deck_here_25 : (List Str)) (v26 : V) (w_law_k : Option V) (w_law_cell : Option V) (w_law_mark : Option V), σr = [some v_law_cells, some (.int a_law_way), some (.str menu_10), some v26, w_law_k, w_law_cell, w_law_mark] ∧ Sep K Z0 H0 Zr Hr [⟨(Sh.lt Str), v26, deck_here_25⟩, ⟨(Sh.told (α := (List Int))), v_law_cells, a_law_cells⟩] ∧ Same Z14 Zr ∧ (Good (forR (fun (s_ : (List Str)) (q_ : (Int × Int)) => m_law_deck_b0 a_law_way menu_10 s_ q_.1 q_.2) deck_here_25 rr) W28 WE))) ?_ ?_ ?_ ?_)⟩⟩⟩
    · rintro rr σr Hr Zr hk
      obtain ⟨deck_here_25, v26, w_law_k, w_law_cell, w_law_mark, rfl, hS, sm27, hm⟩ := hk
      obtain ⟨p72, er_⟩ := hS.ref 0 rfl
      subst er_
      exact ⟨sm27, hS.zh⟩
    · exact ⟨Z14, deck_here_12, ((.ref p17)), (none), (none), (none), rfl, hS.pick [0, 1] (by decide) rfl, Same.refl _, hm⟩
    · skip
      intro q31 r32 x33 sg34 H35 H36 Z37 mem38 dec39 hp40 y41
      obtain ⟨k_29, cell_30⟩ := q31
      obtain ⟨deck_here_25, v26, w_law_k, w_law_cell, w_law_mark, rfl, hS, sm27, hm⟩ := hp40
      obtain ⟨p42, er_⟩ := hS.ref 0 rfl
      subst er_
      obtain ⟨W43, hm, hn44⟩ := Good.forR hm
      have hm : Good (m_law_deck_b0 a_law_way menu_10 deck_here_25 k_29 cell_30) _ _ := hm; unfold m_law_deck_b0 at hm
      refine (tgt2 hS.zh y41 (fun v47 v49 h48 h50 st51 => ?_))
      have sm27 := sm27.trans st51.zz
      have hS := hS.step st51
      obtain rfl : v47 = (.int k_29) := h48
      obtain rfl : v49 = (.int cell_30) := h50
      obtain ⟨g52, hm⟩ := Good.chk hm
      refine ⟨_, rfl, ⟨trivial, ⟨_, _, rfl, rfl, (mulR ⟨by decide, by decide⟩), ⟨trivial, ⟨_, _, rfl, rfl, (show (0 : Int) < (10000 : Int) from (by decide)), ⟨trivial, ⟨_, rfl, g52, ⟨rfl, ⟨trivial, ⟨trivial, ⟨_, _, rfl, rfl, rfl, (storeS fun mark_53 en54 => ?_)⟩⟩⟩⟩⟩⟩⟩⟩⟩⟩⟩
      have hm := Good.vl en54 hm
      refine ⟨fun σj Hj => ∃ Zr_ : Hp, ∃ (mark_55 : Str), σj = [some v_law_cells, some (.int a_law_way), some (.str menu_10), some (.ref p42), some (.int k_29), some (.int cell_30), some (.str mark_55)] ∧ Sep K Z0 H0 Zr_ Hj [⟨(Sh.lt Str), (.ref p42), deck_here_25⟩, ⟨(Sh.told (α := (List Int))), v_law_cells, a_law_cells⟩] ∧ Same Z37 Zr_ ∧ (Good (m_law_deck_j0 menu_10 deck_here_25 cell_30 mark_55) W43 WE), ?_, fun σj Hj hj => ?_⟩
      · skip
        have sm58 := Same.refl Z37
        obtain ⟨W57, hm, hWW57⟩ := Good.bndW hm
        refine ⟨_, rfl, ⟨trivial, ⟨_, _, rfl, rfl, ⟨by decide, by decide⟩, ⟨trivial, ⟨_, _, rfl, rfl, (show (0 : Int) < (4 : Int) from (by decide)), ⟨trivial, (k_eqI ⟨_, rfl, (ite2 (fun e59 => ?_) (fun e60 => ?_))⟩)⟩⟩⟩⟩⟩⟩
        · skip
          have hm := Good.ifT e59 hm
          refine ⟨trivial, (storeS fun mark_61 en62 => ?_)⟩
          have hm := Good.vl en62 hm
          have hm := hWW57 _ hm
          exact ⟨_, mark_61, rfl, hS.pick [0, 1] (by decide) rfl, sm58, hm⟩
        · skip
          have hm := Good.ifF e60 hm
          have hm := hWW57 _ hm
          exact ⟨_, mark_53, rfl, hS.pick [0, 1] (by decide) rfl, sm58, hm⟩
      · skip
        obtain ⟨Zj_, mark_55, rfl, hS, sm58, hm⟩ := hj
        have sm27 := sm27.trans sm58
        unfold m_law_deck_j0 at hm
        refine ⟨_, rfl, ⟨tyO (hS.L 0 rfl), ⟨_, rfl, ⟨_, rfl, ⟨_, rfl, ⟨trivial, ⟨_, _, _, _, rfl, hS.zh, (Good.bnd hm).imp (fun r63 hm => fun Z64 H65 st66 => ?_) hWE⟩⟩⟩⟩⟩⟩⟩
        have sm27 := sm27.trans st66.zz
        have hS := hS.step st66
        obtain ⟨g69, hm⟩ := Good.chk hm
        refine ⟨trivial, (k_append (a := r63) (hS.L 0 rfl) rfl g69 fun u67 o68 => ?_)⟩
        have hS := hS.mutL 0 rfl o68; dsimp only [List.set] at hS
        obtain ⟨deck_here_70, en71⟩ : ∃ z, z = (deck_here_25 ++ [r63]) := ⟨_, rfl⟩
        rw [← en71] at hS
        have hm := Good.vl en71 hm
        have hm := hn44 _ hm
        exact ⟨_, deck_here_70, ((.ref p42)), (some (.int k_29)), (some (.int cell_30)), (some (.str mark_55)), rfl, hS.pick [0, 1] (by decide) rfl, sm27, hm⟩
    · intro sg73 H74 Z75 hp76
      obtain ⟨deck_here_25, v26, w_law_k, w_law_cell, w_law_mark, rfl, hS, sm27, hm⟩ := hp76
      obtain ⟨p77, er_⟩ := hS.ref 0 rfl
      subst er_
      have hm := hWW28 _ hm
      refine ⟨_, rfl, ?_⟩
      obtain ⟨ps_, o_⟩ := hS.nth 0 rfl
      exact hW _ hm _ _ _ _ hS.st o_
theorem ok_law_deck {f : Addr} {fd : FuncData} (F : Fun K "_law_deck" "_law_deck" (topS 52) f fd) (gm : mg "_law_deck" = some (.ref f)) (T : Txt K mg ca cb) (C_law_known : Cal P w K mg base CX0 "_law_known" 1 [] (sp_law_known K ca)) (C_law_card : Cal P w K mg base CX0 "_law_card" 1 ["_law_cell", "_law_menu", "_law_mark"] (sp_law_card K ca)) : Cal P w K mg base CX0 "_law_deck" 2 ["_law_cells", "_law_way"] (sp_law_deck K ca) :=
  ⟨⟨f, fd, okf_law_deck F T C_law_known C_law_card, gm, F.kp, F.binds (ps := ["_law_cells", "_law_way"]) fun _ _ _ _ _ _ us hl => match us, hl with | [_, _], _ => rfl⟩⟩
theorem sc_law_part : FnScope ["_law_card_here", "_law_field"] ["_law_card_here", "_law_field"] (defScope (topS 53)) := ⟨rfl, rfl, rfl, by decide +kernel, rfl, by decide +kernel, by decide +kernel⟩
theorem okf_law_part {f : Addr} {fd : FuncData} (F : Fun K "_law_part" "_law_part" (topS 53) f fd) (T : Txt K mg ca cb) : FnOk P w K mg base CX0 1 f fd ["_law_card_here", "_law_field"] (sp_law_part K ca) := by
  refine F.ok sc_law_part (fun vs H0 Q E h => ?_) (fun cdv A outer s H0 vs Q E hr h => ?_)
  · obtain ⟨Z0, a_law_card_here, a_law_field, v_law_field, rfl, _⟩ := h
    rfl
  · obtain ⟨Z0, a_law_card_here, a_law_field, v_law_field, rfl, zh, h_law_field, hm⟩ := h
    have nd := sc_law_part.nd
    have hm_ := hm.opn; clear hm; obtain ⟨W, WE, hm, hW, hWE⟩ := hm_
    have hS := Sep.start (K := K) zh
    have hS := hS.tel h_law_field
    unfold m_law_part at hm
    refine ⟨_, (pss_one (ps_ret (pe_slice sl_str (pv 0) (po_some (pe_op op_sub (pe_ix (ix_tupK (K := K) rfl) (pv 1) (pcK pe_int) (fun _ _ => rfl)) (pcK pe_int))) (po_some (pe_ix (ix_tupK (K := K) rfl) (pv 1) (pcK pe_int) (fun _ _ => rfl)))))), ?_⟩
    obtain ⟨g1, hm⟩ := Good.chk hm
    refine ⟨_, rfl, ⟨_, rfl, ⟨trivial, (k_fstS hS.zh (hS.fact 0 rfl) ⟨trivial, ⟨_, _, rfl, rfl, ⟨_, rfl, ⟨_, rfl, ⟨trivial, (k_sndS hS.zh (hS.fact 0 rfl) ⟨_, rfl, ⟨_, rfl, g1, ?_⟩⟩)⟩⟩⟩⟩⟩)⟩⟩⟩
    exact hW _ hm _ _ hS.st
theorem ok_law_part {f : Addr} {fd : FuncData} (F : Fun K "_law_part" "_law_part" (topS 53) f fd) (gm : mg "_law_part" = some (.ref f)) (T : Txt K mg ca cb) : Cal P w K mg base CX0 "_law_part" 1 ["_law_card_here", "_law_field"] (sp_law_part K ca) :=
  ⟨⟨f, fd, okf_law_part F T, gm, F.kp, F.binds (ps := ["_law_card_here", "_law_field"]) fun _ _ _ _ _ _ us hl => match us, hl with | [_, _], _ => rfl⟩⟩
theorem sc_law_deck_is : FnScope ["_law_found", "_law_due", "_law_card_here", "_law_other"] ["_law_found", "_law_due"] (defScope (topS 54)) := ⟨rfl, rfl, rfl, by decide +kernel, rfl, by decide +kernel, by decide +kernel⟩
theorem okf_law_deck_is {f : Addr} {fd : FuncData} (F : Fun K "_law_deck_is" "_law_deck_is" (topS 54) f fd) (T : Txt K mg ca cb) : FnOk P w K mg base CX0 1 f fd ["_law_found", "_law_due"] (sp_law_deck_is K ca) := by
  refine F.ok sc_law_deck_is (fun vs H0 Q E h => ?_) (fun cdv A outer s H0 vs Q E hr h => ?_)
  · obtain ⟨Z0, a_law_found, v_law_found, a_law_due, v_law_due, rfl, _⟩ := h
    rfl
  · obtain ⟨Z0, a_law_found, v_law_found, a_law_due, v_law_due, rfl, zh, h_law_found, h_law_due, hm⟩ := h
    have nd := sc_law_deck_is.nd
    have hm_ := hm.opn; clear hm; obtain ⟨W, WE, hm, hW, hWE⟩ := hm_
    have hS := Sep.start (K := K) zh
    have hS := hS.tel h_law_found
    have hS := hS.tel h_law_due
    unfold m_law_deck_is at hm
    refine ⟨_, (pss_cons (ps_if (ptK (PW.pt (pw_or (pt_not (pt_val (pe_callB call_isi (by rfl) T.b_isinstance (by decide +kernel) (pa_cons (pv 0) (pa_cons (pcK (pe_bltn (v := .ty "list") (by rfl) T.b_list (by decide +kernel) rfl)) pnK))))) (pw_or1 (pt_cmpR op_ne (pe_callB (call_lenK (K := K) rfl) (by rfl) T.b_len PySem.boot_len (pa_cons (pv 0) pnK)) (pe_callB (call_lenK (K := K) rfl) (by rfl) T.b_len PySem.boot_len (pa_cons (pv 1) pnK)) (nomark _)))))) (pss_one (ps_ret (pcK pe_bl))) pss_nil) (pss_cons (ps_for PassesOwn.never rfl (pi_zip rfl T.b_zip (pa_cons (pv 0) (pa_cons (pv 1) pnK))) (pg_tup rfl (pgs_cons (pg_name (i := 2) nd rfl (Or.inl rfl)) (pgs_cons (pg_name (i := 3) nd rfl (Or.inl rfl)) pgs_nil))) (pss_one (ps_if (ptK (PW.pt (pw_or (pt_not (pt_val (pe_callB call_isi (by rfl) T.b_isinstance (by decide +kernel) (pa_cons (pv 2) (pa_cons (pcK (pe_bltn (v := .ty "str") (by rfl) T.b_str (by decide +kernel) rfl)) pnK))))) (pw_or1 (pt_cmpR op_ne (pv 2) (pv 3) (nomark _)))))) (pss_one (ps_ret (pcK pe_bl))) pss_nil))) (pss_one (ps_ret (pcK pe_bl))))), ?_⟩
    refine ⟨trivial, (ansOr (fun _ q => ⟨_, rfl, ⟨trivial, ⟨trivial, (k_isi (b := true) (PtT.pt (α := (List Str)) hS.zh (hS.fact 1 rfl)) (by decide +kernel) ⟨_, rfl, q⟩)⟩⟩⟩) (fun b3 _ q => ⟨_, rfl, ⟨trivial, (k_lenQ hS.zh (hS.fact 1 rfl) ⟨_, rfl, ⟨trivial, (k_lenQ hS.zh (hS.fact 0 rfl) (k_neI ⟨_, rfl, q⟩))⟩⟩)⟩⟩) (ite2 (fun e1 => ?_) (fun e2 => ?_)))⟩
    · skip
      have hm := Good.ifT e1 hm
      refine ⟨trivial, ?_⟩
      exact hW _ hm _ _ hS.st
    · skip
      have hm := Good.ifF e2 hm
      obtain ⟨a4, xs5, ev6, hz7, pr8⟩ := pyL (hS.fact 1 rfl)
      obtain ⟨a9, xs10, ev11, hz12, pr13⟩ := pyL (hS.fact 0 rfl)
      obtain ⟨W15, hm, hWW15⟩ := Good.bndW hm
      refine ⟨_, rfl, ⟨_, rfl, ⟨trivial, ⟨_, _, _, _, by rw [ev6, ev11], SqL.of (hS.zh _ _ hz7), SqL.of (hS.zh _ _ hz12), (forK (Z := Z0) (L := (a_law_found.zip a_law_due)) (src_zip hz7 pr8 hz12 pr13) (fun rr σr Hr Zr => (∃ (w_law_card_here : Option V) (w_law_other : Option V), σr = [some v_law_found, some v_law_due, w_law_card_here, w_law_other] ∧ Sep K Z0 H0 Zr Hr [⟨(Sh.told (α := (List Str))), v_law_found, a_law_found⟩, ⟨(Sh.told (α := (List Str))), v_law_due, a_law_due⟩] ∧ Same Z0 Zr ∧ (Good (forL (fun (s_ : Unit) (q_ : (Str × Str)) => m_law_deck_is_b0 q_.1 q_.2) () rr) W15 WE))) ?_ ?_ ?_ ?_)⟩⟩⟩⟩
      · rintro rr σr Hr Zr hk
        obtain ⟨w_law_card_here, w_law_other, rfl, hS, sm14, hm⟩ := hk
        exact ⟨sm14, hS.zh⟩
      · exact ⟨Z0, (none), (none), rfl, hS.pick [1, 0] (by decide) rfl, Same.refl _, hm⟩
      · skip
        intro q18 r19 x20 sg21 H22 H23 Z24 mem25 dec26 hp27 y28
        obtain ⟨card_here_16, other_17⟩ := q18
        obtain ⟨w_law_card_here, w_law_other, rfl, hS, sm14, hm⟩ := hp27
        obtain ⟨W29, hm, hn30, hb31, hr32⟩ := Good.forL hm
        have hm : Good (m_law_deck_is_b0 card_here_16 other_17) _ _ := hm; unfold m_law_deck_is_b0 at hm
        refine (tgt2 hS.zh y28 (fun v33 v35 h34 h36 st37 => ?_))
        have sm14 := sm14.trans st37.zz
        have hS := hS.step st37
        obtain rfl : v33 = (.str card_here_16) := h34
        obtain rfl : v35 = (.str other_17) := h36
        refine ⟨trivial, (ansOr (fun _ q => ⟨_, rfl, ⟨trivial, ⟨trivial, (k_isi (b := true) (Pt.str _) (by decide +kernel) ⟨_, rfl, q⟩)⟩⟩⟩) (fun b40 _ q => ⟨_, rfl, ⟨_, rfl, (k_neS ⟨_, rfl, q⟩)⟩⟩) (ite2 (fun e38 => ?_) (fun e39 => ?_)))⟩
        · skip
          have hm := Good.ifT e38 hm
          refine ⟨trivial, ?_⟩
          have hm := hr32 _ hm
          have hm := hWW15 _ hm
          exact hW _ hm _ _ hS.st
        · skip
          have hm := Good.ifF e39 hm
          have hm := hn30 _ hm
          exact ⟨_, (some (.str card_here_16)), (some (.str other_17)), rfl, hS.pick [0, 1] (by decide) rfl, sm14, hm⟩
      · intro sg41 H42 Z43 hp44
        obtain ⟨w_law_card_here, w_law_other, rfl, hS, sm14, hm⟩ := hp44
        have hm := hWW15 _ hm
        refine ⟨trivial, ?_⟩
        exact hW _ hm _ _ hS.st
theorem ok_law_deck_is {f : Addr} {fd : FuncData} (F : Fun K "_law_deck_is" "_law_deck_is" (topS 54) f fd) (gm : mg "_law_deck_is" = some (.ref f)) (T : Txt K mg ca cb) : Cal P w K mg base CX0 "_law_deck_is" 1 ["_law_found", "_law_due"] (sp_law_deck_is K ca) :=
  ⟨⟨f, fd, okf_law_deck_is F T, gm, F.kp, F.binds (ps := ["_law_found", "_law_due"]) fun _ _ _ _ _ _ us hl => match us, hl with | [_, _], _ => rfl⟩⟩
theorem sc_law_ordered : FnScope ["_law_deck_here", "_law_field", "_law_found", "_law_card_here", "_law_at"] ["_law_deck_here", "_law_field"] (defScope (topS 55)) := ⟨rfl, rfl, rfl, by decide +kernel, rfl, by decide +kernel, by decide +kernel⟩
theorem okf_law_ordered {f : Addr} {fd : FuncData} (F : Fun K "_law_ordered" "_law_ordered" (topS 55) f fd) (T : Txt K mg ca cb) (C_law_part : Cal P w K mg base CX0 "_law_part" 1 ["_law_card_here", "_law_field"] (sp_law_part K ca)) : FnOk P w K mg base CX0 2 f fd ["_law_deck_here", "_law_field"] (sp_law_ordered K ca) := by
  refine F.ok sc_law_ordered (fun vs H0 Q E h => ?_) (fun cdv A outer s H0 vs Q E hr h => ?_)
  · obtain ⟨Z0, a_law_deck_here, v_law_deck_here, a_law_field, v_law_field, rfl, _⟩ := h
    rfl
  · obtain ⟨Z0, a_law_deck_here, v_law_deck_here, a_law_field, v_law_field, rfl, zh, h_law_deck_here, h_law_field, hm⟩ := h
    have nd := sc_law_ordered.nd
    have hm_ := hm.opn; clear hm; obtain ⟨W, WE, hm, hW, hWE⟩ := hm_
    have hS := Sep.start (K := K) zh
    have hS := hS.tel h_law_deck_here
    have hS := hS.tel h_law_field
    unfold m_law_ordered at hm
    refine ⟨_, (pss_cons (ps_set (i := 2) nd rfl (Or.inl rfl) (pe_lstQ pnK)) (pss_cons (ps_for PassesOwn.never rfl (pi_list (pv 0)) (pg_name (i := 3) nd rfl (Or.inl rfl)) (pss_cons (ps_set (i := 4) nd rfl (Or.inl rfl) (pe_callB (call_lenK (K := K) rfl) (by rfl) T.b_len PySem.boot_len (pa_cons (pv 2) pnK))) (pss_cons (ps_while PassesOwn.never (ptK (PW.pt (pw_and (pt_cmpR op_gt (pv 4) (pcK pe_int) (nomark _)) (pw_and1 (pt_cmpR op_lt_str (pe_cal C_law_part (hr.mono (by decide)) pass0 (pa_cons (pv 3) (pa_cons (pv 1) pnK))) (pe_cal C_law_part (hr.mono (by decide)) pass0 (pa_cons (pe_ix (ix_listK (K := K) rfl) (pv 2) (pe_op op_sub (pv 4) (pcK pe_int)) (fun _ _ => rfl)) (pa_cons (pv 1) pnK))) (nomark _)))))) (pss_one (ps_set (i := 4) nd rfl (Or.inl rfl) (pe_op op_sub (pv 4) (pcK pe_int))))) (pss_one (ps_expr (pe_bm PySem.F.plainAttrs_list PySem.F.slot_list_insert PySem.F.type_list_insert mt_insertQ (pv 2) (pa_cons (pv 4) (pa_cons (pv 3) pnK)))))))) (pss_one (ps_ret (pv 2))))), ?_⟩
    refine ⟨trivial, (k_lst (K := K) (m := ([] : (List Str))) hS.zh .nil (Nat.le_of_ble_eq_true rfl) (New.gen fun found_1 en2 => New.ownS fun p6 ps7 Z3 H4 st5 o8 => ?_))⟩
    have hS := hS.own st5 o8
    refine (tgt1 ?_)
    have hm := Good.vl en2 hm
    obtain ⟨a9, xs10, ev11, hz12, pr13⟩ := pyL (hS.fact 2 rfl)
    obtain ⟨W17, hm, hWW17⟩ := Good.bndW hm
    refine ⟨_, rfl, ⟨_, ev11, ⟨_, SqL.of (hS.zh _ _ hz12)⟩, (forK (Z := Z3) (L := a_law_deck_here) (src_list hz12 pr13) (fun rr σr Hr Zr => (∃ (found_14 : (List Str)) (v15 : V) (w_law_card_here : Option V) (w_law_at : Option V), σr = [some v_law_deck_here, some v_law_field, some v15, w_law_card_here, w_law_at] ∧ Sep K Z0 H0 Zr Hr [⟨(Sh.lt Str), v15, found_14⟩, ⟨(Sh.told (α := (List Str))), v_law_deck_here, a_law_deck_here⟩, ⟨(Sh.told (α := (Int × Int))), v_law_field, a_law_field⟩] ∧ Same Z3 Zr ∧ (Good (forR (fun (s_ : (List Str)) (q_ : Str) => m_law_ordered_b0 a_law_field s_ q_) found_14 rr) W17 WE))) ?_ ?_ ?_ ?_)⟩⟩
    · rintro rr σr Hr Zr hk
      obtain ⟨found_14, v15, w_law_card_here, w_law_at, rfl, hS, sm16, hm⟩ := hk
      obtain ⟨p80, er_⟩ := hS.ref 0 rfl
      subst er_
      exact ⟨sm16, hS.zh⟩
    · exact ⟨Z3, found_1, ((.ref p6)), (none), (none), rfl, hS.pick [0, 2, 1] (by decide) rfl, Same.refl _, hm⟩
    · skip
      intro card_here_18 r19 x20 sg21 H22 H23 Z24 mem25 dec26 hp27 y28
      obtain ⟨found_14, v15, w_law_card_here, w_law_at, rfl, hS, sm16, hm⟩ := hp27
      obtain ⟨p29, er_⟩ := hS.ref 0 rfl
      subst er_
      obtain ⟨W30, hm, hn31⟩ := Good.forR hm
      have hm : Good (m_law_ordered_b0 a_law_field found_14 card_here_18) _ _ := hm; unfold m_law_ordered_b0 at hm
      obtain ⟨rfl, rfl⟩ := y28
      refine (tgt1 ?_)
      refine ⟨_, rfl, ⟨trivial, (k_lenOQ (hS.L 0 rfl) (storeI fun at_36 en37 => ?_))⟩⟩
      have hm := Good.vl en37 hm
      obtain ⟨W40, hm, hWW40⟩ := Good.bndW hm
      refine ⟨fun mm σr Hr => ∃ Zr : Hp, ∃ (at_38 : Int), σr = [some v_law_deck_here, some v_law_field, some (.ref p29), some (.str card_here_18), some (.int at_38)] ∧ Sep K Z0 H0 Zr Hr [⟨(Sh.lt Str), (.ref p29), found_14⟩, ⟨(Sh.told (α := (List Str))), v_law_deck_here, a_law_deck_here⟩, ⟨(Sh.told (α := (Int × Int))), v_law_field, a_law_field⟩] ∧ Same Z24 Zr ∧ (Good (whR (fun (s_ : Int) => m_law_ordered_c1 a_law_field found_14 card_here_18 s_) (fun (s_ : Int) => m_law_ordered_b1 s_) mm at_38) W40 WE), ⟨fuelN, ?_⟩, ?_⟩
      · exact ⟨_, at_36, rfl, hS.pick [0, 1, 2] (by decide) rfl, Same.refl _, hm⟩
      · skip
        rintro mm sg42 H43 ⟨Z45, hp44⟩
        obtain ⟨at_38, rfl, hS, sm41, hm⟩ := hp44
        have sm16 := sm16.trans sm41
        obtain ⟨mn, rfl⟩ := Good.wh0 hm
        obtain ⟨W46, hm, hy47, hn48⟩ := Good.whR hm
        have hm : Good (m_law_ordered_c1 a_law_field found_14 card_here_18 at_38) _ _ := hm; unfold m_law_ordered_c1 at hm
        obtain ⟨W53, hmb, hWW53⟩ := Good.bndW hm
        refine ⟨trivial, testK2 (Z := Z45) (fun z_ => W53 z_) (fun Q_ q54 => ?_) (fun t52 Z55 H56 w58 st57 => ?_)⟩
        · skip
          have hm := hmb
          have sx_ := Step.refl hS.zh
          refine ⟨_, rfl, ⟨trivial, ⟨_, _, rfl, rfl, ⟨_, rfl, (ite2 (fun e59 => ?_) (fun e60 => ?_))⟩⟩⟩⟩
          · skip
            have hm := Good.ifT e59 hm
            refine ⟨_, rfl, ⟨_, rfl, ⟨trivial, ⟨_, _, _, _, rfl, hS.zh, (hS.fact 2 rfl), (Good.bnd hm).imp (fun r49 hm => fun Z61 H62 st63 => ?_) hWE⟩⟩⟩⟩
            have sx_ := sx_.trans st63
            have hS := hS.step st63
            obtain ⟨g50, hm⟩ := Good.chk hm
            refine ⟨_, rfl, ⟨_, rfl, ⟨trivial, ⟨_, _, rfl, rfl, (k_ixOs (hS.L 0 rfl) g50 ⟨_, rfl, ⟨trivial, ⟨_, _, _, _, rfl, hS.zh, (hS.fact 2 rfl), (Good.bnd hm).imp (fun r51 hm => fun Z64 H65 st66 => ?_) hWE⟩⟩⟩)⟩⟩⟩⟩
            have sx_ := sx_.trans st66
            have hS := hS.step st66
            refine ⟨_, _, rfl, rfl, ⟨_, rfl, (q54 _ _ _ hm sx_)⟩⟩
          · have hm := Good.ifF e60 hm
            exact q54 _ _ _ hm sx_
        have hm := hWW53 _ w58
        have sm16 := sm16.trans st57.zz
        have sm41 := sm41.trans st57.zz
        have hS := hS.step st57
        refine (ite2 (fun e67 => ?_) (fun e68 => ?_))
        · skip
          have hm := Good.wt e67 hm
          obtain ⟨W69, hm, hn70⟩ := hy47 hm
          refine ⟨fun σw Hw => ∃ Zw : Hp, ∃ (at_38 : Int), σw = [some v_law_deck_here, some v_law_field, some (.ref p29), some (.str card_here_18), some (.int at_38)] ∧ Sep K Z0 H0 Zw Hw [⟨(Sh.lt Str), (.ref p29), found_14⟩, ⟨(Sh.told (α := (List Str))), v_law_deck_here, a_law_deck_here⟩, ⟨(Sh.told (α := (Int × Int))), v_law_field, a_law_field⟩] ∧ Same Z24 Zw ∧ (Good (whR (fun (s_ : Int) => m_law_ordered_c1 a_law_field found_14 card_here_18 s_) (fun (s_ : Int) => m_law_ordered_b1 s_) mn at_38) W40 WE), fun σw Hw q_ => ⟨mn, Nat.lt_succ_self _, q_⟩, ?_⟩
          have hm : Good (m_law_ordered_b1 at_38) _ _ := hm; unfold m_law_ordered_b1 at hm
          refine ⟨_, rfl, ⟨trivial, ⟨_, _, rfl, rfl, (storeI fun at_73 en74 => ?_)⟩⟩⟩
          have hm := Good.vl en74 hm
          have hm := hn70 _ hm
          exact ⟨_, at_73, rfl, hS.pick [0, 1, 2] (by decide) rfl, sm41, hm⟩
        · skip
          have hm := Good.wf e68 hm
          have hm := hWW40 _ (hn48 hm)
          obtain ⟨g77, hm⟩ := Good.chk hm
          refine ⟨_, rfl, ⟨tyO (hS.L 0 rfl), ⟨_, rfl, ⟨_, rfl, ⟨trivial, (k_insertQ (i := at_38) (a := card_here_18) (hS.L 0 rfl) rfl g77.1 g77.2 fun u75 o76 => ?_)⟩⟩⟩⟩⟩
          have hS := hS.mutL 0 rfl o76; dsimp only [List.set] at hS
          obtain ⟨found_78, en79⟩ : ∃ z, z = (insI found_14 at_38 card_here_18) := ⟨_, rfl⟩
          rw [← en79] at hS
          have hm := Good.vl en79 hm
          have hm := hn31 _ hm
          exact ⟨_, found_78, ((.ref p29)), (some (.str card_here_18)), (some (.int at_38)), rfl, hS.pick [0, 1, 2] (by decide) rfl, sm16, hm⟩
    · intro sg81 H82 Z83 hp84
      obtain ⟨found_14, v15, w_law_card_here, w_law_at, rfl, hS, sm16, hm⟩ := hp84
      obtain ⟨p85, er_⟩ := hS.ref 0 rfl
      subst er_
      have hm := hWW17 _ hm
      refine ⟨_, rfl, ?_⟩
      obtain ⟨ps_, o_⟩ := hS.nth 0 rfl
      exact hW _ hm _ _ _ _ hS.st o_
theorem ok_law_ordered {f : Addr} {fd : FuncData} (F : Fun K "_law_ordered" "_law_ordered" (topS 55) f fd) (gm : mg "_law_ordered" = some (.ref f)) (T : Txt K mg ca cb) (C_law_part : Cal P w K mg base CX0 "_law_part" 1 ["_law_card_here", "_law_field"] (sp_law_part K ca)) : Cal P w K mg base CX0 "_law_ordered" 2 ["_law_deck_here", "_law_field"] (sp_law_ordered K ca) :=
  ⟨⟨f, fd, okf_law_ordered F T C_law_part, gm, F.kp, F.binds (ps := ["_law_deck_here", "_law_field"]) fun _ _ _ _ _ _ us hl => match us, hl with | [_, _], _ => rfl⟩⟩
theorem sc_law_is_other_NoField : FnScope ["_law_e"] ["_law_e"] (defScope (topS 56)) := ⟨rfl, rfl, rfl, by decide +kernel, rfl, by decide +kernel, by decide +kernel⟩
theorem okf_law_is_other_NoField {f : Addr} {fd : FuncData} (F : Fun K "_law_is_other" "_law_is_other" (topS 56) f fd) (T : Txt K mg ca cb) : FnC P w K mg base 1 f fd ["_law_e"] (sp_law_is_other_NoField K ca) := by
  refine Cd.Fun.okN F sc_law_is_other_NoField (fun p_ vs H0 Q E h => ?_) (fun cdv A outer s H0 p_ vs Q E hr hc_ h => ?_)
  · obtain ⟨Z0, x_a, rfl, _⟩ := h
    rfl
  · obtain ⟨Z0, x_a, rfl, zh, h_rf, hm⟩ := h
    have nd := sc_law_is_other_NoField.nd
    have hm_ := hm.opn; clear hm; obtain ⟨W, WE, hm, hW, hWE⟩ := hm_
    have hS := Sep.start (K := K) zh
    unfold m_law_is_other_NoField at hm
    refine ⟨_, (pss_cons (ps_if (ptK (PW.pt (pw_or (pt_val (pe_callB (call_isPx (K := K) rfl (List.mem_singleton.mpr rfl) h_rf) (by rfl) T.b_isinstance (by decide +kernel) (pa_cons (pv 0) (pa_cons (pcK (pe_glob (v := .ref ca.Meet) rfl T.gx_Meet rfl)) pnK)))) (pw_or (pt_val (pe_callB (call_isPx (K := K) rfl (List.mem_singleton.mpr rfl) h_rf) (by rfl) T.b_isinstance (by decide +kernel) (pa_cons (pv 0) (pa_cons (pcK (pe_glob (v := .ref ca.NoAsking) rfl T.gx_NoAsking rfl)) pnK)))) (pw_or (pt_val (pe_callB (call_isPx (K := K) rfl (List.mem_singleton.mpr rfl) h_rf) (by rfl) T.b_isinstance (by decide +kernel) (pa_cons (pv 0) (pa_cons (pcK (pe_glob (v := .ref ca.NoBoard) rfl T.gx_NoBoard rfl)) pnK)))) (pw_or1 (pt_val (pe_callB (call_isPx (K := K) rfl (List.mem_singleton.mpr rfl) h_rf) (by rfl) T.b_isinstance (by decide +kernel) (pa_cons (pv 0) (pa_cons (pcK (pe_glob (v := .ref ca.NoCard) rfl T.gx_NoCard rfl)) pnK)))))))))) (pss_one (ps_ret (pcK pe_bl))) pss_nil) (pss_one (ps_ret (puK (pe_or (pe_callB (call_isPx (K := K) rfl (List.mem_singleton.mpr rfl) h_rf) (by rfl) T.b_isinstance (by decide +kernel) (pa_cons (pv 0) (pa_cons (pcK (pe_glob (v := .ref ca.NoField) rfl T.gx_NoField rfl)) pnK))) (pe_or pe_never (pe_or pe_never (pe_one pe_never)))))))), ?_⟩
    refine ⟨trivial, (ansOr (fun _ q => ⟨_, rfl, ⟨trivial, ⟨trivial, (k_isEx (.inl rfl) T.xc_NoField (fun _ h => h) T.ki_NoField_Meet ⟨_, rfl, q⟩)⟩⟩⟩) (fun b3 _ q => (ansOr (fun _ q => ⟨_, rfl, ⟨trivial, ⟨trivial, (k_isEx (.inl rfl) T.xc_NoField (fun _ h => h) T.ki_NoField_NoAsking ⟨_, rfl, q⟩)⟩⟩⟩) (fun b4 _ q => (ansOr (fun _ q => ⟨_, rfl, ⟨trivial, ⟨trivial, (k_isEx (.inl rfl) T.xc_NoField (fun _ h => h) T.ki_NoField_NoBoard ⟨_, rfl, q⟩)⟩⟩⟩) (fun b5 _ q => ⟨_, rfl, ⟨trivial, ⟨trivial, (k_isEx (.inl rfl) T.xc_NoField (fun _ h => h) T.ki_NoField_NoCard ⟨_, rfl, q⟩)⟩⟩⟩) q)) q)) (ite2 (fun e1 => ?_) (fun e2 => ?_)))⟩
    · skip
      have hm := Good.ifT e1 hm
      refine ⟨trivial, ?_⟩
      exact hW _ hm _ _ hS.st
    · skip
      have hm := Good.ifF e2 hm
      refine ⟨trivial, (valOr (b2 := false) (fun _ q => ⟨_, rfl, ⟨trivial, ⟨trivial, (k_isEx (.inl rfl) T.xc_NoField (fun _ h => h) T.ki_NoField_NoField q)⟩⟩⟩) (fun h => absurd h (by decide)) ?_)⟩
      exact hW _ hm _ _ hS.st
theorem ok_law_is_other_NoField {f : Addr} {fd : FuncData} (F : Fun K "_law_is_other" "_law_is_other" (topS 56) f fd) (gm : mg "_law_is_other" = some (.ref f)) (T : Txt K mg ca cb) : CalC P w K mg base "_law_is_other" 1 ["_law_e"] (sp_law_is_other_NoField K ca) :=
  ⟨⟨f, fd, okf_law_is_other_NoField F T, gm, F.kp, F.binds (ps := ["_law_e"]) fun _ _ _ _ _ _ us hl => match us, hl with | [_], _ => rfl⟩⟩
theorem sc_law_is_other_NoOrder : FnScope ["_law_e"] ["_law_e"] (defScope (topS 56)) := ⟨rfl, rfl, rfl, by decide +kernel, rfl, by decide +kernel, by decide +kernel⟩
theorem okf_law_is_other_NoOrder {f : Addr} {fd : FuncData} (F : Fun K "_law_is_other" "_law_is_other" (topS 56) f fd) (T : Txt K mg ca cb) : FnC P w K mg base 1 f fd ["_law_e"] (sp_law_is_other_NoOrder K ca) := by
  refine Cd.Fun.okN F sc_law_is_other_NoOrder (fun p_ vs H0 Q E h => ?_) (fun cdv A outer s H0 p_ vs Q E hr hc_ h => ?_)
  · obtain ⟨Z0, x_a, d_a, a_law_e1, a_law_e2, rfl, _⟩ := h
    rfl
  · obtain ⟨Z0, x_a, d_a, a_law_e1, a_law_e2, rfl, zh, h_rf, h_xd, hm⟩ := h
    have nd := sc_law_is_other_NoOrder.nd
    have hm_ := hm.opn; clear hm; obtain ⟨W, WE, hm, hW, hWE⟩ := hm_
    have hS := Sep.start (K := K) zh
    have hS := hS.tel h_xd
    unfold m_law_is_other_NoOrder at hm
    refine ⟨_, (pss_cons (ps_if (ptK (PW.pt (pw_or (pt_val (pe_callB (call_isPx (K := K) rfl (List.mem_singleton.mpr rfl) h_rf) (by rfl) T.b_isinstance (by decide +kernel) (pa_cons (pv 0) (pa_cons (pcK (pe_glob (v := .ref ca.Meet) rfl T.gx_Meet rfl)) pnK)))) (pw_or (pt_val (pe_callB (call_isPx (K := K) rfl (List.mem_singleton.mpr rfl) h_rf) (by rfl) T.b_isinstance (by decide +kernel) (pa_cons (pv 0) (pa_cons (pcK (pe_glob (v := .ref ca.NoAsking) rfl T.gx_NoAsking rfl)) pnK)))) (pw_or (pt_val (pe_callB (call_isPx (K := K) rfl (List.mem_singleton.mpr rfl) h_rf) (by rfl) T.b_isinstance (by decide +kernel) (pa_cons (pv 0) (pa_cons (pcK (pe_glob (v := .ref ca.NoBoard) rfl T.gx_NoBoard rfl)) pnK)))) (pw_or1 (pt_val (pe_callB (call_isPx (K := K) rfl (List.mem_singleton.mpr rfl) h_rf) (by rfl) T.b_isinstance (by decide +kernel) (pa_cons (pv 0) (pa_cons (pcK (pe_glob (v := .ref ca.NoCard) rfl T.gx_NoCard rfl)) pnK)))))))))) (pss_one (ps_ret (pcK pe_bl))) pss_nil) (pss_one (ps_ret (puK (pe_or (pe_callB (call_isPx (K := K) rfl (List.mem_singleton.mpr rfl) h_rf) (by rfl) T.b_isinstance (by decide +kernel) (pa_cons (pv 0) (pa_cons (pcK (pe_glob (v := .ref ca.NoField) rfl T.gx_NoField rfl)) pnK))) (pe_or (pe_callB (call_isPx (K := K) rfl (List.mem_singleton.mpr rfl) h_rf) (by rfl) T.b_isinstance (by decide +kernel) (pa_cons (pv 0) (pa_cons (pcK (pe_glob (v := .ref ca.NoPlan) rfl T.gx_NoPlan rfl)) pnK))) (pe_or (pe_callB (call_isPx (K := K) rfl (List.mem_singleton.mpr rfl) h_rf) (by rfl) T.b_isinstance (by decide +kernel) (pa_cons (pv 0) (pa_cons (pcK (pe_glob (v := .ref ca.NoRow) rfl T.gx_NoRow rfl)) pnK))) (pe_one (pe_callB (call_isPx (K := K) rfl (List.mem_singleton.mpr rfl) h_rf) (by rfl) T.b_isinstance (by decide +kernel) (pa_cons (pv 0) (pa_cons (pcK (pe_glob (v := .ref ca.NoTray) rfl T.gx_NoTray rfl)) pnK))))))))))), ?_⟩
    refine ⟨trivial, (ansOr (fun _ q => ⟨_, rfl, ⟨trivial, ⟨trivial, (k_isEx (.inr ⟨_, _, rfl, xd_at hS.zh (hS.fact 0 rfl)⟩) T.xc_NoOrder (fun _ h => h) T.ki_NoOrder_Meet ⟨_, rfl, q⟩)⟩⟩⟩) (fun b3 _ q => (ansOr (fun _ q => ⟨_, rfl, ⟨trivial, ⟨trivial, (k_isEx (.inr ⟨_, _, rfl, xd_at hS.zh (hS.fact 0 rfl)⟩) T.xc_NoOrder (fun _ h => h) T.ki_NoOrder_NoAsking ⟨_, rfl, q⟩)⟩⟩⟩) (fun b4 _ q => (ansOr (fun _ q => ⟨_, rfl, ⟨trivial, ⟨trivial, (k_isEx (.inr ⟨_, _, rfl, xd_at hS.zh (hS.fact 0 rfl)⟩) T.xc_NoOrder (fun _ h => h) T.ki_NoOrder_NoBoard ⟨_, rfl, q⟩)⟩⟩⟩) (fun b5 _ q => ⟨_, rfl, ⟨trivial, ⟨trivial, (k_isEx (.inr ⟨_, _, rfl, xd_at hS.zh (hS.fact 0 rfl)⟩) T.xc_NoOrder (fun _ h => h) T.ki_NoOrder_NoCard ⟨_, rfl, q⟩)⟩⟩⟩) q)) q)) (ite2 (fun e1 => ?_) (fun e2 => ?_)))⟩
    · skip
      have hm := Good.ifT e1 hm
      refine ⟨trivial, ?_⟩
      exact hW _ hm _ _ hS.st
    · skip
      have hm := Good.ifF e2 hm
      refine ⟨trivial, (valOr (fun _ q => ⟨_, rfl, ⟨trivial, ⟨trivial, (k_isEx (.inr ⟨_, _, rfl, xd_at hS.zh (hS.fact 0 rfl)⟩) T.xc_NoOrder (fun _ h => h) T.ki_NoOrder_NoField q)⟩⟩⟩) (fun b6 _ q => (valOr (fun _ q => ⟨_, rfl, ⟨trivial, ⟨trivial, (k_isEx (.inr ⟨_, _, rfl, xd_at hS.zh (hS.fact 0 rfl)⟩) T.xc_NoOrder (fun _ h => h) T.ki_NoOrder_NoPlan q)⟩⟩⟩) (fun b7 _ q => (valOr (fun _ q => ⟨_, rfl, ⟨trivial, ⟨trivial, (k_isEx (.inr ⟨_, _, rfl, xd_at hS.zh (hS.fact 0 rfl)⟩) T.xc_NoOrder (fun _ h => h) T.ki_NoOrder_NoRow q)⟩⟩⟩) (fun b8 _ q => ⟨_, rfl, ⟨trivial, ⟨trivial, (k_isEx (.inr ⟨_, _, rfl, xd_at hS.zh (hS.fact 0 rfl)⟩) T.xc_NoOrder (fun _ h => h) T.ki_NoOrder_NoTray q)⟩⟩⟩) q)) q)) ?_)⟩
      exact hW _ hm _ _ hS.st
theorem ok_law_is_other_NoOrder {f : Addr} {fd : FuncData} (F : Fun K "_law_is_other" "_law_is_other" (topS 56) f fd) (gm : mg "_law_is_other" = some (.ref f)) (T : Txt K mg ca cb) : CalC P w K mg base "_law_is_other" 1 ["_law_e"] (sp_law_is_other_NoOrder K ca) :=
  ⟨⟨f, fd, okf_law_is_other_NoOrder F T, gm, F.kp, F.binds (ps := ["_law_e"]) fun _ _ _ _ _ _ us hl => match us, hl with | [_], _ => rfl⟩⟩
theorem sc_law_is_other_NoTray : FnScope ["_law_e"] ["_law_e"] (defScope (topS 56)) := ⟨rfl, rfl, rfl, by decide +kernel, rfl, by decide +kernel, by decide +kernel⟩
theorem okf_law_is_other_NoTray {f : Addr} {fd : FuncData} (F : Fun K "_law_is_other" "_law_is_other" (topS 56) f fd) (T : Txt K mg ca cb) : FnC P w K mg base 1 f fd ["_law_e"] (sp_law_is_other_NoTray K ca) := by
  refine Cd.Fun.okN F sc_law_is_other_NoTray (fun p_ vs H0 Q E h => ?_) (fun cdv A outer s H0 p_ vs Q E hr hc_ h => ?_)
  · obtain ⟨Z0, x_a, rfl, _⟩ := h
    rfl
  · obtain ⟨Z0, x_a, rfl, zh, h_rf, hm⟩ := h
    have nd := sc_law_is_other_NoTray.nd
    have hm_ := hm.opn; clear hm; obtain ⟨W, WE, hm, hW, hWE⟩ := hm_
    have hS := Sep.start (K := K) zh
    unfold m_law_is_other_NoTray at hm
    refine ⟨_, (pss_cons (ps_if (ptK (PW.pt (pw_or (pt_val (pe_callB (call_isPx (K := K) rfl (List.mem_singleton.mpr rfl) h_rf) (by rfl) T.b_isinstance (by decide +kernel) (pa_cons (pv 0) (pa_cons (pcK (pe_glob (v := .ref ca.Meet) rfl T.gx_Meet rfl)) pnK)))) (pw_or (pt_val (pe_callB (call_isPx (K := K) rfl (List.mem_singleton.mpr rfl) h_rf) (by rfl) T.b_isinstance (by decide +kernel) (pa_cons (pv 0) (pa_cons (pcK (pe_glob (v := .ref ca.NoAsking) rfl T.gx_NoAsking rfl)) pnK)))) (pw_or (pt_val (pe_callB (call_isPx (K := K) rfl (List.mem_singleton.mpr rfl) h_rf) (by rfl) T.b_isinstance (by decide +kernel) (pa_cons (pv 0) (pa_cons (pcK (pe_glob (v := .ref ca.NoBoard) rfl T.gx_NoBoard rfl)) pnK)))) (pw_or1 (pt_val (pe_callB (call_isPx (K := K) rfl (List.mem_singleton.mpr rfl) h_rf) (by rfl) T.b_isinstance (by decide +kernel) (pa_cons (pv 0) (pa_cons (pcK (pe_glob (v := .ref ca.NoCard) rfl T.gx_NoCard rfl)) pnK)))))))))) (pss_one (ps_ret (pcK pe_bl))) pss_nil) (pss_one (ps_ret (puK (pe_or (pe_callB (call_isPx (K := K) rfl (List.mem_singleton.mpr rfl) h_rf) (by rfl) T.b_isinstance (by decide +kernel) (pa_cons (pv 0) (pa_cons (pcK (pe_glob (v := .ref ca.NoField) rfl T.gx_NoField rfl)) pnK))) (pe_or (pe_callB (call_isPx (K := K) rfl (List.mem_singleton.mpr rfl) h_rf) (by rfl) T.b_isinstance (by decide +kernel) (pa_cons (pv 0) (pa_cons (pcK (pe_glob (v := .ref ca.NoPlan) rfl T.gx_NoPlan rfl)) pnK))) (pe_or (pe_callB (call_isPx (K := K) rfl (List.mem_singleton.mpr rfl) h_rf) (by rfl) T.b_isinstance (by decide +kernel) (pa_cons (pv 0) (pa_cons (pcK (pe_glob (v := .ref ca.NoRow) rfl T.gx_NoRow rfl)) pnK))) (pe_one (pe_callB (call_isPx (K := K) rfl (List.mem_singleton.mpr rfl) h_rf) (by rfl) T.b_isinstance (by decide +kernel) (pa_cons (pv 0) (pa_cons (pcK (pe_glob (v := .ref ca.NoTray) rfl T.gx_NoTray rfl)) pnK))))))))))), ?_⟩
    refine ⟨trivial, (ansOr (fun _ q => ⟨_, rfl, ⟨trivial, ⟨trivial, (k_isEx (.inl rfl) T.xc_NoTray (fun _ h => h) T.ki_NoTray_Meet ⟨_, rfl, q⟩)⟩⟩⟩) (fun b3 _ q => (ansOr (fun _ q => ⟨_, rfl, ⟨trivial, ⟨trivial, (k_isEx (.inl rfl) T.xc_NoTray (fun _ h => h) T.ki_NoTray_NoAsking ⟨_, rfl, q⟩)⟩⟩⟩) (fun b4 _ q => (ansOr (fun _ q => ⟨_, rfl, ⟨trivial, ⟨trivial, (k_isEx (.inl rfl) T.xc_NoTray (fun _ h => h) T.ki_NoTray_NoBoard ⟨_, rfl, q⟩)⟩⟩⟩) (fun b5 _ q => ⟨_, rfl, ⟨trivial, ⟨trivial, (k_isEx (.inl rfl) T.xc_NoTray (fun _ h => h) T.ki_NoTray_NoCard ⟨_, rfl, q⟩)⟩⟩⟩) q)) q)) (ite2 (fun e1 => ?_) (fun e2 => ?_)))⟩
    · skip
      have hm := Good.ifT e1 hm
      refine ⟨trivial, ?_⟩
      exact hW _ hm _ _ hS.st
    · skip
      have hm := Good.ifF e2 hm
      refine ⟨trivial, (valOr (fun _ q => ⟨_, rfl, ⟨trivial, ⟨trivial, (k_isEx (.inl rfl) T.xc_NoTray (fun _ h => h) T.ki_NoTray_NoField q)⟩⟩⟩) (fun b6 _ q => (valOr (fun _ q => ⟨_, rfl, ⟨trivial, ⟨trivial, (k_isEx (.inl rfl) T.xc_NoTray (fun _ h => h) T.ki_NoTray_NoPlan q)⟩⟩⟩) (fun b7 _ q => (valOr (fun _ q => ⟨_, rfl, ⟨trivial, ⟨trivial, (k_isEx (.inl rfl) T.xc_NoTray (fun _ h => h) T.ki_NoTray_NoRow q)⟩⟩⟩) (fun b8 _ q => ⟨_, rfl, ⟨trivial, ⟨trivial, (k_isEx (.inl rfl) T.xc_NoTray (fun _ h => h) T.ki_NoTray_NoTray q)⟩⟩⟩) q)) q)) ?_)⟩
      exact hW _ hm _ _ hS.st
theorem ok_law_is_other_NoTray {f : Addr} {fd : FuncData} (F : Fun K "_law_is_other" "_law_is_other" (topS 56) f fd) (gm : mg "_law_is_other" = some (.ref f)) (T : Txt K mg ca cb) : CalC P w K mg base "_law_is_other" 1 ["_law_e"] (sp_law_is_other_NoTray K ca) :=
  ⟨⟨f, fd, okf_law_is_other_NoTray F T, gm, F.kp, F.binds (ps := ["_law_e"]) fun _ _ _ _ _ _ us hl => match us, hl with | [_], _ => rfl⟩⟩
theorem sc_law_fields : FnScope ["_law_cell", "_law_number", "_law_width", "_law_first", "_law_other"] ["_law_cell"] (defScope (topS 57)) := ⟨rfl, rfl, rfl, by decide +kernel, rfl, by decide +kernel, by decide +kernel⟩
theorem okf_law_fields {f : Addr} {fd : FuncData} (F : Fun K "_law_fields" "_law_fields" (topS 57) f fd) (T : Txt K mg ca cb) : FnOk P w K mg base CX0 1 f fd ["_law_cell"] (sp_law_fields K ca) := by
  refine F.ok sc_law_fields (fun vs H0 Q E h => ?_) (fun cdv A outer s H0 vs Q E hr h => ?_)
  · obtain ⟨Z0, a_law_cell, rfl, _⟩ := h
    rfl
  · obtain ⟨Z0, a_law_cell, rfl, zh, hm⟩ := h
    have nd := sc_law_fields.nd
    have hm_ := hm.opn; clear hm; obtain ⟨W, WE, hm, hW, hWE⟩ := hm_
    have hS := Sep.start (K := K) zh
    unfold m_law_fields at hm
    refine ⟨_, (pss_cons (ps_set (i := 1) nd rfl (Or.inl rfl) (pe_op op_mod (pe_op op_mulC (pe_op op_add (pe_op op_mod (pv 0) (pcK pe_int)) (pcK pe_int)) (pcK pe_int)) (pcK pe_int))) (pss_cons (ps_set (i := 2) nd rfl (Or.inl rfl) (pe_op op_add (pcK pe_int) (pe_op op_mod (pv 1) (pcK pe_int)))) (Evl.pss_cut (ps_if (pt_cmpR op_eq (pe_op op_mod (pe_op op_fdiv (pv 1) (pcK pe_int)) (pcK pe_int)) (pcK pe_int) (nomark _)) (pss_one (ps_set (i := 2) nd rfl (Or.inl rfl) (pcK pe_int))) pss_nil) (pss_cons (ps_set (i := 3) nd rfl (Or.inl rfl) (pe_op op_add (pcK pe_int) (pe_op op_mod (pe_op op_fdiv (pv 1) (pcK pe_int)) (pe_op op_sub (pcK pe_int) (pv 2))))) (pss_cons (ps_set (i := 4) nd rfl (Or.inl rfl) (pe_op op_add (pcK pe_int) (pe_op op_mod (pe_op op_fdiv (pv 1) (pcK pe_int)) (pe_op op_sub (pcK pe_int) (pv 2))))) (Evl.pss_cut (ps_if (pt_cmpR op_eq (pe_op op_mod (pe_op op_fdiv (pv 1) (pcK pe_int)) (pcK pe_int)) (pcK pe_int) (nomark _)) (pss_one (ps_set (i := 4) nd rfl (Or.inl rfl) (pv 3))) pss_nil) (pss_one (ps_ret (pe_tupQ (pa_cons (pe_tupQ (pa_cons (pv 3) (pa_cons (pe_op op_sub (pe_op op_add (pv 3) (pv 2)) (pcK pe_int)) pnK))) (pa_cons (pe_tupQ (pa_cons (pv 4) (pa_cons (pe_op op_sub (pe_op op_add (pv 4) (pv 2)) (pcK pe_int)) pnK))) pnK))))))))))), ?_⟩
    refine ⟨_, rfl, ⟨trivial, ⟨_, _, rfl, rfl, (show (0 : Int) < (2147483647 : Int) from (by decide)), ⟨trivial, ⟨_, _, rfl, rfl, ⟨trivial, ⟨_, _, rfl, rfl, (mulR ⟨by decide, by decide⟩), ⟨trivial, ⟨_, _, rfl, rfl, (show (0 : Int) < (2147483647 : Int) from (by decide)), (storeI fun number_1 en2 => ?_)⟩⟩⟩⟩⟩⟩⟩⟩⟩
    have hm := Good.vl en2 hm
    refine ⟨trivial, ⟨_, rfl, ⟨trivial, ⟨_, _, rfl, rfl, (show (0 : Int) < (3 : Int) from (by decide)), ⟨_, _, rfl, rfl, (storeI fun width_3 en4 => ?_)⟩⟩⟩⟩⟩
    have hm := Good.vl en4 hm
    refine ⟨fun σj Hj => ∃ Zr_ : Hp, ∃ (width_5 : Int), σj = [some (.int a_law_cell), some (.int number_1), some (.int width_5), none, none] ∧ Sep K Z0 H0 Zr_ Hj [] ∧ (Good (m_law_fields_j0 number_1 width_5) W WE), ?_, fun σj Hj hj => ?_⟩
    · skip
      obtain ⟨W7, hm, hWW7⟩ := Good.bndW hm
      refine ⟨_, rfl, ⟨trivial, ⟨_, _, rfl, rfl, ⟨by decide, by decide⟩, ⟨trivial, ⟨_, _, rfl, rfl, (show (0 : Int) < (9 : Int) from (by decide)), ⟨trivial, (k_eqI ⟨_, rfl, (ite2 (fun e8 => ?_) (fun e9 => ?_))⟩)⟩⟩⟩⟩⟩⟩
      · skip
        have hm := Good.ifT e8 hm
        refine ⟨trivial, (storeI fun width_10 en11 => ?_)⟩
        have hm := Good.vl en11 hm
        have hm := hWW7 _ hm
        exact ⟨_, width_10, rfl, hS.pick [] (by decide) rfl, hm⟩
      · skip
        have hm := Good.ifF e9 hm
        have hm := hWW7 _ hm
        exact ⟨_, width_3, rfl, hS.pick [] (by decide) rfl, hm⟩
    · skip
      obtain ⟨Zj_, width_5, rfl, hS, hm⟩ := hj
      unfold m_law_fields_j0 at hm
      obtain ⟨g12, hm⟩ := Good.chk hm
      refine ⟨trivial, ⟨_, rfl, ⟨trivial, ⟨_, _, rfl, rfl, ⟨by decide, by decide⟩, ⟨trivial, ⟨_, rfl, ⟨_, _, rfl, rfl, ⟨_, _, rfl, rfl, (show (0 : Int) < ((37 : Int) - width_5) from g12), ⟨_, _, rfl, rfl, (storeI fun first_13 en14 => ?_)⟩⟩⟩⟩⟩⟩⟩⟩⟩
      have hm := Good.vl en14 hm
      obtain ⟨g15, hm⟩ := Good.chk hm
      refine ⟨trivial, ⟨_, rfl, ⟨trivial, ⟨_, _, rfl, rfl, ⟨by decide, by decide⟩, ⟨trivial, ⟨_, rfl, ⟨_, _, rfl, rfl, ⟨_, _, rfl, rfl, (show (0 : Int) < ((37 : Int) - width_5) from g15), ⟨_, _, rfl, rfl, (storeI fun other_16 en17 => ?_)⟩⟩⟩⟩⟩⟩⟩⟩⟩
      have hm := Good.vl en17 hm
      refine ⟨fun σj Hj => ∃ Zr_ : Hp, ∃ (other_18 : Int), σj = [some (.int a_law_cell), some (.int number_1), some (.int width_5), some (.int first_13), some (.int other_18)] ∧ Sep K Z0 H0 Zr_ Hj [] ∧ (Good (m_law_fields_j1 width_5 first_13 other_18) W WE), ?_, fun σj Hj hj => ?_⟩
      · skip
        obtain ⟨W20, hm, hWW20⟩ := Good.bndW hm
        refine ⟨_, rfl, ⟨trivial, ⟨_, _, rfl, rfl, ⟨by decide, by decide⟩, ⟨trivial, ⟨_, _, rfl, rfl, (show (0 : Int) < (5 : Int) from (by decide)), ⟨trivial, (k_eqI ⟨_, rfl, (ite2 (fun e21 => ?_) (fun e22 => ?_))⟩)⟩⟩⟩⟩⟩⟩
        · skip
          have hm := Good.ifT e21 hm
          refine ⟨_, rfl, (storeI fun other_23 en24 => ?_)⟩
          have hm := Good.vl en24 hm
          have hm := hWW20 _ hm
          exact ⟨_, other_23, rfl, hS.pick [] (by decide) rfl, hm⟩
        · skip
          have hm := Good.ifF e22 hm
          have hm := hWW20 _ hm
          exact ⟨_, other_16, rfl, hS.pick [] (by decide) rfl, hm⟩
      · skip
        obtain ⟨Zj_, other_18, rfl, hS, hm⟩ := hj
        unfold m_law_fields_j1 at hm
        refine ⟨_, rfl, ⟨_, rfl, ⟨_, rfl, ⟨_, _, rfl, rfl, ⟨trivial, ⟨_, _, rfl, rfl, ⟨trivial, (k_tup (K := K) (a := first_13) (b := ((first_13 + width_5) - (1 : Int))) hS.zh rfl rfl (fun v28 Z25 H26 st27 hv28 => ?_))⟩⟩⟩⟩⟩⟩⟩
        have hS := (hS.step st27).tel (a := (first_13, ((first_13 + width_5) - (1 : Int)))) hv28
        refine ⟨_, rfl, ⟨_, rfl, ⟨_, rfl, ⟨_, _, rfl, rfl, ⟨trivial, ⟨_, _, rfl, rfl, ⟨trivial, (k_tup (K := K) (a := other_18) (b := ((other_18 + width_5) - (1 : Int))) hS.zh rfl rfl (fun v32 Z29 H30 st31 hv32 => ?_))⟩⟩⟩⟩⟩⟩⟩
        have hS := (hS.step st31).tel (a := (other_18, ((other_18 + width_5) - (1 : Int)))) hv32
        refine ⟨trivial, (k_tup (K := K) (a := (first_13, ((first_13 + width_5) - (1 : Int)))) (b := (other_18, ((other_18 + width_5) - (1 : Int)))) hS.zh (hS.fact 1 rfl) (hS.fact 0 rfl) (fun v36 Z33 H34 st35 hv36 => ?_))⟩
        have hS := (hS.step st35).tel (a := ((first_13, ((first_13 + width_5) - (1 : Int))), (other_18, ((other_18 + width_5) - (1 : Int))))) hv36
        exact hW _ hm _ _ _ hS.st (hS.fact 0 rfl)
theorem ok_law_fields {f : Addr} {fd : FuncData} (F : Fun K "_law_fields" "_law_fields" (topS 57) f fd) (gm : mg "_law_fields" = some (.ref f)) (T : Txt K mg ca cb) : Cal P w K mg base CX0 "_law_fields" 1 ["_law_cell"] (sp_law_fields K ca) :=
  ⟨⟨f, fd, okf_law_fields F T, gm, F.kp, F.binds (ps := ["_law_cell"]) fun _ _ _ _ _ _ us hl => match us, hl with | [_], _ => rfl⟩⟩
theorem sc_law_out : FnScope ["_law_deck_here", "_law_field", "_law_k"] ["_law_deck_here", "_law_field"] (defScope (topS 58)) := ⟨rfl, rfl, rfl, by decide +kernel, rfl, by decide +kernel, by decide +kernel⟩
theorem okf_law_out {f : Addr} {fd : FuncData} (F : Fun K "_law_out" "_law_out" (topS 58) f fd) (T : Txt K mg ca cb) (C_law_part : Cal P w K mg base CX0 "_law_part" 1 ["_law_card_here", "_law_field"] (sp_law_part K ca)) : FnOk P w K mg base CX0 2 f fd ["_law_deck_here", "_law_field"] (sp_law_out K ca) := by
  refine F.ok sc_law_out (fun vs H0 Q E h => ?_) (fun cdv A outer s H0 vs Q E hr h => ?_)
  · obtain ⟨Z0, a_law_deck_here, v_law_deck_here, a_law_field, v_law_field, rfl, _⟩ := h
    rfl
  · obtain ⟨Z0, a_law_deck_here, v_law_deck_here, a_law_field, v_law_field, rfl, zh, h_law_deck_here, h_law_field, hm⟩ := h
    have nd := sc_law_out.nd
    have hm_ := hm.opn; clear hm; obtain ⟨W, WE, hm, hW, hWE⟩ := hm_
    have hS := Sep.start (K := K) zh
    have hS := hS.tel h_law_deck_here
    have hS := hS.tel h_law_field
    unfold m_law_out at hm
    refine ⟨_, (pss_cons (ps_for PassesOwn.never rfl (pi_range2 rfl T.b_range (pa_cons (pcK pe_int) (pa_cons (pe_callB (call_lenK (K := K) rfl) (by rfl) T.b_len PySem.boot_len (pa_cons (pv 0) pnK)) pnK))) (pg_name (i := 2) nd rfl (Or.inl rfl)) (pss_one (ps_if (ptK (pt_cmpR op_lt_str (pe_cal C_law_part (hr.mono (by decide)) pass0 (pa_cons (pe_ix (ix_listK (K := K) rfl) (pv 0) (pv 2) (fun _ _ => rfl)) (pa_cons (pv 1) pnK))) (pe_cal C_law_part (hr.mono (by decide)) pass0 (pa_cons (pe_ix (ix_listK (K := K) rfl) (pv 0) (pe_op op_sub (pv 2) (pcK pe_int)) (fun _ _ => rfl)) (pa_cons (pv 1) pnK))) (nomark _))) (pss_one (ps_ret (pv 2))) pss_nil))) (pss_one (ps_ret (pcK pe_non)))), ?_⟩
    obtain ⟨g1, hm⟩ := Good.chk hm
    obtain ⟨W3, hm, hWW3⟩ := Good.bndW hm
    refine ⟨trivial, ⟨_, rfl, ⟨trivial, (k_lenQ hS.zh (hS.fact 1 rfl) ⟨trivial, ⟨_, _, rfl, ⟨g1.1, g1.2.1, g1.2.2.1, g1.2.2.2⟩, (forK (Z := Z0) (L := (rangeL (1 : Int) (((a_law_deck_here).length : Int) - (1 : Int)).toNat)) (src_range _ _) (fun rr σr Hr Zr => (∃ (w_law_k : Option V), σr = [some v_law_deck_here, some v_law_field, w_law_k] ∧ Sep K Z0 H0 Zr Hr [⟨(Sh.told (α := (List Str))), v_law_deck_here, a_law_deck_here⟩, ⟨(Sh.told (α := (Int × Int))), v_law_field, a_law_field⟩] ∧ Same Z0 Zr ∧ (Good (forL (fun (s_ : Unit) (q_ : Int) => m_law_out_b0 a_law_deck_here a_law_field q_) () rr) W3 WE))) ?_ ?_ ?_ ?_)⟩⟩)⟩⟩⟩
    · rintro rr σr Hr Zr hk
      obtain ⟨w_law_k, rfl, hS, sm2, hm⟩ := hk
      exact ⟨sm2, hS.zh⟩
    · exact ⟨Z0, (none), rfl, hS.pick [1, 0] (by decide) rfl, Same.refl _, hm⟩
    · skip
      intro k_4 r5 x6 sg7 H8 H9 Z10 mem11 dec12 hp13 y14
      obtain ⟨w_law_k, rfl, hS, sm2, hm⟩ := hp13
      obtain ⟨W15, hm, hn16, hb17, hr18⟩ := Good.forL hm
      have hm : Good (m_law_out_b0 a_law_deck_here a_law_field k_4) _ _ := hm; unfold m_law_out_b0 at hm
      obtain ⟨rfl, rfl⟩ := y14
      refine (tgt1 ?_)
      obtain ⟨g21, hm⟩ := Good.chk hm
      refine ⟨trivial, ⟨_, rfl, ⟨_, rfl, (k_ixLs hS.zh (hS.fact 0 rfl) g21 ⟨_, rfl, ⟨trivial, ⟨_, _, _, _, rfl, hS.zh, (hS.fact 1 rfl), (Good.bnd hm).imp (fun r22 hm => fun Z25 H26 st27 => ?_) hWE⟩⟩⟩)⟩⟩⟩
      have sm2 := sm2.trans st27.zz
      have hS := hS.step st27
      obtain ⟨g23, hm⟩ := Good.chk hm
      refine ⟨_, rfl, ⟨_, rfl, ⟨trivial, ⟨_, _, rfl, rfl, (k_ixLs hS.zh (hS.fact 0 rfl) g23 ⟨_, rfl, ⟨trivial, ⟨_, _, _, _, rfl, hS.zh, (hS.fact 1 rfl), (Good.bnd hm).imp (fun r24 hm => fun Z28 H29 st30 => ?_) hWE⟩⟩⟩)⟩⟩⟩⟩
      have sm2 := sm2.trans st30.zz
      have hS := hS.step st30
      refine ⟨_, _, rfl, rfl, ⟨_, rfl, (ite2 (fun e31 => ?_) (fun e32 => ?_))⟩⟩
      · skip
        have hm := Good.ifT e31 hm
        refine ⟨_, rfl, ?_⟩
        have hm := hr18 _ hm
        have hm := hWW3 _ hm
        exact hW _ hm _ _ _ hS.st rfl
      · skip
        have hm := Good.ifF e32 hm
        have hm := hn16 _ hm
        exact ⟨_, (some (.int k_4)), rfl, hS.pick [0, 1] (by decide) rfl, sm2, hm⟩
    · intro sg33 H34 Z35 hp36
      obtain ⟨w_law_k, rfl, hS, sm2, hm⟩ := hp36
      have hm := hWW3 _ hm
      refine ⟨trivial, ?_⟩
      exact hW _ hm _ _ _ hS.st rfl
theorem ok_law_out {f : Addr} {fd : FuncData} (F : Fun K "_law_out" "_law_out" (topS 58) f fd) (gm : mg "_law_out" = some (.ref f)) (T : Txt K mg ca cb) (C_law_part : Cal P w K mg base CX0 "_law_part" 1 ["_law_card_here", "_law_field"] (sp_law_part K ca)) : Cal P w K mg base CX0 "_law_out" 2 ["_law_deck_here", "_law_field"] (sp_law_out K ca) :=
  ⟨⟨f, fd, okf_law_out F T C_law_part, gm, F.kp, F.binds (ps := ["_law_deck_here", "_law_field"]) fun _ _ _ _ _ _ us hl => match us, hl with | [_, _], _ => rfl⟩⟩
theorem sc_law_made : FnScope ["_law_fields_here", "_law_others", "_law_word", "_law_way"] ["_law_fields_here", "_law_others", "_law_word", "_law_way"] (defScope (topS 59)) := ⟨rfl, rfl, rfl, by decide +kernel, rfl, by decide +kernel, by decide +kernel⟩
theorem okf_law_made {f : Addr} {fd : FuncData} (F : Fun K "_law_made" "_law_made" (topS 59) f fd) (T : Txt K mg ca cb) (C_Mater___init__ : MakX P w K mg base (L2N.CX P w) 5 "Mater" cb.Mater ["self", "field", "other", "other_field", "word"] (sp_Mater___init__ K ca)) (C_machine_of : Cal P w K mg base (L2N.CX P w) "machine_of" 8 ["going", "trays"] (sp_machine_of K ca)) : FnOk P w K mg base (L2N.CX P w) 9 f fd ["_law_fields_here", "_law_others", "_law_word", "_law_way"] (sp_law_made K ca) := by
  refine F.okXC sc_law_made (fun vs H0 Q E h => ?_) (fun cdv A outer s H0 vs Q E hr h => ?_)
  · obtain ⟨Z0, a_law_fields_here, v_law_fields_here, a_law_others, v_law_others, a_law_word, a_law_way, rfl, _⟩ := h
    rfl
  · obtain ⟨Z0, a_law_fields_here, v_law_fields_here, a_law_others, v_law_others, a_law_word, a_law_way, rfl, zh, h_law_fields_here, h_law_others, hm⟩ := h
    have nd := sc_law_made.nd
    have hm_ := hm.opn; clear hm; obtain ⟨W, WE, hm, hW, hWE⟩ := hm_
    have hS := Sep.start (K := K) zh
    have hS := hS.tel h_law_fields_here
    have hS := hS.tel h_law_others
    unfold m_law_made at hm
    refine ⟨_, (pss_cons (ps_if (pt_cmpR op_eq (pe_op op_mod (pv 3) (pcK pe_int)) (pcK pe_int) (nomark _)) (pss_one (ps_ret (pe_mkX C_Mater___init__ (hr.mono (by decide)) (passC (L2N.takes_of rfl rfl rfl rfl) (fun _ _ _ _ h => h)) (pa_cons (pe_ix (ix_tupK (K := K) rfl) (pv 0) (pcK pe_int) (fun _ _ => rfl)) (pa_cons (pv 1) (pa_cons (pe_ix (ix_tupK (K := K) rfl) (pv 0) (pcK pe_int) (fun _ _ => rfl)) (pa_cons (pv 2) pnK))))))) pss_nil) (pss_one (ps_ret (pe_cal C_machine_of (hr.mono (by decide)) (passC (L2N.takes_of rfl rfl rfl rfl) (fun _ _ _ _ h => h)) (pa_cons (pe_tupQ (pa_cons (pcK pe_str) (pa_cons (pcK pe_str) (pa_cons (pcK pe_str) (pa_cons (pe_ix (ix_tupK (K := K) rfl) (pv 0) (pcK pe_int) (fun _ _ => rfl)) (pa_cons (pe_ix (ix_tupK (K := K) rfl) (pv 0) (pcK pe_int) (fun _ _ => rfl)) (pa_cons (pv 2) pnK))))))) (pa_cons (pe_dispG (ppg_cons (pcK pe_str) (pe_lstQ pnK) (ppg_cons (pcK pe_str) (pv 1) ppg_nil)) rfl rfl (List.cons_ne_nil _ _) (by decide)) pnK)))))), ?_⟩
    refine ⟨_, rfl, ⟨trivial, ⟨_, _, rfl, rfl, (show (0 : Int) < (2 : Int) from (by decide)), ⟨trivial, (k_eqI ⟨_, rfl, (ite2 (fun e1 => ?_) (fun e2 => ?_))⟩)⟩⟩⟩⟩
    · skip
      have hm := Good.ifT e1 hm
      refine ⟨_, rfl, ⟨trivial, (k_fst hS.zh (hS.fact 1 rfl) (fun y3 hy3 => ⟨_, rfl, ⟨_, rfl, ⟨trivial, (k_snd hS.zh (hS.fact 1 rfl) (fun y4 hy4 => ⟨_, rfl, ⟨trivial, fun x_r5 dx_ nx_ ndx_ ne_ => ⟨_, x_r5, dx_, _, _, _, _, _, _, _, rfl, new_zh hS.zh nx_ ndx_ ne_, ⟨_, T.nk_Mater, upd_same⟩, new_dx ne_, hy3, (hS.fact 0 rfl), hy4, (Good.bnd hm).imp (fun r5 hm => new_fitP nx_ ndx_ ne_ (fun ps10 Z6 H7 st8 o11 => ?_)) (fun e_ h_ Z_ H_ cls_ d_ st_ x_ => hWE e_ h_ Z_ H_ cls_ d_ (hS.st.trans (new_st nx_ ndx_ ne_ st_)) x_)⟩⟩⟩))⟩⟩⟩))⟩⟩
      have hS := hS.tel (a := (a_law_fields_here).1) hy3
      have hS := hS.tel (a := (a_law_fields_here).2) hy4
      have hS := hS.own st8 o11
      obtain ⟨ps_, o_⟩ := hS.nth 0 rfl
      exact hW _ hm _ _ _ _ hS.st o_
    · skip
      have hm := Good.ifF e2 hm
      refine ⟨trivial, ⟨trivial, ⟨trivial, ⟨_, rfl, ⟨trivial, (k_fst hS.zh (hS.fact 1 rfl) (fun y12 hy12 => ⟨_, rfl, ⟨trivial, (k_snd hS.zh (hS.fact 1 rfl) (fun y13 hy13 => ⟨_, rfl, ⟨trivial, (k_tupTL (K := K) (m := [(ToD.td (("mate" : Str) : Str)), (ToD.td (("a" : Str) : Str)), (ToD.td (("b" : Str) : Str)), (ToD.td ((a_law_fields_here).1 : (Int × Int))), (ToD.td ((a_law_fields_here).2 : (Int × Int))), (ToD.td (a_law_word : Str))]) hS.zh (.cons (ToD.tr (α := Str) (a := ("mate" : Str)) rfl) (.cons (ToD.tr (α := Str) (a := ("a" : Str)) rfl) (.cons (ToD.tr (α := Str) (a := ("b" : Str)) rfl) (.cons (ToD.tr (α := (Int × Int)) (a := (a_law_fields_here).1) hy12) (.cons (ToD.tr (α := (Int × Int)) (a := (a_law_fields_here).2) hy13) (.cons (ToD.tr (α := Str) (a := a_law_word) rfl) .nil)))))) (Nat.le_of_ble_eq_true rfl) (fun v18 Z15 H16 st17 hv18 => ?_))⟩⟩))⟩⟩))⟩⟩⟩⟩⟩
      have hS := hS.tel (a := (a_law_fields_here).1) hy12
      have hS := hS.tel (a := (a_law_fields_here).2) hy13
      have hS := (hS.step st17).tel (a := (⟨[(ToD.td (("mate" : Str) : Str)), (ToD.td (("a" : Str) : Str)), (ToD.td (("b" : Str) : Str)), (ToD.td ((a_law_fields_here).1 : (Int × Int))), (ToD.td ((a_law_fields_here).2 : (Int × Int))), (ToD.td (a_law_word : Str))]⟩ : (TL PyData))) hv18
      intro p19 hp20
      obtain ⟨st21, hS⟩ := Sep.dnew (κ := Str) (α := (List Str)) hS hp20
      refine ⟨trivial, ⟨trivial, (k_lst (K := K) (m := ([] : (List Str))) hS.zh .nil (Nat.le_of_ble_eq_true rfl) (New.tel fun v25 Z22 H23 st24 hv25 => ?_))⟩⟩
      have hS := (hS.step st24).tel (a := ([] : (List Str))) hv25
      refine ⟨trivial, ⟨_, rfl, ?_⟩⟩
      refine k_dispG (κ := Str) (α := (List Str)) hS 1 rfl [(("a" : Str), ([] : (List Str))), (("b" : Str), a_law_others)] (.cons (hS.fact 0 rfl) (.cons (hS.fact 5 rfl) .nil)) (Nat.le_of_ble_eq_true rfl) rfl (fun H26 hS => ?_)
      dsimp only [List.set] at hS
      obtain ⟨Z27, s28, hS⟩ := hS.tell 1 rfl; dsimp only [List.set] at hS
      refine ⟨trivial, ⟨_, _, _, _, _, rfl, hS.zh, (ToD.tr (α := (TL PyData)) (a := (⟨[(ToD.td (("mate" : Str) : Str)), (ToD.td (("a" : Str) : Str)), (ToD.td (("b" : Str) : Str)), (ToD.td ((a_law_fields_here).1 : (Int × Int))), (ToD.td ((a_law_fields_here).2 : (Int × Int))), (ToD.td (a_law_word : Str))]⟩ : (TL PyData))) (hS.fact 2 rfl)), (hS.fact 1 rfl), (Good.bnd hm).imp (fun r14 hm => fun v32 ps33 Z29 H30 st31 o34 => ?_) (fun e_ h_ Z_ H_ cls_ d_ st_ x_ => hWE e_ h_ Z_ H_ cls_ d_ (hS.st.trans st_) x_)⟩⟩
      have hS := hS.own st31 o34
      obtain ⟨p35, er_⟩ := hS.ref 0 rfl
      subst er_
      obtain ⟨ps_, o_⟩ := hS.nth 0 rfl
      exact hW _ hm _ _ _ _ hS.st o_
theorem ok_law_made {f : Addr} {fd : FuncData} (F : Fun K "_law_made" "_law_made" (topS 59) f fd) (gm : mg "_law_made" = some (.ref f)) (T : Txt K mg ca cb) (C_Mater___init__ : MakX P w K mg base (L2N.CX P w) 5 "Mater" cb.Mater ["self", "field", "other", "other_field", "word"] (sp_Mater___init__ K ca)) (C_machine_of : Cal P w K mg base (L2N.CX P w) "machine_of" 8 ["going", "trays"] (sp_machine_of K ca)) : Cal P w K mg base (L2N.CX P w) "_law_made" 9 ["_law_fields_here", "_law_others", "_law_word", "_law_way"] (sp_law_made K ca) :=
  ⟨⟨f, fd, okf_law_made F T C_Mater___init__ C_machine_of, gm, F.kp, F.binds (ps := ["_law_fields_here", "_law_others", "_law_word", "_law_way"]) fun _ _ _ _ _ _ us hl => match us, hl with | [_, _, _, _], _ => rfl⟩⟩
theorem sc_law_is_out_NoField : FnScope ["_law_e", "_law_deck_here", "_law_place", "_law_told", "_law_due"] ["_law_e", "_law_deck_here", "_law_place"] (defScope (topS 60)) := ⟨rfl, rfl, rfl, by decide +kernel, rfl, by decide +kernel, by decide +kernel⟩
theorem okf_law_is_out_NoField {f : Addr} {fd : FuncData} (F : Fun K "_law_is_out" "_law_is_out" (topS 60) f fd) (T : Txt K mg ca cb) (C_law_is_other_NoField : CalC P w K mg base "_law_is_other" 1 ["_law_e"] (sp_law_is_other_NoField K ca)) (C_law_is_other_NoOrder : CalC P w K mg base "_law_is_other" 1 ["_law_e"] (sp_law_is_other_NoOrder K ca)) (C_law_is_other_NoTray : CalC P w K mg base "_law_is_other" 1 ["_law_e"] (sp_law_is_other_NoTray K ca)) : FnC P w K mg base 2 f fd ["_law_e", "_law_deck_here", "_law_place"] (sp_law_is_out_NoField K ca) := by
  refine Cd.Fun.okN F sc_law_is_out_NoField (fun p_ vs H0 Q E h => ?_) (fun cdv A outer s H0 p_ vs Q E hr hc_ h => ?_)
  · obtain ⟨Z0, x_a, a_law_deck_here, a_law_place, rfl, _⟩ := h
    rfl
  · obtain ⟨Z0, x_a, a_law_deck_here, a_law_place, rfl, zh, h_rf, hm⟩ := h
    have nd := sc_law_is_out_NoField.nd
    have hm_ := hm.opn; clear hm; obtain ⟨W, WE, hm, hW, hWE⟩ := hm_
    have hS := Sep.start (K := K) zh
    unfold m_law_is_out_NoField at hm
    refine ⟨_, (pss_cons (ps_if (ptK (PW.pt (pw_or (pt_not (pt_val (pe_callB (call_isPx (K := K) rfl (List.mem_singleton.mpr rfl) h_rf) (by rfl) T.b_isinstance (by decide +kernel) (pa_cons (pv 0) (pa_cons (pcK (pe_glob (v := .ref ca.NoOrder) rfl T.gx_NoOrder rfl)) pnK))))) (pw_or pt_never (pw_or1 pt_never))))) (pss_one (ps_ret (pcK pe_bl))) pss_never) pss_never), ?_⟩
    refine ⟨trivial, (ansOr (b2 := false) (fun _ q => ⟨_, rfl, ⟨trivial, ⟨trivial, (k_isEx (.inl rfl) T.xc_NoField (fun _ h => h) T.ki_NoField_NoOrder ⟨_, rfl, q⟩)⟩⟩⟩) (fun h => absurd h (by decide)) (iteT ?_))⟩
    refine ⟨trivial, ?_⟩
    exact hW _ hm _ _ hS.st
theorem ok_law_is_out_NoField {f : Addr} {fd : FuncData} (F : Fun K "_law_is_out" "_law_is_out" (topS 60) f fd) (gm : mg "_law_is_out" = some (.ref f)) (T : Txt K mg ca cb) (C_law_is_other_NoField : CalC P w K mg base "_law_is_other" 1 ["_law_e"] (sp_law_is_other_NoField K ca)) (C_law_is_other_NoOrder : CalC P w K mg base "_law_is_other" 1 ["_law_e"] (sp_law_is_other_NoOrder K ca)) (C_law_is_other_NoTray : CalC P w K mg base "_law_is_other" 1 ["_law_e"] (sp_law_is_other_NoTray K ca)) : CalC P w K mg base "_law_is_out" 2 ["_law_e", "_law_deck_here", "_law_place"] (sp_law_is_out_NoField K ca) :=
  ⟨⟨f, fd, okf_law_is_out_NoField F T C_law_is_other_NoField C_law_is_other_NoOrder C_law_is_other_NoTray, gm, F.kp, F.binds (ps := ["_law_e", "_law_deck_here", "_law_place"]) fun _ _ _ _ _ _ us hl => match us, hl with | [_, _, _], _ => rfl⟩⟩
theorem sc_law_is_out_NoOrder : FnScope ["_law_e", "_law_deck_here", "_law_place", "_law_told", "_law_due"] ["_law_e", "_law_deck_here", "_law_place"] (defScope (topS 60)) := ⟨rfl, rfl, rfl, by decide +kernel, rfl, by decide +kernel, by decide +kernel⟩
theorem okf_law_is_out_NoOrder {f : Addr} {fd : FuncData} (F : Fun K "_law_is_out" "_law_is_out" (topS 60) f fd) (T : Txt K mg ca cb) (C_law_is_other_NoField : CalC P w K mg base "_law_is_other" 1 ["_law_e"] (sp_law_is_other_NoField K ca)) (C_law_is_other_NoOrder : CalC P w K mg base "_law_is_other" 1 ["_law_e"] (sp_law_is_other_NoOrder K ca)) (C_law_is_other_NoTray : CalC P w K mg base "_law_is_other" 1 ["_law_e"] (sp_law_is_other_NoTray K ca)) : FnC P w K mg base 2 f fd ["_law_e", "_law_deck_here", "_law_place"] (sp_law_is_out_NoOrder K ca) := by
  refine Cd.Fun.okN F sc_law_is_out_NoOrder (fun p_ vs H0 Q E h => ?_) (fun cdv A outer s H0 p_ vs Q E hr hc_ h => ?_)
  · obtain ⟨Z0, x_a, d_a, a_law_e1, a_law_e2, a_law_deck_here, a_law_place, rfl, _⟩ := h
    rfl
  · obtain ⟨Z0, x_a, d_a, a_law_e1, a_law_e2, a_law_deck_here, a_law_place, rfl, zh, h_rf, h_xd, hm⟩ := h
    have nd := sc_law_is_out_NoOrder.nd
    have hm_ := hm.opn; clear hm; obtain ⟨W, WE, hm, hW, hWE⟩ := hm_
    have hS := Sep.start (K := K) zh
    have hS := hS.tel h_xd
    unfold m_law_is_out_NoOrder at hm
    refine ⟨_, (pss_cons (ps_if (ptK (PW.pt (pw_or (pt_not (pt_val (pe_callB (call_isPx (K := K) rfl (List.mem_singleton.mpr rfl) h_rf) (by rfl) T.b_isinstance (by decide +kernel) (pa_cons (pv 0) (pa_cons (pcK (pe_glob (v := .ref ca.NoOrder) rfl T.gx_NoOrder rfl)) pnK))))) (pw_or (pt_not (pt_val (pe_callB (call_isPx (K := K) rfl (List.mem_singleton.mpr rfl) h_rf) (by rfl) T.b_isinstance (by decide +kernel) (pa_cons (pv 0) (pa_cons (pcK (pe_bltn (v := .ty "ValueError") (by rfl) T.b_ValueError (by decide +kernel) rfl)) pnK))))) (pw_or1 (pt_val (pe_calCP C_law_is_other_NoOrder (hr.mono (by decide)) hc_ rfl h_rf (pa_cons (pv 0) pnK)))))))) (pss_one (ps_ret (pcK pe_bl))) pss_nil) (pss_cons (L2H.ps_forH (passes_of rfl) hc_ (pi_listH (pe_lstQ (pa_cons (pe_tupQ (pa_cons (pe_xfP T.xf_NoOrder T.xn_NoOrder_deck (List.mem_singleton.mpr rfl) h_rf (pv 0)) (pa_cons (pv 1) pnK))) (pa_cons (pe_tupQ (pa_cons (pe_xfP T.xf_NoOrder T.xn_NoOrder_place (List.mem_singleton.mpr rfl) h_rf (pv 0)) (pa_cons (pv 2) pnK))) pnK)))) (pg_tupH hc_ (pgs_cons (pg_name (i := 3) nd rfl (Or.inl rfl)) (pgs_cons (pg_name (i := 4) nd rfl (Or.inl rfl)) pgs_nil))) (pss_one (ps_if (ptK (PW.pt (pw_or (pt_not (pt_val (pe_callB call_isi (by rfl) T.b_isinstance (by decide +kernel) (pa_cons (pv 3) (pa_cons (pcK (pe_bltn (v := .ty "int") (by rfl) T.b_int (by decide +kernel) rfl)) pnK))))) (pw_or (pt_val (pe_callB call_isi (by rfl) T.b_isinstance (by decide +kernel) (pa_cons (pv 3) (pa_cons (pcK (pe_bltn (v := .ty "bool") (by rfl) T.b_bool (by decide +kernel) rfl)) pnK)))) (pw_or1 (pt_cmpR op_ne (pv 3) (pv 4) (nomark _))))))) (pss_one (ps_ret (pcK pe_bl))) pss_nil))) (pss_one (ps_ret (pcK pe_bl))))), ?_⟩
    obtain ⟨W3, hmb, hWW3⟩ := Good.bndW hm
    refine ⟨trivial, testK2 (Z := Z0) (fun z_ => W3 z_) (fun Q_ q4 => ?_) (fun t2 Z5 H6 w8 st7 => ?_)⟩
    · skip
      have hm := hmb
      have sx_ := Step.refl hS.zh
      refine ⟨_, rfl, ⟨trivial, ⟨trivial, (k_isEx (.inr ⟨_, _, rfl, xd_at hS.zh (hS.fact 0 rfl)⟩) T.xc_NoOrder (fun _ h => h) T.ki_NoOrder_NoOrder ⟨_, rfl, (ite2 (fun e9 => ?_) (fun e10 => ?_))⟩)⟩⟩⟩
      · have hm := Good.ifT e9 hm
        exact q4 _ _ _ hm sx_
      · skip
        have hm := Good.ifF e10 hm
        refine ⟨_, rfl, ⟨trivial, ⟨trivial, (k_isEx (.inr ⟨_, _, rfl, xd_at hS.zh (hS.fact 0 rfl)⟩) T.xc_NoOrder (fun _ h => h) T.ki_NoOrder_ValueError ⟨_, rfl, (ite2 (fun e11 => ?_) (fun e12 => ?_))⟩)⟩⟩⟩
        · have hm := Good.ifT e11 hm
          exact q4 _ _ _ hm sx_
        · skip
          have hm := Good.ifF e12 hm
          refine ⟨_, rfl, ⟨trivial, (fun _ hp_ => ⟨_, _, _, _, _, rfl, hS.zh, hp_, (hS.fact 0 rfl), (Good.bnd hm).imp (fun r1 hm => fun Z13 H14 st15 => ?_) hWE⟩)⟩⟩
          have sx_ := sx_.trans st15
          have hS := hS.step st15
          refine ⟨_, rfl, (q4 _ _ _ hm sx_)⟩
    have hm := hWW3 _ w8
    have hS := hS.step st7
    refine (ite2 (fun e16 => ?_) (fun e17 => ?_))
    · skip
      have hm := Good.ifT e16 hm
      refine ⟨trivial, ?_⟩
      exact hW _ hm _ _ hS.st
    · skip
      have hm := Good.ifF e17 hm
      refine ⟨_, rfl, ⟨rfl, rfl, _, _, _, rfl, xd_at hS.zh (hS.fact 0 rfl), rfl, ⟨_, rfl, ⟨trivial, (k_tup (K := K) (a := a_law_e1) (b := a_law_deck_here) hS.zh rfl rfl (fun v21 Z18 H19 st20 hv21 => ?_))⟩⟩⟩⟩
      have hS := (hS.step st20).tel (a := (a_law_e1, a_law_deck_here)) hv21
      refine ⟨_, rfl, ⟨rfl, rfl, _, _, _, rfl, xd_at hS.zh (hS.fact 1 rfl), rfl, ⟨_, rfl, ⟨trivial, (k_tup (K := K) (a := a_law_e2) (b := a_law_place) hS.zh rfl rfl (fun v25 Z22 H23 st24 hv25 => ?_))⟩⟩⟩⟩
      have hS := (hS.step st24).tel (a := (a_law_e2, a_law_place)) hv25
      refine ⟨trivial, (k_lst (K := K) (m := [(a_law_e1, a_law_deck_here), (a_law_e2, a_law_place)]) hS.zh (.cons (hS.fact 1 rfl) (.cons (hS.fact 0 rfl) .nil)) (Nat.le_of_ble_eq_true rfl) (New.tel fun v29 Z26 H27 st28 hv29 => ?_))⟩
      have hS := (hS.step st28).tel (a := [(a_law_e1, a_law_deck_here), (a_law_e2, a_law_place)]) hv29
      obtain ⟨a30, xs31, ev32, hz33, pr34⟩ := pyL (hS.fact 0 rfl)
      obtain ⟨W36, hm, hWW36⟩ := Good.bndW hm
      refine ⟨_, ev32, ⟨_, SqL.of (hS.zh _ _ hz33)⟩, (forK (Z := Z26) (L := [(a_law_e1, a_law_deck_here), (a_law_e2, a_law_place)]) (src_list hz33 pr34) (fun rr σr Hr Zr => (∃ (w_law_told : Option V) (w_law_due : Option V), σr = [some (.ref x_a), some (.int a_law_deck_here), some (.int a_law_place), w_law_told, w_law_due] ∧ Sep K Z0 H0 Zr Hr [⟨(Sh.told (α := Xd)), (.ref d_a), (⟨[("place", .int a_law_e2), ("deck", .int a_law_e1)]⟩ : Xd)⟩] ∧ Same Z26 Zr ∧ (Good (forL (fun (s_ : Unit) (q_ : (Int × Int)) => m_law_is_out_NoOrder_b0 q_.1 q_.2) () rr) W36 WE))) ?_ ?_ ?_ ?_)⟩
      · rintro rr σr Hr Zr hk
        obtain ⟨w_law_told, w_law_due, rfl, hS, sm35, hm⟩ := hk
        exact ⟨sm35, hS.zh⟩
      · exact ⟨Z26, (none), (none), rfl, hS.pick [3] (by decide) rfl, Same.refl _, hm⟩
      · skip
        intro q39 r40 x41 sg42 H43 H44 Z45 mem46 dec47 hp48 y49
        obtain ⟨told_37, due_38⟩ := q39
        obtain ⟨w_law_told, w_law_due, rfl, hS, sm35, hm⟩ := hp48
        obtain ⟨W50, hm, hn51, hb52, hr53⟩ := Good.forL hm
        have hm : Good (m_law_is_out_NoOrder_b0 told_37 due_38) _ _ := hm; unfold m_law_is_out_NoOrder_b0 at hm
        obtain ⟨rfl, ht_⟩ := y49
        refine (tgtP hS.zh (Py.mono sm35 ht_) fun a60 e58 a61 e59 v54 v56 h55 h57 => ?_)
        obtain rfl : told_37 = a60 := e58.symm
        obtain rfl : v54 = (.int told_37) := h55
        obtain rfl : due_38 = a61 := e59.symm
        obtain rfl : v56 = (.int due_38) := h57
        refine ⟨trivial, (ansOr (fun _ q => ⟨_, rfl, ⟨trivial, ⟨trivial, (k_isi (b := true) (Pt.int _) (by decide +kernel) ⟨_, rfl, q⟩)⟩⟩⟩) (fun b64 _ q => (ansOr (fun _ q => ⟨_, rfl, ⟨trivial, ⟨trivial, (k_isi (b := false) (Pt.int _) (by decide +kernel) ⟨_, rfl, q⟩)⟩⟩⟩) (fun b65 _ q => ⟨_, rfl, ⟨_, rfl, (k_neI ⟨_, rfl, q⟩)⟩⟩) q)) (ite2 (fun e62 => ?_) (fun e63 => ?_)))⟩
        · skip
          have hm := Good.ifT e62 hm
          refine ⟨trivial, ?_⟩
          have hm := hr53 _ hm
          have hm := hWW36 _ hm
          exact hW _ hm _ _ hS.st
        · skip
          have hm := Good.ifF e63 hm
          have hm := hn51 _ hm
          exact ⟨_, (some (.int told_37)), (some (.int due_38)), rfl, hS.pick [0] (by decide) rfl, sm35, hm⟩
      · intro sg66 H67 Z68 hp69
        obtain ⟨w_law_told, w_law_due, rfl, hS, sm35, hm⟩ := hp69
        have hm := hWW36 _ hm
        refine ⟨trivial, ?_⟩
        exact hW _ hm _ _ hS.st
theorem ok_law_is_out_NoOrder {f : Addr} {fd : FuncData} (F : Fun K "_law_is_out" "_law_is_out" (topS 60) f fd) (gm : mg "_law_is_out" = some (.ref f)) (T : Txt K mg ca cb) (C_law_is_other_NoField : CalC P w K mg base "_law_is_other" 1 ["_law_e"] (sp_law_is_other_NoField K ca)) (C_law_is_other_NoOrder : CalC P w K mg base "_law_is_other" 1 ["_law_e"] (sp_law_is_other_NoOrder K ca)) (C_law_is_other_NoTray : CalC P w K mg base "_law_is_other" 1 ["_law_e"] (sp_law_is_other_NoTray K ca)) : CalC P w K mg base "_law_is_out" 2 ["_law_e", "_law_deck_here", "_law_place"] (sp_law_is_out_NoOrder K ca) :=
  ⟨⟨f, fd, okf_law_is_out_NoOrder F T C_law_is_other_NoField C_law_is_other_NoOrder C_law_is_other_NoTray, gm, F.kp, F.binds (ps := ["_law_e", "_law_deck_here", "_law_place"]) fun _ _ _ _ _ _ us hl => match us, hl with | [_, _, _], _ => rfl⟩⟩
theorem sc_law_is_out_NoTray : FnScope ["_law_e", "_law_deck_here", "_law_place", "_law_told", "_law_due"] ["_law_e", "_law_deck_here", "_law_place"] (defScope (topS 60)) := ⟨rfl, rfl, rfl, by decide +kernel, rfl, by decide +kernel, by decide +kernel⟩
theorem okf_law_is_out_NoTray {f : Addr} {fd : FuncData} (F : Fun K "_law_is_out" "_law_is_out" (topS 60) f fd) (T : Txt K mg ca cb) (C_law_is_other_NoField : CalC P w K mg base "_law_is_other" 1 ["_law_e"] (sp_law_is_other_NoField K ca)) (C_law_is_other_NoOrder : CalC P w K mg base "_law_is_other" 1 ["_law_e"] (sp_law_is_other_NoOrder K ca)) (C_law_is_other_NoTray : CalC P w K mg base "_law_is_other" 1 ["_law_e"] (sp_law_is_other_NoTray K ca)) : FnC P w K mg base 2 f fd ["_law_e", "_law_deck_here", "_law_place"] (sp_law_is_out_NoTray K ca) := by
  refine Cd.Fun.okN F sc_law_is_out_NoTray (fun p_ vs H0 Q E h => ?_) (fun cdv A outer s H0 p_ vs Q E hr hc_ h => ?_)
  · obtain ⟨Z0, x_a, a_law_deck_here, a_law_place, rfl, _⟩ := h
    rfl
  · obtain ⟨Z0, x_a, a_law_deck_here, a_law_place, rfl, zh, h_rf, hm⟩ := h
    have nd := sc_law_is_out_NoTray.nd
    have hm_ := hm.opn; clear hm; obtain ⟨W, WE, hm, hW, hWE⟩ := hm_
    have hS := Sep.start (K := K) zh
    unfold m_law_is_out_NoTray at hm
    refine ⟨_, (pss_cons (ps_if (ptK (PW.pt (pw_or (pt_not (pt_val (pe_callB (call_isPx (K := K) rfl (List.mem_singleton.mpr rfl) h_rf) (by rfl) T.b_isinstance (by decide +kernel) (pa_cons (pv 0) (pa_cons (pcK (pe_glob (v := .ref ca.NoOrder) rfl T.gx_NoOrder rfl)) pnK))))) (pw_or pt_never (pw_or1 pt_never))))) (pss_one (ps_ret (pcK pe_bl))) pss_never) pss_never), ?_⟩
    refine ⟨trivial, (ansOr (b2 := false) (fun _ q => ⟨_, rfl, ⟨trivial, ⟨trivial, (k_isEx (.inl rfl) T.xc_NoTray (fun _ h => h) T.ki_NoTray_NoOrder ⟨_, rfl, q⟩)⟩⟩⟩) (fun h => absurd h (by decide)) (iteT ?_))⟩
    refine ⟨trivial, ?_⟩
    exact hW _ hm _ _ hS.st
theorem ok_law_is_out_NoTray {f : Addr} {fd : FuncData} (F : Fun K "_law_is_out" "_law_is_out" (topS 60) f fd) (gm : mg "_law_is_out" = some (.ref f)) (T : Txt K mg ca cb) (C_law_is_other_NoField : CalC P w K mg base "_law_is_other" 1 ["_law_e"] (sp_law_is_other_NoField K ca)) (C_law_is_other_NoOrder : CalC P w K mg base "_law_is_other" 1 ["_law_e"] (sp_law_is_other_NoOrder K ca)) (C_law_is_other_NoTray : CalC P w K mg base "_law_is_other" 1 ["_law_e"] (sp_law_is_other_NoTray K ca)) : CalC P w K mg base "_law_is_out" 2 ["_law_e", "_law_deck_here", "_law_place"] (sp_law_is_out_NoTray K ca) :=
  ⟨⟨f, fd, okf_law_is_out_NoTray F T C_law_is_other_NoField C_law_is_other_NoOrder C_law_is_other_NoTray, gm, F.kp, F.binds (ps := ["_law_e", "_law_deck_here", "_law_place"]) fun _ _ _ _ _ _ us hl => match us, hl with | [_, _, _], _ => rfl⟩⟩
theorem sc_law_no_machine : FnScope ["_law_fields_here", "_law_others", "_law_word", "_law_way", "_law_place", "_law_e"] ["_law_fields_here", "_law_others", "_law_word", "_law_way", "_law_place"] (defScope (topS 61)) := ⟨rfl, rfl, rfl, by decide +kernel, rfl, by decide +kernel, by decide +kernel⟩
theorem okf_law_no_machine {f : Addr} {fd : FuncData} (F : Fun K "_law_no_machine" "_law_no_machine" (topS 61) f fd) (T : Txt K mg ca cb) (C_law_made : Cal P w K mg base (L2N.CX P w) "_law_made" 9 ["_law_fields_here", "_law_others", "_law_word", "_law_way"] (sp_law_made K ca)) (C_law_is_out_NoField : CalC P w K mg base "_law_is_out" 2 ["_law_e", "_law_deck_here", "_law_place"] (sp_law_is_out_NoField K ca)) (C_law_is_out_NoOrder : CalC P w K mg base "_law_is_out" 2 ["_law_e", "_law_deck_here", "_law_place"] (sp_law_is_out_NoOrder K ca)) (C_law_is_out_NoTray : CalC P w K mg base "_law_is_out" 2 ["_law_e", "_law_deck_here", "_law_place"] (sp_law_is_out_NoTray K ca)) : FnOk P w K mg base CX0 10 f fd ["_law_fields_here", "_law_others", "_law_word", "_law_way", "_law_place"] (sp_law_no_machine K ca) := by
  refine F.ok sc_law_no_machine (fun vs H0 Q E h => ?_) (fun cdv A outer s H0 vs Q E hr h => ?_)
  · obtain ⟨Z0, a_law_fields_here, v_law_fields_here, a_law_others, v_law_others, a_law_word, a_law_way, a_law_place, rfl, _⟩ := h
    rfl
  · obtain ⟨Z0, a_law_fields_here, v_law_fields_here, a_law_others, v_law_others, a_law_word, a_law_way, a_law_place, rfl, zh, h_law_fields_here, h_law_others, hm⟩ := h
    have nd := sc_law_no_machine.nd
    have hm_ := hm.opn; clear hm; obtain ⟨W, WE, hm, hW, hWE⟩ := hm_
    have hS := Sep.start (K := K) zh
    have hS := hS.tel h_law_fields_here
    have hS := hS.tel h_law_others
    unfold m_law_no_machine at hm
    refine ⟨_, (pss_cons (ps_try_manyC pss_nil rfl rfl takes0C (fun W pn xe tk _ => (pss_one (ps_expr (pe_calS C_law_made (hr.mono (by decide)) (fun σ => L2N.passAt tk σ) (pa_cons (pv 0) (pa_cons (pe_callTy (call_listK (K := K) rfl) (by rfl) T.b_list (by decide +kernel) (pa_cons (pv 1) pnK)) (pa_cons (pv 2) (pa_cons (pv 3) pnK)))))))) (.named (i := 5) nd rfl rfl (c := .ref ca.ShopError) ⟨rfl, by decide, .inl T.gx_ShopError⟩ (fun a oe cls d pn hz hf => (pss_one (ps_ret (pe_calC C_law_is_out_NoOrder (hr.mono (by decide)) hz hf (pa_cons (pv 5) (pa_cons (pcK pe_int) (pa_cons (pv 4) pnK))))))) .nil)) (pss_one (ps_ret (pcK pe_bl)))), ?_⟩
    obtain ⟨W1, WE2, hm, hK3, hF4⟩ := Good.trW hm
    refine ⟨_, rfl, ⟨_, rfl, ⟨trivial, (k_listQ hS.zh (hS.fact 0 rfl) (New.tel fun v17 Z14 H15 st16 hv17 => ?_))⟩⟩⟩
    have hS := (hS.step st16).tel (a := a_law_others) hv17
    refine ⟨_, rfl, ⟨_, rfl, ⟨trivial, ⟨_, _, _, _, _, _, _, rfl, hS.zh, (hS.fact 2 rfl), (hS.fact 0 rfl), (Good.bnd hm).imp (fun r5 hm => NewO.tel hS.zh (fun v21 Z18 H19 st20 hv21 => ?_)) (fun e6 h7 Z8 H9 cls10 d11 st12 x13 => ?_)⟩⟩⟩⟩
    have hS := (hS.step st20).tel (a := r5) hv21
    have hm := hK3 _ hm
    have hS := hS.drop
    have hS := hS.drop
    refine ⟨trivial, ?_⟩
    exact hW _ hm _ _ hS.st
    have hm := hF4 e6 h7
    have hS := hS.step st12
    clear h7
    cases e6 with
    | NoField  => 
      dsimp only at hm
      exact hm.elim
    | NoOrder p_24 q_25 => 
      dsimp only at hm
      obtain ⟨rfl, xd26, rfl, hx27⟩ := x13
      have hS := hS.tel (v := .ref xd26) (a := (⟨[("place", .int q_25), ("deck", .int p_24)]⟩ : Xd)) ⟨_, rfl, hx27⟩
      refine ⟨true, T.em_NoOrder_ShopError, (fun _ ax28 na29 => ?_), (fun q => nomatch q)⟩
      refine ⟨_, rfl, ⟨trivial, ⟨_, rfl, ⟨trivial, (fun _ hp_ => ⟨_, _, _, _, _, _, _, rfl, hS.zh, hp_, (hS.fact 0 rfl), (Good.bnd hm).imp (fun r30 hm => fun Z31 H32 st33 => ?_) hWE⟩)⟩⟩⟩⟩
      have hS := hS.step st33
      exact hW _ hm _ _ hS.st
    | NoTray  => 
      dsimp only at hm
      exact hm.elim
    | _ => exact hm.elim
theorem ok_law_no_machine {f : Addr} {fd : FuncData} (F : Fun K "_law_no_machine" "_law_no_machine" (topS 61) f fd) (gm : mg "_law_no_machine" = some (.ref f)) (T : Txt K mg ca cb) (C_law_made : Cal P w K mg base (L2N.CX P w) "_law_made" 9 ["_law_fields_here", "_law_others", "_law_word", "_law_way"] (sp_law_made K ca)) (C_law_is_out_NoField : CalC P w K mg base "_law_is_out" 2 ["_law_e", "_law_deck_here", "_law_place"] (sp_law_is_out_NoField K ca)) (C_law_is_out_NoOrder : CalC P w K mg base "_law_is_out" 2 ["_law_e", "_law_deck_here", "_law_place"] (sp_law_is_out_NoOrder K ca)) (C_law_is_out_NoTray : CalC P w K mg base "_law_is_out" 2 ["_law_e", "_law_deck_here", "_law_place"] (sp_law_is_out_NoTray K ca)) : Cal P w K mg base CX0 "_law_no_machine" 10 ["_law_fields_here", "_law_others", "_law_word", "_law_way", "_law_place"] (sp_law_no_machine K ca) :=
  ⟨⟨f, fd, okf_law_no_machine F T C_law_made C_law_is_out_NoField C_law_is_out_NoOrder C_law_is_out_NoTray, gm, F.kp, F.binds (ps := ["_law_fields_here", "_law_others", "_law_word", "_law_way", "_law_place"]) fun _ _ _ _ _ _ us hl => match us, hl with | [_, _, _, _, _], _ => rfl⟩⟩
theorem sc_Mater_stays : FnScope ["self", "card"] ["self", "card"] (defScope (inClass (topS 42) 1)) := ⟨rfl, rfl, rfl, by decide +kernel, rfl, by decide +kernel, by decide +kernel⟩
theorem okf_Mater_stays {f : Addr} {fd : FuncData} (F : Fun K "stays" "Mater.stays" (inClass (topS 42) 1) f fd) (T : Txt K mg ca cb) (C_part_of : Cal P w K mg base CX0 "part_of" 1 ["card", "field"] (sp_part_of K ca)) : FnOk P w K mg base CX0 2 f fd ["self", "card"] (sp_Mater_stays K ca) := by
  refine F.ok sc_Mater_stays (fun vs H0 Q E h => ?_) (fun cdv A outer s H0 vs Q E hr h => ?_)
  · obtain ⟨Z0, a_self, v_self, a_card, rfl, _⟩ := h
    rfl
  · obtain ⟨Z0, a_self, v_self, a_card, rfl, zh, h_self, hm⟩ := h
    have nd := sc_Mater_stays.nd
    have hm_ := hm.opn; clear hm; obtain ⟨W, WE, hm, hW, hWE⟩ := hm_
    have hS := Sep.start (K := K) zh
    have hS := hS.tel h_self
    unfold m_Mater_stays at hm
    refine ⟨_, (pss_one (ps_ret (pe_cmpR op_eq (pe_cmp (pc_dinQ (hu_of hr) (pe_cal C_part_of (hr.mono (by decide)) pass0 (pa_cons (pv 1) (pa_cons (pe_fldK (K := K) rfl (pv 0) rfl) pnK))) (pe_fldK (K := K) rfl (pv 0) rfl))) (pe_cmpR op_eq (pe_fldK (K := K) rfl (pv 0) rfl) (pcK pe_str) (nomark _)) (nomark _)))), ?_⟩
    refine ⟨_, rfl, ⟨_, rfl, (fld_Mater_field hS.zh (hS.fact 0 rfl) T.nk_Mater T.cl_Mater T.na_Mater_field (fun y1 hy1 => ⟨trivial, ⟨_, _, _, _, rfl, hS.zh, hy1, (Good.bnd hm).imp (fun r2 hm => fun Z4 H5 st6 => ?_) hWE⟩⟩))⟩⟩
    have hS := hS.tel (a := (a_self).field) hy1
    have hS := hS.step st6
    refine ⟨_, rfl, (fld_Mater_parts hS.zh (hS.fact 1 rfl) T.nk_Mater T.cl_Mater T.na_Mater_parts (fun y3 hy3 => (k_din (RD.tell hS.zh hy3) ⟨_, rfl, (fld_Mater_word hS.zh (hS.fact 1 rfl) T.nk_Mater T.cl_Mater T.na_Mater_word ⟨trivial, (k_eqS (k_eqB ?_))⟩)⟩)))⟩
    exact hW _ hm _ _ hS.st
theorem ok_Mater_stays {f : Addr} {fd : FuncData} (F : Fun K "stays" "Mater.stays" (inClass (topS 42) 1) f fd) (gm : Meth K cb.Mater "stays" f) (T : Txt K mg ca cb) (C_part_of : Cal P w K mg base CX0 "part_of" 1 ["card", "field"] (sp_part_of K ca)) : MetX P w K mg base CX0 2 cb.Mater "stays" ["self", "card"] (sp_Mater_stays K ca) :=
  ⟨⟨f, fd, T.cl_Mater, gm, okf_Mater_stays F T C_part_of, F.binds (ps := ["self", "card"]) fun _ _ _ _ _ _ us hl => match us, hl with | [_, _], _ => rfl⟩⟩
theorem sc_Mater_pocket_for : FnScope ["self", "card", "number"] ["self", "card"] (defScope (inClass (topS 41) 2)) := ⟨rfl, rfl, rfl, by decide +kernel, rfl, by decide +kernel, by decide +kernel⟩
theorem okf_Mater_pocket_for {f : Addr} {fd : FuncData} (F : Fun K "pocket_for" "Rower.pocket_for" (inClass (topS 41) 2) f fd) (T : Txt K mg ca cb) (C_NoOrder___init__ : MkE P w K mg base 1 "NoOrder" ca.NoOrder ["self", "deck", "place"] (sp_NoOrder K)) (C_columns_of : Cal P w K mg base CX0 "columns_of" 1 ["field"] (sp_columns_of K ca)) (C_comes_ahead : Cal P w K mg base CX0 "comes_ahead" 2 ["card", "other", "columns"] (sp_comes_ahead K ca)) (C_Mater_stays : MetX P w K mg base CX0 2 cb.Mater "stays" ["self", "card"] (sp_Mater_stays K ca)) : FnOk P w K mg base (L2N.CX P w) 3 f fd ["self", "card"] (sp_Mater_pocket_for K ca) := by
  refine F.okXC sc_Mater_pocket_for (fun vs H0 Q E h => ?_) (fun cdv A outer s H0 vs Q E hr h => ?_)
  · obtain ⟨Z0, a_self, v_self, ps_self, a_card, rfl, _⟩ := h
    rfl
  · obtain ⟨Z0, a_self, v_self, ps_self, a_card, rfl, zh, h_self, hnd_self, hnz_self, hm⟩ := h
    have nd := sc_Mater_pocket_for.nd
    have hm_ := hm.opn; clear hm; obtain ⟨W, WE, hm, hW, hWE⟩ := hm_
    have hS := Sep.lent zh h_self hnd_self hnz_self
    unfold m_Mater_pocket_for at hm
    refine ⟨_, (pss_cons (ps_if (ptK (PW.pt (pw_and (pt_cmpR op_notNQ (pe_fldK (K := K) rfl (pv 0) rfl) (pcK pe_non) (nomark _)) (pw_and1 (pt_val (pe_cal C_comes_ahead (hr.mono (by decide)) pass0 (pa_cons (pv 1) (pa_cons (pe_fldK (K := K) rfl (pv 0) rfl) (pa_cons (pe_cal C_columns_of (hr.mono (by decide)) pass0 (pa_cons (pe_fldK (K := K) rfl (pv 0) rfl) pnK)) pnK))))))))) (pss_one (L2N.ps_raise rfl (L2N.takes_of rfl rfl rfl rfl) (pmk_EC C_NoOrder___init__ (hr.mono (by decide)) (pa_cons (pcK pe_int) (pa_cons (pe_callB (call_lenK (K := K) rfl) (by rfl) T.b_len PySem.boot_len (pa_cons (pe_fldK (K := K) rfl (pv 0) rfl) pnK)) pnK))))) pss_nil) (pss_cons (ps_set (i := 2) nd rfl (Or.inl rfl) (pe_callTy call_intB (by rfl) T.b_int PyProof.Rows.boot_int (pa_cons (pe_not (pe_mtX C_Mater_stays (hr.mono (j := 2) (by decide)) pass0 (pv 0) (pa_cons (pv 1) pnK))) pnK))) (pss_cons (ps_fldK (K := K) rfl (pv 0) (pv 1) rfl) (pss_one (ps_ret (pv 2)))))), ?_⟩
    obtain ⟨p_self, er_⟩ := hS.ref 0 rfl; subst er_
    have hS : (Sep K Z0 (delL H0 ps_self) _ _ [⟨sh_Mater, (.ref p_self), a_self⟩]) := hS.pick [0] (by decide) rfl
    have hT_ := hS; clear hS; obtain ⟨p_, vs_, ev_, hl_, hS⟩ := Sep.opnO hT_; clear hT_
    have hq_ := V.ref.inj ev_; subst hq_
    obtain ⟨v2, w1, rfl, hS⟩ := hS.unr
    obtain ⟨v4, w3, rfl, hS⟩ := hS.unr
    obtain ⟨v6, w5, rfl, hS⟩ := hS.unr
    obtain ⟨v8, w7, rfl, hS⟩ := hS.unr
    obtain ⟨v10, w9, rfl, hS⟩ := hS.unr
    obtain ⟨w11, rfl, hS⟩ := hS.unrS
    obtain ⟨rfl, hS⟩ := hS.nilrow
    have hS : (Sep K Z0 (delL H0 ps_self) _ _ [⟨(Sh.dc Str Bool), v10, (a_self).parts⟩, ⟨(Sh.told (α := (Option Str))), v8, (a_self).fed_last⟩, ⟨(Sh.told (α := (Int × Int))), v6, (a_self).field⟩, ⟨(Sh.lt Int), v4, (a_self).log⟩, ⟨(Sh.lst (ShL.all (Sh.lt Str))), v2, (a_self).pockets⟩, ⟨(Sh.husk "Mater" ["pockets", "log", "field", "fed_last", "parts", "word"]), (.ref p_self), [v2, v4, v6, v8, v10, (.str (a_self).word)]⟩]) := hS
    obtain ⟨p12, er_⟩ := hS.ref 0 rfl
    subst er_
    obtain ⟨p13, er_⟩ := hS.ref 3 rfl
    subst er_
    obtain ⟨p14, er_⟩ := hS.ref 4 rfl
    subst er_
    obtain ⟨W19, hmb, hWW19⟩ := Good.bndW hm
    refine ⟨trivial, testK2 (Z := Z0) (fun z_ => W19 z_) (fun Q_ q20 => ?_) (fun t18 Z21 H22 w24 st23 => ?_)⟩
    · skip
      have hm := hmb
      have sx_ := Step.refl hS.zh
      refine ⟨_, rfl, (hS.fld 5 rfl T.nk_Mater T.cl_Mater T.na_Mater_fed_last rfl ⟨trivial, (k_notNQ (hS.fact 1 rfl) ⟨_, rfl, (ite2 (fun e25 => ?_) (fun e26 => ?_))⟩)⟩)⟩
      · skip
        have hm := Good.ifT e25 hm
        obtain ⟨g16, hm⟩ := Good.chk hm
        refine ⟨_, rfl, ⟨_, rfl, (hS.fld 5 rfl T.nk_Mater T.cl_Mater T.na_Mater_fed_last rfl ?_)⟩⟩
        obtain rfl : v8 = (.str ((a_self).fed_last.getD default)) := (some_val (hS.fact 1 rfl) g16).symm
        refine ⟨_, rfl, (hS.fld 5 rfl T.nk_Mater T.cl_Mater T.na_Mater_field rfl ⟨trivial, ⟨_, _, _, rfl, hS.zh, (hS.fact 2 rfl), (Good.nx (Good.bnd hm)).imp (fun r15 hm => NewO.tel hS.zh (fun v30 Z27 H28 st29 hv30 => ?_)) (fun _ h_ => h_)⟩⟩)⟩
        have sx_ := sx_.trans st29
        have hS := (hS.step st29).tel (a := r15) hv30
        refine ⟨trivial, ⟨_, _, _, _, _, rfl, hS.zh, (hS.fact 0 rfl), (Good.nx (Good.bnd hm)).imp (fun r17 hm => fun Z33 H34 st35 => ?_) (fun _ h_ => h_)⟩⟩
        have sx_ := sx_.trans st35
        have hS := hS.step st35
        refine ⟨_, rfl, (q20 _ _ _ hm sx_)⟩
      · have hm := Good.ifF e26 hm
        exact q20 _ _ _ hm sx_
    have hm := hWW19 _ w24
    have hS := hS.step st23
    refine (ite2 (fun e36 => ?_) (fun e37 => ?_))
    · skip
      have hm := Good.ifT e36 hm
      refine ⟨trivial, ⟨_, rfl, (hS.fld 5 rfl T.nk_Mater T.cl_Mater T.na_Mater_log rfl ⟨trivial, (k_lenOQ (hS.L 3 rfl) ⟨trivial, ⟨Nat.le_of_ble_eq_true rfl, raise_noorder hS.zh T.oe_NoOrder T.xn_NoOrder_deck T.xn_NoOrder_place (fun dx38 Z39 H40 st41 hx42 => ?_)⟩⟩)⟩)⟩⟩
      have hS := hS.step st41
      have hS : (Sep K Z0 (delL H0 ps_self) _ _ [⟨(Sh.dc Str Bool), (.ref p12), (a_self).parts⟩, ⟨(Sh.told (α := (Option Str))), v8, (a_self).fed_last⟩, ⟨(Sh.told (α := (Int × Int))), v6, (a_self).field⟩, ⟨(Sh.lt Int), (.ref p13), (a_self).log⟩, ⟨(Sh.lst (ShL.all (Sh.lt Str))), (.ref p14), (a_self).pockets⟩, ⟨(Sh.husk "Mater" ["pockets", "log", "field", "fed_last", "parts", "word"]), (.ref p_self), [(.ref p14), (.ref p13), v6, v8, (.ref p12), (.str (a_self).word)]⟩]) := hS.pick [0, 1, 2, 3, 4, 5] (by decide) rfl
      have hS := hS.mknil
      have hS := Sep.mkrS (a_self).word hS
      have hS := hS.mkr
      have hS := hS.mkr
      have hS := hS.mkr
      have hS := hS.mkr
      have hS := hS.mkr
      have hS : (Sep K Z0 (delL H0 ps_self) _ _ [⟨sh_Mater, (.ref p_self), (⟨(a_self).pockets, (a_self).log, (a_self).field, (a_self).fed_last, (a_self).parts, (a_self).word⟩ : Mater)⟩]) := Sep.clsO (f := Mater.row) rfl hS
      obtain ⟨ps43, o44⟩ := hS.nth 0 rfl
      exact hWE _ hm _ _ _ _ _ hS.st o44 ⟨rfl, _, rfl, hx42⟩
    · skip
      have hm := Good.ifF e37 hm
      refine ⟨_, rfl, (hS.mthH 5 rfl T.nk_Mater (by decide) ⟨_, rfl, ⟨trivial, ?_⟩⟩)⟩
      have hSB46 := hS; have bB46 := hS.bor0S
      have hS : (Sep K Z0 (delL H0 ps_self) _ _ [⟨(Sh.dc Str Bool), (.ref p12), (a_self).parts⟩, ⟨(Sh.told (α := (Option Str))), v8, (a_self).fed_last⟩, ⟨(Sh.told (α := (Int × Int))), v6, (a_self).field⟩, ⟨(Sh.lt Int), (.ref p13), (a_self).log⟩, ⟨(Sh.lst (ShL.all (Sh.lt Str))), (.ref p14), (a_self).pockets⟩, ⟨(Sh.husk "Mater" ["pockets", "log", "field", "fed_last", "parts", "word"]), (.ref p_self), [(.ref p14), (.ref p13), v6, v8, (.ref p12), (.str (a_self).word)]⟩]) := hS.pick [0, 1, 2, 3, 4, 5] (by decide) rfl
      have hS := hS.mknil
      have hS := Sep.mkrS (a_self).word hS
      have hS := hS.mkr
      have hS := hS.mkr
      have hS := hS.mkr
      have hS := hS.mkr
      have hS := hS.mkr
      have hS : (Sep K Z0 (delL H0 ps_self) _ _ [⟨sh_Mater, (.ref p_self), (⟨(a_self).pockets, (a_self).log, (a_self).field, (a_self).fed_last, (a_self).parts, (a_self).word⟩ : Mater)⟩]) := Sep.clsO (f := Mater.row) rfl hS
      obtain ⟨Z47, ps48, bB46, hS⟩ := hS.borS bB46 0 rfl; dsimp only [List.set] at hS
      have sB46 := Step.refl hS.zh
      refine ⟨_, _, _, _, rfl, hS.zh, (hS.fact 0 rfl), (Good.nx (Good.bnd hm)).imp (fun r45 hm => fun Z49 H50 st51 => ?_) (fun _ h_ => h_)⟩
      have sB46 := sB46.trans st51
      have hS := hS.step st51
      have stB46 := bB46.back hSB46.zh sB46
      have hS := hSB46.step stB46
      refine ⟨_, rfl, ⟨trivial, ⟨_, rfl, (storeI fun number_52 en53 => ?_)⟩⟩⟩
      have hm := Good.vl en53 hm
      obtain ⟨self_fed_last_54, en55⟩ : ∃ z, z = (some a_card) := ⟨_, rfl⟩
      have hS := hS.tel (v := (.str a_card)) (a := self_fed_last_54) (by rw [en55]; exact rfl)
      have hm := Good.vl en55 hm
      refine ⟨_, rfl, ⟨_, rfl, (hS.put (v := (.str a_card)) (ns' := ["pockets", "log", "field", "fed_last", "parts", "word"]) (vs' := [(.ref p14), (.ref p13), v6, (.str a_card), (.ref p12), (.str (a_self).word)]) 6 rfl T.nk_Mater T.cl_Mater T.na_Mater_fed_last (Nat.le_of_ble_eq_true rfl) (rfl) rfl fun H_ hS => ?_)⟩⟩
      dsimp only [List.set] at hS
      refine ⟨_, rfl, ?_⟩
      have hS : (Sep K Z0 (delL H0 ps_self) _ _ [⟨(Sh.dc Str Bool), (.ref p12), (a_self).parts⟩, ⟨(Sh.told (α := (Option Str))), (.str a_card), self_fed_last_54⟩, ⟨(Sh.told (α := (Int × Int))), v6, (a_self).field⟩, ⟨(Sh.lt Int), (.ref p13), (a_self).log⟩, ⟨(Sh.lst (ShL.all (Sh.lt Str))), (.ref p14), (a_self).pockets⟩, ⟨(Sh.husk "Mater" ["pockets", "log", "field", "fed_last", "parts", "word"]), (.ref p_self), [(.ref p14), (.ref p13), v6, (.str a_card), (.ref p12), (.str (a_self).word)]⟩, ⟨(Sh.told (α := (Option Str))), v8, (a_self).fed_last⟩]) := hS.pick [1, 0, 3, 4, 5, 6, 2] (by decide) rfl
      have hS := hS.mknil
      have hS := Sep.mkrS (a_self).word hS
      have hS := hS.mkr
      have hS := hS.mkr
      have hS := hS.mkr
      have hS := hS.mkr
      have hS := hS.mkr
      have hS : (Sep K Z0 (delL H0 ps_self) _ _ [⟨sh_Mater, (.ref p_self), (⟨(a_self).pockets, (a_self).log, (a_self).field, self_fed_last_54, (a_self).parts, (a_self).word⟩ : Mater)⟩, ⟨(Sh.told (α := (Option Str))), v8, (a_self).fed_last⟩]) := Sep.clsO (f := Mater.row) rfl hS
      obtain ⟨ps_, o_⟩ := hS.nth 0 rfl; exact hW _ hm _ _ _ hS.st o_
theorem ok_Mater_pocket_for {f : Addr} {fd : FuncData} (F : Fun K "pocket_for" "Rower.pocket_for" (inClass (topS 41) 2) f fd) (gm : Meth K cb.Mater "pocket_for" f) (T : Txt K mg ca cb) (C_NoOrder___init__ : MkE P w K mg base 1 "NoOrder" ca.NoOrder ["self", "deck", "place"] (sp_NoOrder K)) (C_columns_of : Cal P w K mg base CX0 "columns_of" 1 ["field"] (sp_columns_of K ca)) (C_comes_ahead : Cal P w K mg base CX0 "comes_ahead" 2 ["card", "other", "columns"] (sp_comes_ahead K ca)) (C_Mater_stays : MetX P w K mg base CX0 2 cb.Mater "stays" ["self", "card"] (sp_Mater_stays K ca)) : MetX P w K mg base (L2N.CX P w) 3 cb.Mater "pocket_for" ["self", "card"] (sp_Mater_pocket_for K ca) :=
  ⟨⟨f, fd, T.cl_Mater, gm, okf_Mater_pocket_for F T C_NoOrder___init__ C_columns_of C_comes_ahead C_Mater_stays, F.binds (ps := ["self", "card"]) fun _ _ _ _ _ _ us hl => match us, hl with | [_, _], _ => rfl⟩⟩
theorem sc_Mater_laid : FnScope ["self", "card"] ["self", "card"] (defScope (inClass (topS 38) 2)) := ⟨rfl, rfl, rfl, by decide +kernel, rfl, by decide +kernel, by decide +kernel⟩
theorem okf_Mater_laid {f : Addr} {fd : FuncData} (F : Fun K "laid" "Machine.laid" (inClass (topS 38) 2) f fd) (T : Txt K mg ca cb) : FnOk P w K mg base CX0 1 f fd ["self", "card"] (sp_Mater_laid K ca) := by
  refine F.ok sc_Mater_laid (fun vs H0 Q E h => ?_) (fun cdv A outer s H0 vs Q E hr h => ?_)
  · obtain ⟨Z0, a_self, v_self, a_card, rfl, _⟩ := h
    rfl
  · obtain ⟨Z0, a_self, v_self, a_card, rfl, zh, h_self, hm⟩ := h
    have nd := sc_Mater_laid.nd
    have hm_ := hm.opn; clear hm; obtain ⟨W, WE, hm, hW, hWE⟩ := hm_
    have hS := Sep.start (K := K) zh
    have hS := hS.tel h_self
    unfold m_Mater_laid at hm
    refine ⟨_, (pss_one (ps_ret (pv 1))), ?_⟩
    refine ⟨_, rfl, ?_⟩
    exact hW _ hm _ _ hS.st
theorem ok_Mater_laid {f : Addr} {fd : FuncData} (F : Fun K "laid" "Machine.laid" (inClass (topS 38) 2) f fd) (gm : Meth K cb.Mater "laid" f) (T : Txt K mg ca cb) : MetX P w K mg base CX0 1 cb.Mater "laid" ["self", "card"] (sp_Mater_laid K ca) :=
  ⟨⟨f, fd, T.cl_Mater, gm, okf_Mater_laid F T, F.binds (ps := ["self", "card"]) fun _ _ _ _ _ _ us hl => match us, hl with | [_, _], _ => rfl⟩⟩
theorem sc_Mater_feed : FnScope ["self", "card", "number"] ["self", "card"] (defScope (inClass (topS 38) 3)) := ⟨rfl, rfl, rfl, by decide +kernel, rfl, by decide +kernel, by decide +kernel⟩
theorem okf_Mater_feed {f : Addr} {fd : FuncData} (F : Fun K "feed" "Machine.feed" (inClass (topS 38) 3) f fd) (T : Txt K mg ca cb) (C_Mater_pocket_for : MetX P w K mg base (L2N.CX P w) 3 cb.Mater "pocket_for" ["self", "card"] (sp_Mater_pocket_for K ca)) (C_Mater_laid : MetX P w K mg base CX0 1 cb.Mater "laid" ["self", "card"] (sp_Mater_laid K ca)) : FnOk P w K mg base (L2N.CX P w) 4 f fd ["self", "card"] (sp_Mater_feed K ca) := by
  refine F.okXC sc_Mater_feed (fun vs H0 Q E h => ?_) (fun cdv A outer s H0 vs Q E hr h => ?_)
  · obtain ⟨Z0, a_self, v_self, ps_self, a_card, rfl, _⟩ := h
    rfl
  · obtain ⟨Z0, a_self, v_self, ps_self, a_card, rfl, zh, h_self, hnd_self, hnz_self, hm⟩ := h
    have nd := sc_Mater_feed.nd
    have hm_ := hm.opn; clear hm; obtain ⟨W, WE, hm, hW, hWE⟩ := hm_
    have hS := Sep.lent zh h_self hnd_self hnz_self
    unfold m_Mater_feed at hm
    refine ⟨_, (pss_cons (ps_set (i := 2) nd rfl (Or.inl rfl) (pe_mtX C_Mater_pocket_for (hr.mono (j := 3) (by decide)) (passC (L2N.takes_of rfl rfl rfl rfl) (fun _ _ _ _ h => h)) (pv 0) (pa_cons (pv 1) pnK))) (pss_cons (ps_expr (pe_bm PySem.F.plainAttrs_list PySem.F.slot_list_append PySem.F.type_list_append mt_append (pe_ix (ix_listK (K := K) rfl) (pe_fldK (K := K) rfl (pv 0) rfl) (pv 2) (fun _ _ => rfl)) (pa_cons (pe_mtX C_Mater_laid (hr.mono (j := 1) (by decide)) pass0 (pv 0) (pa_cons (pv 1) pnK)) pnK))) (pss_one (ps_expr (pe_bm PySem.F.plainAttrs_list PySem.F.slot_list_append PySem.F.type_list_append mt_append (pe_fldK (K := K) rfl (pv 0) rfl) (pa_cons (pv 2) pnK)))))), ?_⟩
    obtain ⟨p_self, er_⟩ := hS.ref 0 rfl; subst er_
    have hS : (Sep K Z0 (delL H0 ps_self) _ _ [⟨sh_Mater, (.ref p_self), a_self⟩]) := hS.pick [0] (by decide) rfl
    have hT_ := hS; clear hS; obtain ⟨p_, vs_, ev_, hl_, hS⟩ := Sep.opnO hT_; clear hT_
    have hq_ := V.ref.inj ev_; subst hq_
    obtain ⟨v2, w1, rfl, hS⟩ := hS.unr
    obtain ⟨v4, w3, rfl, hS⟩ := hS.unr
    obtain ⟨v6, w5, rfl, hS⟩ := hS.unr
    obtain ⟨v8, w7, rfl, hS⟩ := hS.unr
    obtain ⟨v10, w9, rfl, hS⟩ := hS.unr
    obtain ⟨w11, rfl, hS⟩ := hS.unrS
    obtain ⟨rfl, hS⟩ := hS.nilrow
    have hS : (Sep K Z0 (delL H0 ps_self) _ _ [⟨(Sh.dc Str Bool), v10, (a_self).parts⟩, ⟨(Sh.told (α := (Option Str))), v8, (a_self).fed_last⟩, ⟨(Sh.told (α := (Int × Int))), v6, (a_self).field⟩, ⟨(Sh.lt Int), v4, (a_self).log⟩, ⟨(Sh.lst (ShL.all (Sh.lt Str))), v2, (a_self).pockets⟩, ⟨(Sh.husk "Mater" ["pockets", "log", "field", "fed_last", "parts", "word"]), (.ref p_self), [v2, v4, v6, v8, v10, (.str (a_self).word)]⟩]) := hS
    obtain ⟨p12, er_⟩ := hS.ref 0 rfl
    subst er_
    obtain ⟨p13, er_⟩ := hS.ref 3 rfl
    subst er_
    obtain ⟨p14, er_⟩ := hS.ref 4 rfl
    subst er_
    refine ⟨_, rfl, (hS.mthH 5 rfl T.nk_Mater (by decide) ⟨_, rfl, ⟨trivial, ?_⟩⟩)⟩
    have hS : (Sep K Z0 (delL H0 ps_self) _ _ [⟨(Sh.dc Str Bool), (.ref p12), (a_self).parts⟩, ⟨(Sh.told (α := (Option Str))), v8, (a_self).fed_last⟩, ⟨(Sh.told (α := (Int × Int))), v6, (a_self).field⟩, ⟨(Sh.lt Int), (.ref p13), (a_self).log⟩, ⟨(Sh.lst (ShL.all (Sh.lt Str))), (.ref p14), (a_self).pockets⟩, ⟨(Sh.husk "Mater" ["pockets", "log", "field", "fed_last", "parts", "word"]), (.ref p_self), [(.ref p14), (.ref p13), v6, v8, (.ref p12), (.str (a_self).word)]⟩]) := hS.pick [0, 1, 2, 3, 4, 5] (by decide) rfl
    have hS := hS.mknil
    have hS := Sep.mkrS (a_self).word hS
    have hS := hS.mkr
    have hS := hS.mkr
    have hS := hS.mkr
    have hS := hS.mkr
    have hS := hS.mkr
    have hS : (Sep K Z0 (delL H0 ps_self) _ _ [⟨sh_Mater, (.ref p_self), (⟨(a_self).pockets, (a_self).log, (a_self).field, (a_self).fed_last, (a_self).parts, (a_self).word⟩ : Mater)⟩]) := Sep.clsO (f := Mater.row) rfl hS
    obtain ⟨ps26, h27, lg28⟩ := hS.lend 0 rfl
    refine ⟨_, _, _, _, _, rfl, hS.zh, h27.1, h27.2.1, h27.2.2, (Good.bnd hm).imp (fun r15 hm Z29 H30 ps31 st32 o33 => ?_) (fun e16 h17 Z18 H19 ps20 cls21 d22 st23 o24 x25 => ?te16)⟩
    case te16 =>
      have hS := lg28 (b := (⟨(a_self).pockets, (a_self).log, (a_self).field, (a_self).fed_last, (a_self).parts, (a_self).word⟩ : Mater)) st23 o24; dsimp only [List.set] at hS
      obtain ⟨ps34, o35⟩ := hS.nth 0 rfl
      exact hWE _ h17 _ _ _ _ _ hS.st o35 x25
    have hS := lg28 (b := r15.1) st32 o33; dsimp only [List.set] at hS
    have hS : (Sep K Z0 (delL H0 ps_self) _ _ [⟨sh_Mater, (.ref p_self), r15.1⟩]) := hS.pick [0] (by decide) rfl
    have hT_ := hS; clear hS; obtain ⟨p_, vs_, ev_, hl_, hS⟩ := Sep.opnO hT_; clear hT_
    have hq_ := V.ref.inj ev_; subst hq_
    obtain ⟨v37, w36, rfl, hS⟩ := hS.unr
    obtain ⟨v39, w38, rfl, hS⟩ := hS.unr
    obtain ⟨v41, w40, rfl, hS⟩ := hS.unr
    obtain ⟨v43, w42, rfl, hS⟩ := hS.unr
    obtain ⟨v45, w44, rfl, hS⟩ := hS.unr
    obtain ⟨w46, rfl, hS⟩ := hS.unrS
    obtain ⟨rfl, hS⟩ := hS.nilrow
    have hS : (Sep K Z0 (delL H0 ps_self) _ _ [⟨(Sh.dc Str Bool), v45, (r15.1).parts⟩, ⟨(Sh.told (α := (Option Str))), v43, (r15.1).fed_last⟩, ⟨(Sh.told (α := (Int × Int))), v41, (r15.1).field⟩, ⟨(Sh.lt Int), v39, (r15.1).log⟩, ⟨(Sh.lst (ShL.all (Sh.lt Str))), v37, (r15.1).pockets⟩, ⟨(Sh.husk "Mater" ["pockets", "log", "field", "fed_last", "parts", "word"]), (.ref p_self), [v37, v39, v41, v43, v45, (.str (r15.1).word)]⟩]) := hS
    obtain ⟨p47, er_⟩ := hS.ref 0 rfl
    subst er_
    obtain ⟨p48, er_⟩ := hS.ref 3 rfl
    subst er_
    obtain ⟨p49, er_⟩ := hS.ref 4 rfl
    subst er_
    refine (storeI fun number_50 en51 => ?_)
    have hm := Good.vl en51 hm
    refine ⟨_, rfl, (hS.fld 5 rfl T.nk_Mater T.cl_Mater T.na_Mater_pockets rfl ⟨_, rfl, ?_⟩)⟩
    obtain ⟨g52, hm⟩ := Good.chk hm
    have hS : (Sep K Z0 (delL H0 ps_self) _ _ [⟨(Sh.lst (ShL.all (Sh.lt Str))), (.ref p49), (r15.1).pockets⟩, ⟨(Sh.dc Str Bool), (.ref p47), (r15.1).parts⟩, ⟨(Sh.told (α := (Option Str))), v43, (r15.1).fed_last⟩, ⟨(Sh.told (α := (Int × Int))), v41, (r15.1).field⟩, ⟨(Sh.lt Int), (.ref p48), (r15.1).log⟩, ⟨(Sh.husk "Mater" ["pockets", "log", "field", "fed_last", "parts", "word"]), (.ref p_self), [(.ref p49), (.ref p48), v41, v43, (.ref p47), (.str (r15.1).word)]⟩]) := hS.pick [4, 0, 1, 2, 3, 5] (by decide) rfl
    obtain ⟨xs53, hl54, hS⟩ := hS.vals
    obtain ⟨x55, hx56, ht_⟩ := Sep.takeI g52 hS
    obtain ⟨p57, er_⟩ := ht_.ref 0 rfl; subst er_
    refine k_ixV (hS.atV 0 rfl).1 hx56 ?_
    refine ⟨tyO (ht_.L 0 rfl), ?_⟩; clear ht_
    refine ⟨_, rfl, (hS.mthH 5 rfl T.nk_Mater (by decide) ⟨_, rfl, ⟨trivial, ?_⟩⟩)⟩
    have hSB59 := hS; have bB59 := hS.bor0S
    have hS : (Sep K Z0 (delL H0 ps_self) _ _ [⟨(Sh.lstV xs53 (Sh.lt Str)), (.ref p49), (r15.1).pockets⟩, ⟨(Sh.dc Str Bool), (.ref p47), (r15.1).parts⟩, ⟨(Sh.told (α := (Option Str))), v43, (r15.1).fed_last⟩, ⟨(Sh.told (α := (Int × Int))), v41, (r15.1).field⟩, ⟨(Sh.lt Int), (.ref p48), (r15.1).log⟩, ⟨(Sh.husk "Mater" ["pockets", "log", "field", "fed_last", "parts", "word"]), (.ref p_self), [(.ref p49), (.ref p48), v41, v43, (.ref p47), (.str (r15.1).word)]⟩]) := hS.pick [0, 1, 2, 3, 4, 5] (by decide) rfl
    have hS := hS.unvals
    have hS : (Sep K Z0 (delL H0 ps_self) _ _ [⟨(Sh.dc Str Bool), (.ref p47), (r15.1).parts⟩, ⟨(Sh.told (α := (Option Str))), v43, (r15.1).fed_last⟩, ⟨(Sh.told (α := (Int × Int))), v41, (r15.1).field⟩, ⟨(Sh.lt Int), (.ref p48), (r15.1).log⟩, ⟨(Sh.lst (ShL.all (Sh.lt Str))), (.ref p49), (r15.1).pockets⟩, ⟨(Sh.husk "Mater" ["pockets", "log", "field", "fed_last", "parts", "word"]), (.ref p_self), [(.ref p49), (.ref p48), v41, v43, (.ref p47), (.str (r15.1).word)]⟩]) := hS.pick [1, 2, 3, 4, 0, 5] (by decide) rfl
    have hS := hS.mknil
    have hS := Sep.mkrS (r15.1).word hS
    have hS := hS.mkr
    have hS := hS.mkr
    have hS := hS.mkr
    have hS := hS.mkr
    have hS := hS.mkr
    have hS : (Sep K Z0 (delL H0 ps_self) _ _ [⟨sh_Mater, (.ref p_self), (⟨(r15.1).pockets, (r15.1).log, (r15.1).field, (r15.1).fed_last, (r15.1).parts, (r15.1).word⟩ : Mater)⟩]) := Sep.clsO (f := Mater.row) rfl hS
    obtain ⟨Z60, ps61, bB59, hS⟩ := hS.borS bB59 0 rfl; dsimp only [List.set] at hS
    have sB59 := Step.refl hS.zh
    refine ⟨_, _, _, _, rfl, hS.zh, (hS.fact 0 rfl), (Good.nx (Good.bnd hm)).imp (fun r58 hm => fun Z62 H63 st64 => ?_) (fun _ h_ => h_)⟩
    have sB59 := sB59.trans st64
    have hS := hS.step st64
    have stB59 := bB59.back hSB59.zh sB59
    have hS := hSB59.step stB59
    refine ⟨trivial, ?_⟩
    have hS : (Sep K Z0 (delL H0 ps_self) _ _ [⟨(Sh.lstV xs53 (Sh.lt Str)), (.ref p49), (r15.1).pockets⟩, ⟨(Sh.dc Str Bool), (.ref p47), (r15.1).parts⟩, ⟨(Sh.told (α := (Option Str))), v43, (r15.1).fed_last⟩, ⟨(Sh.told (α := (Int × Int))), v41, (r15.1).field⟩, ⟨(Sh.lt Int), (.ref p48), (r15.1).log⟩, ⟨(Sh.husk "Mater" ["pockets", "log", "field", "fed_last", "parts", "word"]), (.ref p_self), [(.ref p49), (.ref p48), v41, v43, (.ref p47), (.str (r15.1).word)]⟩]) := hS.pick [0, 1, 2, 3, 4, 5] (by decide) rfl
    have hS := Sep.takeX g52 hx56 hS
    have hS : (Sep K Z0 (delL H0 ps_self) _ _ [⟨(Sh.lt Str), (.ref p57), (getI (r15.1).pockets number_50)⟩, ⟨(Sh.lstH xs53 (jx (r15.1).pockets.length number_50) (Sh.lt Str)), (.ref p49), (r15.1).pockets⟩, ⟨(Sh.dc Str Bool), (.ref p47), (r15.1).parts⟩, ⟨(Sh.told (α := (Option Str))), v43, (r15.1).fed_last⟩, ⟨(Sh.told (α := (Int × Int))), v41, (r15.1).field⟩, ⟨(Sh.lt Int), (.ref p48), (r15.1).log⟩, ⟨(Sh.husk "Mater" ["pockets", "log", "field", "fed_last", "parts", "word"]), (.ref p_self), [(.ref p49), (.ref p48), v41, v43, (.ref p47), (.str (r15.1).word)]⟩]) := hS
    obtain ⟨g67, hm⟩ := Good.chk hm
    refine (k_append (a := r58) (hS.L 0 rfl) rfl g67 fun u65 o66 => ?_)
    have hS := hS.mutL 0 rfl o66; dsimp only [List.set] at hS
    obtain ⟨part_68, en69⟩ : ∃ z, z = ((getI (r15.1).pockets number_50) ++ [r58]) := ⟨_, rfl⟩
    rw [← en69] at hS
    have hm := Good.vl en69 hm
    have hS : (Sep K Z0 (delL H0 ps_self) _ _ [⟨(Sh.lt Str), (.ref p57), part_68⟩, ⟨(Sh.lstH xs53 (jx (r15.1).pockets.length number_50) (Sh.lt Str)), (.ref p49), (r15.1).pockets⟩, ⟨(Sh.dc Str Bool), (.ref p47), (r15.1).parts⟩, ⟨(Sh.told (α := (Option Str))), v43, (r15.1).fed_last⟩, ⟨(Sh.told (α := (Int × Int))), v41, (r15.1).field⟩, ⟨(Sh.lt Int), (.ref p48), (r15.1).log⟩, ⟨(Sh.husk "Mater" ["pockets", "log", "field", "fed_last", "parts", "word"]), (.ref p_self), [(.ref p49), (.ref p48), v41, v43, (.ref p47), (.str (r15.1).word)]⟩]) := hS.pick [0, 1, 2, 3, 4, 5, 6] (by decide) rfl
    have hS := (Sep.giveI g52 hx56 hS).unvals
    have hS : (Sep K Z0 (delL H0 ps_self) _ _ [⟨(Sh.lst (ShL.all (Sh.lt Str))), (.ref p49), (setI (r15.1).pockets number_50 part_68)⟩, ⟨(Sh.dc Str Bool), (.ref p47), (r15.1).parts⟩, ⟨(Sh.told (α := (Option Str))), v43, (r15.1).fed_last⟩, ⟨(Sh.told (α := (Int × Int))), v41, (r15.1).field⟩, ⟨(Sh.lt Int), (.ref p48), (r15.1).log⟩, ⟨(Sh.husk "Mater" ["pockets", "log", "field", "fed_last", "parts", "word"]), (.ref p_self), [(.ref p49), (.ref p48), v41, v43, (.ref p47), (.str (r15.1).word)]⟩]) := hS
    obtain ⟨self_pockets_70, en71⟩ : ∃ z, z = (setI (r15.1).pockets number_50 part_68) := ⟨_, rfl⟩
    have hS := hS.nam 0 rfl en71; dsimp only [List.set] at hS
    have hm := Good.vl en71 hm
    obtain ⟨g74, hm⟩ := Good.chk hm
    refine ⟨_, rfl, (hS.fld 5 rfl T.nk_Mater T.cl_Mater T.na_Mater_log rfl ⟨tyO (hS.L 4 rfl), ⟨_, rfl, ⟨trivial, (k_append (a := number_50) (hS.L 4 rfl) rfl g74 fun u72 o73 => ?_)⟩⟩⟩)⟩
    have hS := hS.mutL 4 rfl o73; dsimp only [List.set] at hS
    obtain ⟨self_log_75, en76⟩ : ∃ z, z = ((r15.1).log ++ [number_50]) := ⟨_, rfl⟩
    rw [← en76] at hS
    have hm := Good.vl en76 hm
    have hS : (Sep K Z0 (delL H0 ps_self) _ _ [⟨(Sh.dc Str Bool), (.ref p47), (r15.1).parts⟩, ⟨(Sh.told (α := (Option Str))), v43, (r15.1).fed_last⟩, ⟨(Sh.told (α := (Int × Int))), v41, (r15.1).field⟩, ⟨(Sh.lt Int), (.ref p48), self_log_75⟩, ⟨(Sh.lst (ShL.all (Sh.lt Str))), (.ref p49), self_pockets_70⟩, ⟨(Sh.husk "Mater" ["pockets", "log", "field", "fed_last", "parts", "word"]), (.ref p_self), [(.ref p49), (.ref p48), v41, v43, (.ref p47), (.str (r15.1).word)]⟩]) := hS.pick [1, 2, 3, 4, 0, 5] (by decide) rfl
    have hS := hS.mknil
    have hS := Sep.mkrS (r15.1).word hS
    have hS := hS.mkr
    have hS := hS.mkr
    have hS := hS.mkr
    have hS := hS.mkr
    have hS := hS.mkr
    have hS : (Sep K Z0 (delL H0 ps_self) _ _ [⟨sh_Mater, (.ref p_self), (⟨self_pockets_70, self_log_75, (r15.1).field, (r15.1).fed_last, (r15.1).parts, (r15.1).word⟩ : Mater)⟩]) := Sep.clsO (f := Mater.row) rfl hS
    obtain ⟨ps_, o_⟩ := hS.nth 0 rfl; exact hW _ hm _ _ _ hS.st o_
theorem ok_Mater_feed {f : Addr} {fd : FuncData} (F : Fun K "feed" "Machine.feed" (inClass (topS 38) 3) f fd) (gm : Meth K cb.Mater "feed" f) (T : Txt K mg ca cb) (C_Mater_pocket_for : MetX P w K mg base (L2N.CX P w) 3 cb.Mater "pocket_for" ["self", "card"] (sp_Mater_pocket_for K ca)) (C_Mater_laid : MetX P w K mg base CX0 1 cb.Mater "laid" ["self", "card"] (sp_Mater_laid K ca)) : MetX P w K mg base (L2N.CX P w) 4 cb.Mater "feed" ["self", "card"] (sp_Mater_feed K ca) :=
  ⟨⟨f, fd, T.cl_Mater, gm, okf_Mater_feed F T C_Mater_pocket_for C_Mater_laid, F.binds (ps := ["self", "card"]) fun _ _ _ _ _ _ us hl => match us, hl with | [_, _], _ => rfl⟩⟩
theorem sc_Mater_back : FnScope ["self"] ["self"] (defScope (inClass (topS 38) 5)) := ⟨rfl, rfl, rfl, by decide +kernel, rfl, by decide +kernel, by decide +kernel⟩
theorem okf_Mater_back {f : Addr} {fd : FuncData} (F : Fun K "back" "Machine.back" (inClass (topS 38) 5) f fd) (T : Txt K mg ca cb) (C_put_back : Cal P w K mg base CX0 "put_back" 1 ["some", "numbers"] (sp_put_back K ca)) : FnOk P w K mg base CX0 2 f fd ["self"] (sp_Mater_back K ca) := by
  refine F.ok sc_Mater_back (fun vs H0 Q E h => ?_) (fun cdv A outer s H0 vs Q E hr h => ?_)
  · obtain ⟨Z0, a_self, v_self, rfl, _⟩ := h
    rfl
  · obtain ⟨Z0, a_self, v_self, rfl, zh, h_self, hm⟩ := h
    have nd := sc_Mater_back.nd
    have hm_ := hm.opn; clear hm; obtain ⟨W, WE, hm, hW, hWE⟩ := hm_
    have hS := Sep.start (K := K) zh
    have hS := hS.tel h_self
    unfold m_Mater_back at hm
    refine ⟨_, (pss_one (ps_ret (pe_cal C_put_back (hr.mono (by decide)) pass0 (pa_cons (pe_fldK (K := K) rfl (pv 0) rfl) (pa_cons (pe_fldK (K := K) rfl (pv 0) rfl) pnK))))), ?_⟩
    refine ⟨_, rfl, (fld_Mater_pockets hS.zh (hS.fact 0 rfl) T.nk_Mater T.cl_Mater T.na_Mater_pockets (fun y1 hy1 => ⟨_, rfl, (fld_Mater_log hS.zh (hS.fact 0 rfl) T.nk_Mater T.cl_Mater T.na_Mater_log (fun y2 hy2 => ⟨trivial, ⟨_, _, _, _, _, rfl, hS.zh, hy1, hy2, (Good.bnd hm).imp (fun r3 hm => fun v7 ps8 Z4 H5 st6 o9 => ?_) hWE⟩⟩))⟩))⟩
    have hS := hS.tel (a := (a_self).pockets) hy1
    have hS := hS.tel (a := (a_self).log) hy2
    have hS := hS.own st6 o9
    obtain ⟨p10, er_⟩ := hS.ref 0 rfl
    subst er_
    obtain ⟨ps_, o_⟩ := hS.nth 0 rfl
    exact hW _ hm _ _ _ _ hS.st o_
theorem ok_Mater_back {f : Addr} {fd : FuncData} (F : Fun K "back" "Machine.back" (inClass (topS 38) 5) f fd) (gm : Meth K cb.Mater "back" f) (T : Txt K mg ca cb) (C_put_back : Cal P w K mg base CX0 "put_back" 1 ["some", "numbers"] (sp_put_back K ca)) : MetX P w K mg base CX0 2 cb.Mater "back" ["self"] (sp_Mater_back K ca) :=
  ⟨⟨f, fd, T.cl_Mater, gm, okf_Mater_back F T C_put_back, F.binds (ps := ["self"]) fun _ _ _ _ _ _ us hl => match us, hl with | [_], _ => rfl⟩⟩
theorem sc_law_refuses : FnScope ["_law_machine", "_law_card_here", "_law_fed", "_law_told", "_law_e"] ["_law_machine", "_law_card_here", "_law_fed"] (defScope (topS 62)) := ⟨rfl, rfl, rfl, by decide +kernel, rfl, by decide +kernel, by decide +kernel⟩
theorem okf_law_refuses {f : Addr} {fd : FuncData} (F : Fun K "_law_refuses" "_law_refuses" (topS 62) f fd) (T : Txt K mg ca cb) (C_law_deck_is : Cal P w K mg base CX0 "_law_deck_is" 1 ["_law_found", "_law_due"] (sp_law_deck_is K ca)) (C_law_is_out_NoField : CalC P w K mg base "_law_is_out" 2 ["_law_e", "_law_deck_here", "_law_place"] (sp_law_is_out_NoField K ca)) (C_law_is_out_NoOrder : CalC P w K mg base "_law_is_out" 2 ["_law_e", "_law_deck_here", "_law_place"] (sp_law_is_out_NoOrder K ca)) (C_law_is_out_NoTray : CalC P w K mg base "_law_is_out" 2 ["_law_e", "_law_deck_here", "_law_place"] (sp_law_is_out_NoTray K ca)) (C_Mater_feed : MetX P w K mg base (L2N.CX P w) 4 cb.Mater "feed" ["self", "card"] (sp_Mater_feed K ca)) (C_Mater_back : MetX P w K mg base CX0 2 cb.Mater "back" ["self"] (sp_Mater_back K ca)) : FnOk P w K mg base CX0 5 f fd ["_law_machine", "_law_card_here", "_law_fed"] (sp_law_refuses K ca) := by
  refine F.ok sc_law_refuses (fun vs H0 Q E h => ?_) (fun cdv A outer s H0 vs Q E hr h => ?_)
  · obtain ⟨Z0, a_law_machine, v_law_machine, ps_law_machine, a_law_card_here, a_law_fed, v_law_fed, rfl, _⟩ := h
    rfl
  · obtain ⟨Z0, a_law_machine, v_law_machine, ps_law_machine, a_law_card_here, a_law_fed, v_law_fed, rfl, zh, h_law_machine, hnd_law_machine, hnz_law_machine, h_law_fed, hm⟩ := h
    have nd := sc_law_refuses.nd
    have hm_ := hm.opn; clear hm; obtain ⟨W, WE, hm, hW, hWE⟩ := hm_
    have hS := Sep.lent zh h_law_machine hnd_law_machine hnz_law_machine
    obtain ⟨p_law_machine, er_⟩ := hS.ref 0 rfl; subst er_
    have hS := hS.tel h_law_fed
    unfold m_law_refuses at hm
    refine ⟨_, (pss_cons (ps_set (i := 3) nd rfl (Or.inl rfl) (pcK pe_bl)) (pss_cons (ps_try_manyC pss_nil rfl rfl takes0C (fun W pn xe tk _ => (pss_one (ps_expr (pe_mtXS C_Mater_feed (hr.mono (j := 4) (by decide)) (fun σ => L2N.passAt tk σ) (pv 0) (pa_cons (pv 1) pnK))))) (.named (i := 4) nd rfl rfl (c := .ref ca.ShopError) ⟨rfl, by decide, .inl T.gx_ShopError⟩ (fun a oe cls d pn hz hf => (pss_one (ps_set (i := 3) nd rfl (Or.inl rfl) (pe_calC C_law_is_out_NoOrder (hr.mono (by decide)) hz hf (pa_cons (pv 4) (pa_cons (pcK pe_int) (pa_cons (pe_callB (call_lenK (K := K) rfl) (by rfl) T.b_len PySem.boot_len (pa_cons (pv 2) pnK)) pnK))))))) .nil)) (pss_cons (ps_if (ptK (PW.pt (pw_or (pt_not (pt_val (pv 3))) (pw_or1 (pt_not (pt_val (pe_cal C_law_deck_is (hr.mono (by decide)) pass0 (pa_cons (pe_mtX0 C_Mater_back (hr.mono (j := 2) (by decide)) pass0 (pv 0)) (pa_cons (pv 2) pnK))))))))) (pss_one (ps_ret (pcK pe_bl))) pss_nil) (pss_one (ps_ret (puK (pe_and (pe_cmpR op_isNQ (pe_mtX C_Mater_feed (hr.mono (j := 4) (by decide)) passNC (pv 0) (pa_cons (pe_ix (ix_listK (K := K) rfl) (pv 2) (pe_un un_neg (pcK pe_int)) (fun _ _ => rfl)) pnK)) (pcK pe_non) (nomark _)) (pe_one (pe_cal C_law_deck_is (hr.mono (by decide)) pass0 (pa_cons (pe_mtX0 C_Mater_back (hr.mono (j := 2) (by decide)) pass0 (pv 0)) (pa_cons (pe_op op_cat (pv 2) (pe_slice (sl_listK (K := K) rfl) (pv 2) (po_some (pe_un un_neg (pcK pe_int))) po_noK)) pnK))))))))))), ?_⟩
    refine ⟨trivial, (storeB fun told_1 en2 => ?_)⟩
    have hm := Good.vl en2 hm
    obtain ⟨W3, WE4, hm, hK5, hF6⟩ := Good.trW hm
    refine ⟨_, rfl, (hS.mth 1 rfl T.nk_Mater (by decide) ⟨_, rfl, ⟨trivial, ?_⟩⟩)⟩
    obtain ⟨ps18, h19, lg20⟩ := hS.lend 1 rfl
    refine ⟨_, _, _, _, _, rfl, hS.zh, h19.1, h19.2.1, h19.2.2, (Good.bnd hm).imp (fun r7 hm Z21 H22 ps23 st24 o25 => ?_) (fun e8 h9 Z10 H11 ps12 cls13 d14 st15 o16 x17 => ?_)⟩
    have hS := lg20 (b := r7) st24 o25; dsimp only [List.set] at hS
    have hm := hK5 _ hm
    have hSB29 := hS; have bB29 := hS.bor0
    obtain ⟨Z30, ps31, bB29, hS⟩ := hS.bor bB29 1 rfl; dsimp only [List.set] at hS
    have sB29 := Step.refl hS.zh
    obtain ⟨W35, hmb, hWW35⟩ := Good.bndW hm
    refine ⟨trivial, testK2 (Z := Z30) (fun z_ => W35 z_) (fun Q_ q36 => ?_) (fun t34 Z37 H38 w40 st39 => ?_)⟩
    · skip
      have hm := hmb
      have sx_ := Step.refl hS.zh
      refine ⟨_, rfl, ⟨_, rfl, (ite2 (fun e41 => ?_) (fun e42 => ?_))⟩⟩
      · have hm := Good.ifT e41 hm
        exact q36 _ _ _ hm sx_
      · skip
        have hm := Good.ifF e42 hm
        refine ⟨_, rfl, (k_mthT hS.zh (hS.fact 1 rfl) T.nk_Mater (by decide) ⟨_, _, _, rfl, hS.zh, (hS.fact 1 rfl), (Good.bnd hm).imp (fun r32 hm => NewO.tel hS.zh (fun v46 Z43 H44 st45 hv46 => ?_)) hWE⟩)⟩
        have sx_ := sx_.trans st45
        have hS := (hS.step st45).tel (a := r32) hv46
        refine ⟨_, rfl, ⟨trivial, ⟨_, _, _, _, _, rfl, hS.zh, (hS.fact 0 rfl), (hS.fact 1 rfl), (Good.bnd hm).imp (fun r33 hm => fun Z49 H50 st51 => ?_) hWE⟩⟩⟩
        have sx_ := sx_.trans st51
        have hS := hS.step st51
        refine ⟨_, rfl, (q36 _ _ _ hm sx_)⟩
    have hm := hWW35 _ w40
    have sB29 := sB29.trans st39
    have hS := hS.step st39
    refine (ite2b (fun tb54 => ?_))
    have stB29 := bB29.back hSB29.zh sB29
    have hS := hSB29.step stB29
    refine ite2 (fun e52 => ?_) (fun e53 => ?_)
    · skip
      have hm := Good.ifT e52 hm
      refine ⟨trivial, ?_⟩
      have hS : (Sep K Z0 (delL H0 ps_law_machine) _ _ [⟨sh_Mater, (.ref p_law_machine), r7⟩, ⟨(Sh.told (α := (List Str))), v_law_fed, a_law_fed⟩]) := hS.pick [1, 0] (by decide) rfl
      obtain ⟨ps_, o_⟩ := hS.nth 0 rfl; exact hW _ hm _ _ _ hS.st o_
    · skip
      have hm := Good.ifF e53 hm
      obtain ⟨g55, hm⟩ := Good.chk hm
      refine ⟨trivial, ⟨_, rfl, (hS.mth 1 rfl T.nk_Mater (by decide) ⟨_, rfl, ⟨trivial, ⟨_, rfl, (k_ixLs hS.zh (hS.fact 0 rfl) g55 ⟨trivial, ?_⟩)⟩⟩⟩)⟩⟩
      obtain ⟨ps57, h58, lg59⟩ := hS.lend 1 rfl
      refine ⟨_, _, _, _, _, rfl, hS.zh, h58.1, h58.2.1, h58.2.2, (Good.nx (Good.bnd hm)).imp (fun r56 hm Z60 H61 ps62 st63 o64 => ?_) (fun _ h_ => False.elim h_)⟩
      have hS := lg59 (b := r56) st63 o64; dsimp only [List.set] at hS
      refine ⟨trivial, (k_isNn ⟨_, rfl, (ite2 (fun e65 => ?_) (fun e66 => ?_))⟩)⟩
      · skip
        have hm := Good.ifT e65 hm
        have hSB70 := hS; have bB70 := hS.bor0
        obtain ⟨Z71, ps72, bB70, hS⟩ := hS.bor bB70 1 rfl; dsimp only [List.set] at hS
        have sB70 := Step.refl hS.zh
        refine ⟨_, rfl, (k_mthT hS.zh (hS.fact 1 rfl) T.nk_Mater (by decide) ⟨_, _, _, rfl, hS.zh, (hS.fact 1 rfl), (Good.bnd hm).imp (fun r73 hm => NewO.tel hS.zh (fun v79 Z76 H77 st78 hv79 => ?_)) hWE⟩)⟩
        have sB70 := sB70.trans st78
        have hS := (hS.step st78).tel (a := r73) hv79
        refine ⟨_, rfl, ⟨_, rfl, ⟨trivial, ⟨_, rfl, ⟨_, rfl, ⟨trivial, (k_slL hS.zh (hS.fact 1 rfl) (New.tel fun v85 Z82 H83 st84 hv85 => ?_))⟩⟩⟩⟩⟩⟩
        have sB70 := sB70.trans st84
        have hS := (hS.step st84).tel (a := (cutL a_law_fed (some (-(1 : Int))) none)) hv85
        obtain ⟨g74, hm⟩ := Good.chk hm
        refine (k_catL hS.zh (RO.tell hS.zh (hS.fact 2 rfl)) (RO.tell hS.zh (hS.fact 0 rfl)) g74 (New.tel fun v89 Z86 H87 st88 hv89 => ?_))
        have sB70 := sB70.trans st88
        have hS := (hS.step st88).tel (a := (a_law_fed ++ (cutL a_law_fed (some (-(1 : Int))) none))) hv89
        refine ⟨trivial, ⟨_, _, _, _, _, rfl, hS.zh, (hS.fact 2 rfl), (hS.fact 0 rfl), (Good.bnd hm).imp (fun r75 hm => fun Z90 H91 st92 => ?_) hWE⟩⟩
        have sB70 := sB70.trans st92
        have hS := hS.step st92
        have stB70 := bB70.back hSB70.zh sB70
        have hS := hSB70.step stB70
        have hS : (Sep K Z0 (delL H0 ps_law_machine) _ _ [⟨sh_Mater, (.ref p_law_machine), r56⟩, ⟨(Sh.told (α := (List Str))), v_law_fed, a_law_fed⟩]) := hS.pick [1, 0] (by decide) rfl
        obtain ⟨ps_, o_⟩ := hS.nth 0 rfl; exact hW _ hm _ _ _ hS.st o_
      · skip
        have hm := Good.ifF e66 hm
        have hS : (Sep K Z0 (delL H0 ps_law_machine) _ _ [⟨sh_Mater, (.ref p_law_machine), r56⟩, ⟨(Sh.told (α := (List Str))), v_law_fed, a_law_fed⟩]) := hS.pick [1, 0] (by decide) rfl
        obtain ⟨ps_, o_⟩ := hS.nth 0 rfl; exact hW _ hm _ _ _ hS.st o_
    have hm := hF6 e8 h9
    have hS := lg20 (b := a_law_machine) st15 o16; dsimp only [List.set] at hS
    clear h9
    cases e8 with
    | NoField  => 
      dsimp only at hm
      exact hm.elim
    | NoOrder p_93 q_94 => 
      dsimp only at hm
      obtain ⟨rfl, xd95, rfl, hx96⟩ := x17
      have hS := hS.tel (v := .ref xd95) (a := (⟨[("place", .int q_94), ("deck", .int p_93)]⟩ : Xd)) ⟨_, rfl, hx96⟩
      refine ⟨true, T.em_NoOrder_ShopError, (fun _ ax97 na98 => ?_), (fun q => nomatch q)⟩
      refine ⟨_, rfl, ⟨trivial, ⟨_, rfl, ⟨trivial, (k_lenQ hS.zh (hS.fact 1 rfl) ⟨trivial, (fun _ hp_ => ⟨_, _, _, _, _, _, _, rfl, hS.zh, hp_, (hS.fact 0 rfl), (Good.bnd hm).imp (fun r99 hm => fun Z100 H101 st102 => ?_) hWE⟩)⟩)⟩⟩⟩⟩
      have hS := hS.step st102
      refine (tgt1 ?_)
      have hSB106 := hS; have bB106 := hS.bor0
      obtain ⟨Z107, ps108, bB106, hS⟩ := hS.bor bB106 2 rfl; dsimp only [List.set] at hS
      have sB106 := Step.refl hS.zh
      obtain ⟨W112, hmb, hWW112⟩ := Good.bndW hm
      refine ⟨trivial, testK2 (Z := Z107) (fun z_ => W112 z_) (fun Q_ q113 => ?_) (fun t111 Z114 H115 w117 st116 => ?_)⟩
      · skip
        have hm := hmb
        have sx_ := Step.refl hS.zh
        refine ⟨_, rfl, ⟨_, rfl, (ite2 (fun e118 => ?_) (fun e119 => ?_))⟩⟩
        · have hm := Good.ifT e118 hm
          exact q113 _ _ _ hm sx_
        · skip
          have hm := Good.ifF e119 hm
          refine ⟨_, rfl, (k_mthT hS.zh (hS.fact 2 rfl) T.nk_Mater (by decide) ⟨_, _, _, rfl, hS.zh, (hS.fact 2 rfl), (Good.bnd hm).imp (fun r109 hm => NewO.tel hS.zh (fun v123 Z120 H121 st122 hv123 => ?_)) hWE⟩)⟩
          have sx_ := sx_.trans st122
          have hS := (hS.step st122).tel (a := r109) hv123
          refine ⟨_, rfl, ⟨trivial, ⟨_, _, _, _, _, rfl, hS.zh, (hS.fact 0 rfl), (hS.fact 2 rfl), (Good.bnd hm).imp (fun r110 hm => fun Z126 H127 st128 => ?_) hWE⟩⟩⟩
          have sx_ := sx_.trans st128
          have hS := hS.step st128
          refine ⟨_, rfl, (q113 _ _ _ hm sx_)⟩
      have hm := hWW112 _ w117
      have sB106 := sB106.trans st116
      have hS := hS.step st116
      refine (ite2b (fun tb131 => ?_))
      have stB106 := bB106.back hSB106.zh sB106
      have hS := hSB106.step stB106
      refine ite2 (fun e129 => ?_) (fun e130 => ?_)
      · skip
        have hm := Good.ifT e129 hm
        refine ⟨trivial, ?_⟩
        have hS : (Sep K Z0 (delL H0 ps_law_machine) _ _ [⟨sh_Mater, (.ref p_law_machine), a_law_machine⟩, ⟨(Sh.told (α := Xd)), (.ref xd95), (⟨[("place", .int q_94), ("deck", .int p_93)]⟩ : Xd)⟩, ⟨(Sh.told (α := (List Str))), v_law_fed, a_law_fed⟩]) := hS.pick [2, 0, 1] (by decide) rfl
        obtain ⟨ps_, o_⟩ := hS.nth 0 rfl; exact hW _ hm _ _ _ hS.st o_
      · skip
        have hm := Good.ifF e130 hm
        obtain ⟨g132, hm⟩ := Good.chk hm
        refine ⟨trivial, ⟨_, rfl, (hS.mth 2 rfl T.nk_Mater (by decide) ⟨_, rfl, ⟨trivial, ⟨_, rfl, (k_ixLs hS.zh (hS.fact 1 rfl) g132 ⟨trivial, ?_⟩)⟩⟩⟩)⟩⟩
        obtain ⟨ps134, h135, lg136⟩ := hS.lend 2 rfl
        refine ⟨_, _, _, _, _, rfl, hS.zh, h135.1, h135.2.1, h135.2.2, (Good.nx (Good.bnd hm)).imp (fun r133 hm Z137 H138 ps139 st140 o141 => ?_) (fun _ h_ => False.elim h_)⟩
        have hS := lg136 (b := r133) st140 o141; dsimp only [List.set] at hS
        refine ⟨trivial, (k_isNn ⟨_, rfl, (ite2 (fun e142 => ?_) (fun e143 => ?_))⟩)⟩
        · skip
          have hm := Good.ifT e142 hm
          have hSB147 := hS; have bB147 := hS.bor0
          obtain ⟨Z148, ps149, bB147, hS⟩ := hS.bor bB147 2 rfl; dsimp only [List.set] at hS
          have sB147 := Step.refl hS.zh
          refine ⟨_, rfl, (k_mthT hS.zh (hS.fact 2 rfl) T.nk_Mater (by decide) ⟨_, _, _, rfl, hS.zh, (hS.fact 2 rfl), (Good.bnd hm).imp (fun r150 hm => NewO.tel hS.zh (fun v156 Z153 H154 st155 hv156 => ?_)) hWE⟩)⟩
          have sB147 := sB147.trans st155
          have hS := (hS.step st155).tel (a := r150) hv156
          refine ⟨_, rfl, ⟨_, rfl, ⟨trivial, ⟨_, rfl, ⟨_, rfl, ⟨trivial, (k_slL hS.zh (hS.fact 2 rfl) (New.tel fun v162 Z159 H160 st161 hv162 => ?_))⟩⟩⟩⟩⟩⟩
          have sB147 := sB147.trans st161
          have hS := (hS.step st161).tel (a := (cutL a_law_fed (some (-(1 : Int))) none)) hv162
          obtain ⟨g151, hm⟩ := Good.chk hm
          refine (k_catL hS.zh (RO.tell hS.zh (hS.fact 3 rfl)) (RO.tell hS.zh (hS.fact 0 rfl)) g151 (New.tel fun v166 Z163 H164 st165 hv166 => ?_))
          have sB147 := sB147.trans st165
          have hS := (hS.step st165).tel (a := (a_law_fed ++ (cutL a_law_fed (some (-(1 : Int))) none))) hv166
          refine ⟨trivial, ⟨_, _, _, _, _, rfl, hS.zh, (hS.fact 2 rfl), (hS.fact 0 rfl), (Good.bnd hm).imp (fun r152 hm => fun Z167 H168 st169 => ?_) hWE⟩⟩
          have sB147 := sB147.trans st169
          have hS := hS.step st169
          have stB147 := bB147.back hSB147.zh sB147
          have hS := hSB147.step stB147
          have hS : (Sep K Z0 (delL H0 ps_law_machine) _ _ [⟨sh_Mater, (.ref p_law_machine), r133⟩, ⟨(Sh.told (α := Xd)), (.ref xd95), (⟨[("place", .int q_94), ("deck", .int p_93)]⟩ : Xd)⟩, ⟨(Sh.told (α := (List Str))), v_law_fed, a_law_fed⟩]) := hS.pick [2, 0, 1] (by decide) rfl
          obtain ⟨ps_, o_⟩ := hS.nth 0 rfl; exact hW _ hm _ _ _ hS.st o_
        · skip
          have hm := Good.ifF e143 hm
          have hS : (Sep K Z0 (delL H0 ps_law_machine) _ _ [⟨sh_Mater, (.ref p_law_machine), r133⟩, ⟨(Sh.told (α := Xd)), (.ref xd95), (⟨[("place", .int q_94), ("deck", .int p_93)]⟩ : Xd)⟩, ⟨(Sh.told (α := (List Str))), v_law_fed, a_law_fed⟩]) := hS.pick [2, 0, 1] (by decide) rfl
          obtain ⟨ps_, o_⟩ := hS.nth 0 rfl; exact hW _ hm _ _ _ hS.st o_
    | _ => exact hm.elim
theorem ok_law_refuses {f : Addr} {fd : FuncData} (F : Fun K "_law_refuses" "_law_refuses" (topS 62) f fd) (gm : mg "_law_refuses" = some (.ref f)) (T : Txt K mg ca cb) (C_law_deck_is : Cal P w K mg base CX0 "_law_deck_is" 1 ["_law_found", "_law_due"] (sp_law_deck_is K ca)) (C_law_is_out_NoField : CalC P w K mg base "_law_is_out" 2 ["_law_e", "_law_deck_here", "_law_place"] (sp_law_is_out_NoField K ca)) (C_law_is_out_NoOrder : CalC P w K mg base "_law_is_out" 2 ["_law_e", "_law_deck_here", "_law_place"] (sp_law_is_out_NoOrder K ca)) (C_law_is_out_NoTray : CalC P w K mg base "_law_is_out" 2 ["_law_e", "_law_deck_here", "_law_place"] (sp_law_is_out_NoTray K ca)) (C_Mater_feed : MetX P w K mg base (L2N.CX P w) 4 cb.Mater "feed" ["self", "card"] (sp_Mater_feed K ca)) (C_Mater_back : MetX P w K mg base CX0 2 cb.Mater "back" ["self"] (sp_Mater_back K ca)) : Cal P w K mg base CX0 "_law_refuses" 5 ["_law_machine", "_law_card_here", "_law_fed"] (sp_law_refuses K ca) :=
  ⟨⟨f, fd, okf_law_refuses F T C_law_deck_is C_law_is_out_NoField C_law_is_out_NoOrder C_law_is_out_NoTray C_Mater_feed C_Mater_back, gm, F.kp, F.binds (ps := ["_law_machine", "_law_card_here", "_law_fed"]) fun _ _ _ _ _ _ us hl => match us, hl with | [_, _, _], _ => rfl⟩⟩
theorem sc_law_no_tray : FnScope ["_law_fields_here", "_law_word"] ["_law_fields_here", "_law_word"] (defScope (topS 63)) := ⟨rfl, rfl, rfl, by decide +kernel, rfl, by decide +kernel, by decide +kernel⟩
theorem okf_law_no_tray {f : Addr} {fd : FuncData} (F : Fun K "_law_no_tray" "_law_no_tray" (topS 63) f fd) (T : Txt K mg ca cb) (C_machine_of : Cal P w K mg base (L2N.CX P w) "machine_of" 8 ["going", "trays"] (sp_machine_of K ca)) : FnOk P w K mg base CX0 9 f fd ["_law_fields_here", "_law_word"] (sp_law_no_tray K ca) := by
  refine F.ok sc_law_no_tray (fun vs H0 Q E h => ?_) (fun cdv A outer s H0 vs Q E hr h => ?_)
  · obtain ⟨Z0, a_law_fields_here, v_law_fields_here, a_law_word, rfl, _⟩ := h
    rfl
  · obtain ⟨Z0, a_law_fields_here, v_law_fields_here, a_law_word, rfl, zh, h_law_fields_here, hm⟩ := h
    have nd := sc_law_no_tray.nd
    have hm_ := hm.opn; clear hm; obtain ⟨W, WE, hm, hW, hWE⟩ := hm_
    have hS := Sep.start (K := K) zh
    have hS := hS.tel h_law_fields_here
    unfold m_law_no_tray at hm
    refine ⟨_, (pss_cons (ps_try_manyC pss_nil rfl rfl takes0C (fun W pn xe tk _ => (pss_one (ps_expr (pe_calS C_machine_of (hr.mono (by decide)) (fun σ => L2N.passAt tk σ) (pa_cons (pe_tupQ (pa_cons (pcK pe_str) (pa_cons (pcK pe_str) (pa_cons (pcK pe_str) (pa_cons (pe_ix (ix_tupK (K := K) rfl) (pv 0) (pcK pe_int) (fun _ _ => rfl)) (pa_cons (pe_ix (ix_tupK (K := K) rfl) (pv 0) (pcK pe_int) (fun _ _ => rfl)) (pa_cons (pv 1) pnK))))))) (pa_cons (pe_dispG (ppg_cons (pcK pe_str) (pe_lstQ pnK) ppg_nil) rfl rfl (List.cons_ne_nil _ _) (by decide)) pnK)))))) (.cons (c := .ref ca.NoTray) ⟨rfl, by decide, .inl T.gx_NoTray⟩ (fun a oe cls d pn hz hf => (pss_one (ps_ret (pcK pe_bl)))) .nil)) (pss_one (ps_ret (pcK pe_bl)))), ?_⟩
    obtain ⟨W1, WE2, hm, hK3, hF4⟩ := Good.trW hm
    refine ⟨trivial, ⟨trivial, ⟨trivial, ⟨_, rfl, ⟨trivial, (k_fst hS.zh (hS.fact 0 rfl) (fun y5 hy5 => ⟨_, rfl, ⟨trivial, (k_snd hS.zh (hS.fact 0 rfl) (fun y6 hy6 => ⟨_, rfl, ⟨trivial, (k_tupTL (K := K) (m := [(ToD.td (("mate" : Str) : Str)), (ToD.td (("a" : Str) : Str)), (ToD.td (("b" : Str) : Str)), (ToD.td ((a_law_fields_here).1 : (Int × Int))), (ToD.td ((a_law_fields_here).2 : (Int × Int))), (ToD.td (a_law_word : Str))]) hS.zh (.cons (ToD.tr (α := Str) (a := ("mate" : Str)) rfl) (.cons (ToD.tr (α := Str) (a := ("a" : Str)) rfl) (.cons (ToD.tr (α := Str) (a := ("b" : Str)) rfl) (.cons (ToD.tr (α := (Int × Int)) (a := (a_law_fields_here).1) hy5) (.cons (ToD.tr (α := (Int × Int)) (a := (a_law_fields_here).2) hy6) (.cons (ToD.tr (α := Str) (a := a_law_word) rfl) .nil)))))) (Nat.le_of_ble_eq_true rfl) (fun v19 Z16 H17 st18 hv19 => ?_))⟩⟩))⟩⟩))⟩⟩⟩⟩⟩
    have hS := hS.tel (a := (a_law_fields_here).1) hy5
    have hS := hS.tel (a := (a_law_fields_here).2) hy6
    have hS := (hS.step st18).tel (a := (⟨[(ToD.td (("mate" : Str) : Str)), (ToD.td (("a" : Str) : Str)), (ToD.td (("b" : Str) : Str)), (ToD.td ((a_law_fields_here).1 : (Int × Int))), (ToD.td ((a_law_fields_here).2 : (Int × Int))), (ToD.td (a_law_word : Str))]⟩ : (TL PyData))) hv19
    intro p20 hp21
    obtain ⟨st22, hS⟩ := Sep.dnew (κ := Str) (α := (List Str)) hS hp21
    refine ⟨trivial, ⟨trivial, (k_lst (K := K) (m := ([] : (List Str))) hS.zh .nil (Nat.le_of_ble_eq_true rfl) (New.tel fun v26 Z23 H24 st25 hv26 => ?_))⟩⟩
    have hS := (hS.step st25).tel (a := ([] : (List Str))) hv26
    refine k_dispG (κ := Str) (α := (List Str)) hS 1 rfl [(("a" : Str), ([] : (List Str)))] (.cons (hS.fact 0 rfl) .nil) (Nat.le_of_ble_eq_true rfl) rfl (fun H27 hS => ?_)
    dsimp only [List.set] at hS
    obtain ⟨Z28, s29, hS⟩ := hS.tell 1 rfl; dsimp only [List.set] at hS
    refine ⟨trivial, ⟨_, _, _, _, _, rfl, hS.zh, (ToD.tr (α := (TL PyData)) (a := (⟨[(ToD.td (("mate" : Str) : Str)), (ToD.td (("a" : Str) : Str)), (ToD.td (("b" : Str) : Str)), (ToD.td ((a_law_fields_here).1 : (Int × Int))), (ToD.td ((a_law_fields_here).2 : (Int × Int))), (ToD.td (a_law_word : Str))]⟩ : (TL PyData))) (hS.fact 2 rfl)), (hS.fact 1 rfl), (Good.bnd hm).imp (fun r7 hm => NewO.tel hS.zh (fun v33 Z30 H31 st32 hv33 => ?_)) (fun e8 h9 Z10 H11 cls12 d13 st14 x15 => ?_)⟩⟩
    have hS := (hS.step st32).tel (a := r7) hv33
    have hm := hK3 _ hm
    have hS := hS.drop
    have hS := hS.drop
    have hS := hS.drop
    have hS := hS.drop
    have hS := hS.drop
    have hS := hS.drop
    refine ⟨trivial, ?_⟩
    exact hW _ hm _ _ hS.st
    have hm := hF4 e8 h9
    have hS := hS.step st14
    clear h9
    cases e8 with
    | NoField  => 
      dsimp only at hm
      exact hm.elim
    | NoOrder p_36 q_37 => 
      dsimp only at hm
      exact hm.elim
    | NoTray  => 
      dsimp only at hm
      obtain ⟨rfl, rfl⟩ := x15
      refine ⟨true, T.em_NoTray_NoTray, (fun _ ax38 na39 => ?_), (fun q => nomatch q)⟩
      have hS := hS.drop
      refine ⟨trivial, ?_⟩
      exact hW _ hm _ _ hS.st
    | _ => exact hm.elim
theorem ok_law_no_tray {f : Addr} {fd : FuncData} (F : Fun K "_law_no_tray" "_law_no_tray" (topS 63) f fd) (gm : mg "_law_no_tray" = some (.ref f)) (T : Txt K mg ca cb) (C_machine_of : Cal P w K mg base (L2N.CX P w) "machine_of" 8 ["going", "trays"] (sp_machine_of K ca)) : Cal P w K mg base CX0 "_law_no_tray" 9 ["_law_fields_here", "_law_word"] (sp_law_no_tray K ca) :=
  ⟨⟨f, fd, okf_law_no_tray F T C_machine_of, gm, F.kp, F.binds (ps := ["_law_fields_here", "_law_word"]) fun _ _ _ _ _ _ us hl => match us, hl with | [_, _], _ => rfl⟩⟩
theorem sc_Mater_finish : FnScope ["self"] ["self"] (defScope (inClass (topS 38) 4)) := ⟨rfl, rfl, rfl, by decide +kernel, rfl, by decide +kernel, by decide +kernel⟩
theorem okf_Mater_finish {f : Addr} {fd : FuncData} (F : Fun K "finish" "Machine.finish" (inClass (topS 38) 4) f fd) (T : Txt K mg ca cb) : FnOk P w K mg base CX0 1 f fd ["self"] (sp_Mater_finish K ca) := by
  refine F.ok sc_Mater_finish (fun vs H0 Q E h => ?_) (fun cdv A outer s H0 vs Q E hr h => ?_)
  · obtain ⟨Z0, a_self, v_self, rfl, _⟩ := h
    rfl
  · obtain ⟨Z0, a_self, v_self, rfl, zh, h_self, hm⟩ := h
    have nd := sc_Mater_finish.nd
    have hm_ := hm.opn; clear hm; obtain ⟨W, WE, hm, hW, hWE⟩ := hm_
    have hS := Sep.start (K := K) zh
    have hS := hS.tel h_self
    unfold m_Mater_finish at hm
    refine ⟨_, (pss_one (ps_ret (pcK pe_non))), ?_⟩
    refine ⟨trivial, ?_⟩
    exact hW _ hm _ _ hS.st
theorem ok_Mater_finish {f : Addr} {fd : FuncData} (F : Fun K "finish" "Machine.finish" (inClass (topS 38) 4) f fd) (gm : Meth K cb.Mater "finish" f) (T : Txt K mg ca cb) : MetX P w K mg base CX0 1 cb.Mater "finish" ["self"] (sp_Mater_finish K ca) :=
  ⟨⟨f, fd, T.cl_Mater, gm, okf_Mater_finish F T, F.binds (ps := ["self"]) fun _ _ _ _ _ _ us hl => match us, hl with | [_], _ => rfl⟩⟩
theorem sc_Mater_stayed : FnScope ["self"] ["self"] (defScope (inClass (topS 38) 6)) := ⟨rfl, rfl, rfl, by decide +kernel, rfl, by decide +kernel, by decide +kernel⟩
theorem okf_Mater_stayed {f : Addr} {fd : FuncData} (F : Fun K "stayed" "Machine.stayed" (inClass (topS 38) 6) f fd) (T : Txt K mg ca cb) : FnOk P w K mg base CX0 1 f fd ["self"] (sp_Mater_stayed K ca) := by
  refine F.ok sc_Mater_stayed (fun vs H0 Q E h => ?_) (fun cdv A outer s H0 vs Q E hr h => ?_)
  · obtain ⟨Z0, a_self, v_self, rfl, _⟩ := h
    rfl
  · obtain ⟨Z0, a_self, v_self, rfl, zh, h_self, hm⟩ := h
    have nd := sc_Mater_stayed.nd
    have hm_ := hm.opn; clear hm; obtain ⟨W, WE, hm, hW, hWE⟩ := hm_
    have hS := Sep.start (K := K) zh
    have hS := hS.tel h_self
    unfold m_Mater_stayed at hm
    refine ⟨_, (pss_one (ps_ret (pe_callTy (call_listK (K := K) rfl) (by rfl) T.b_list (by decide +kernel) (pa_cons (pe_ix (ix_listK (K := K) rfl) (pe_fldK (K := K) rfl (pv 0) rfl) (pcK pe_int) (fun _ _ => rfl)) pnK)))), ?_⟩
    obtain ⟨g2, hm⟩ := Good.chk hm
    refine ⟨_, rfl, (fld_Mater_pockets hS.zh (hS.fact 0 rfl) T.nk_Mater T.cl_Mater T.na_Mater_pockets (fun y1 hy1 => ⟨trivial, (k_ixL hS.zh hy1 g2 (fun y3 hy3 => ⟨trivial, (k_listQ hS.zh hy3 (New.ownS fun p7 ps8 Z4 H5 st6 o9 => ?_))⟩))⟩))⟩
    have hS := hS.tel (a := (getI (a_self).pockets (0 : Int))) hy3
    have hS := hS.own st6 o9
    obtain ⟨ps_, o_⟩ := hS.nth 0 rfl
    exact hW _ hm _ _ _ _ hS.st o_
theorem ok_Mater_stayed {f : Addr} {fd : FuncData} (F : Fun K "stayed" "Machine.stayed" (inClass (topS 38) 6) f fd) (gm : Meth K cb.Mater "stayed" f) (T : Txt K mg ca cb) : MetX P w K mg base CX0 1 cb.Mater "stayed" ["self"] (sp_Mater_stayed K ca) :=
  ⟨⟨f, fd, T.cl_Mater, gm, okf_Mater_stayed F T, F.binds (ps := ["self"]) fun _ _ _ _ _ _ us hl => match us, hl with | [_], _ => rfl⟩⟩
theorem sc_Mater_laid_aside : FnScope ["self"] ["self"] (defScope (inClass (topS 38) 7)) := ⟨rfl, rfl, rfl, by decide +kernel, rfl, by decide +kernel, by decide +kernel⟩
theorem okf_Mater_laid_aside {f : Addr} {fd : FuncData} (F : Fun K "laid_aside" "Machine.laid_aside" (inClass (topS 38) 7) f fd) (T : Txt K mg ca cb) (C_gather : Cal P w K mg base CX0 "gather" 1 ["some"] (sp_gather K ca)) : FnOk P w K mg base CX0 2 f fd ["self"] (sp_Mater_laid_aside K ca) := by
  refine F.ok sc_Mater_laid_aside (fun vs H0 Q E h => ?_) (fun cdv A outer s H0 vs Q E hr h => ?_)
  · obtain ⟨Z0, a_self, v_self, rfl, _⟩ := h
    rfl
  · obtain ⟨Z0, a_self, v_self, rfl, zh, h_self, hm⟩ := h
    have nd := sc_Mater_laid_aside.nd
    have hm_ := hm.opn; clear hm; obtain ⟨W, WE, hm, hW, hWE⟩ := hm_
    have hS := Sep.start (K := K) zh
    have hS := hS.tel h_self
    unfold m_Mater_laid_aside at hm
    refine ⟨_, (pss_one (ps_ret (pe_cal C_gather (hr.mono (by decide)) pass0 (pa_cons (pe_slice (sl_listK (K := K) rfl) (pe_fldK (K := K) rfl (pv 0) rfl) (po_some (pcK pe_int)) po_noK) pnK)))), ?_⟩
    refine ⟨_, rfl, (fld_Mater_pockets hS.zh (hS.fact 0 rfl) T.nk_Mater T.cl_Mater T.na_Mater_pockets (fun y1 hy1 => ⟨trivial, ⟨_, rfl, ⟨trivial, (k_slL hS.zh hy1 (New.tel fun v6 Z3 H4 st5 hv6 => ?_))⟩⟩⟩))⟩
    have hS := hS.tel (a := (a_self).pockets) hy1
    have hS := (hS.step st5).tel (a := (cutL (a_self).pockets (some (1 : Int)) none)) hv6
    refine ⟨trivial, ⟨_, _, _, rfl, hS.zh, (hS.fact 0 rfl), (Good.bnd hm).imp (fun r2 hm => fun v10 ps11 Z7 H8 st9 o12 => ?_) hWE⟩⟩
    have hS := hS.own st9 o12
    obtain ⟨p13, er_⟩ := hS.ref 0 rfl
    subst er_
    obtain ⟨ps_, o_⟩ := hS.nth 0 rfl
    exact hW _ hm _ _ _ _ hS.st o_
theorem ok_Mater_laid_aside {f : Addr} {fd : FuncData} (F : Fun K "laid_aside" "Machine.laid_aside" (inClass (topS 38) 7) f fd) (gm : Meth K cb.Mater "laid_aside" f) (T : Txt K mg ca cb) (C_gather : Cal P w K mg base CX0 "gather" 1 ["some"] (sp_gather K ca)) : MetX P w K mg base CX0 2 cb.Mater "laid_aside" ["self"] (sp_Mater_laid_aside K ca) :=
  ⟨⟨f, fd, T.cl_Mater, gm, okf_Mater_laid_aside F T C_gather, F.binds (ps := ["self"]) fun _ _ _ _ _ _ us hl => match us, hl with | [_], _ => rfl⟩⟩
theorem sc_Mater_lines_out : FnScope ["self"] ["self"] (defScope (inClass (topS 38) 8)) := ⟨rfl, rfl, rfl, by decide +kernel, rfl, by decide +kernel, by decide +kernel⟩
theorem okf_Mater_lines_out {f : Addr} {fd : FuncData} (F : Fun K "lines_out" "Machine.lines_out" (inClass (topS 38) 8) f fd) (T : Txt K mg ca cb) : FnOk P w K mg base CX0 1 f fd ["self"] (sp_Mater_lines_out K ca) := by
  refine F.ok sc_Mater_lines_out (fun vs H0 Q E h => ?_) (fun cdv A outer s H0 vs Q E hr h => ?_)
  · obtain ⟨Z0, a_self, v_self, rfl, _⟩ := h
    rfl
  · obtain ⟨Z0, a_self, v_self, rfl, zh, h_self, hm⟩ := h
    have nd := sc_Mater_lines_out.nd
    have hm_ := hm.opn; clear hm; obtain ⟨W, WE, hm, hW, hWE⟩ := hm_
    have hS := Sep.start (K := K) zh
    have hS := hS.tel h_self
    unfold m_Mater_lines_out at hm
    refine ⟨_, (pss_one (ps_ret (pe_lstQ pnK))), ?_⟩
    refine ⟨trivial, (k_lst (K := K) (m := ([] : (List Str))) hS.zh .nil (Nat.le_of_ble_eq_true rfl) (New.ownS fun p4 ps5 Z1 H2 st3 o6 => ?_))⟩
    have hS := hS.own st3 o6
    obtain ⟨ps_, o_⟩ := hS.nth 0 rfl
    exact hW _ hm _ _ _ _ hS.st o_
theorem ok_Mater_lines_out {f : Addr} {fd : FuncData} (F : Fun K "lines_out" "Machine.lines_out" (inClass (topS 38) 8) f fd) (gm : Meth K cb.Mater "lines_out" f) (T : Txt K mg ca cb) : MetX P w K mg base CX0 1 cb.Mater "lines_out" ["self"] (sp_Mater_lines_out K ca) :=
  ⟨⟨f, fd, T.cl_Mater, gm, okf_Mater_lines_out F T, F.binds (ps := ["self"]) fun _ _ _ _ _ _ us hl => match us, hl with | [_], _ => rfl⟩⟩
theorem sc_law_ended : FnScope ["_law_machine", "_law_ones", "_law_others", "_law_fields_here", "_law_word", "_law_known_here", "_law_card_here", "_law_kept", "_law_rest"] ["_law_machine", "_law_ones", "_law_others", "_law_fields_here", "_law_word"] (defScope (topS 64)) := ⟨rfl, rfl, rfl, by decide +kernel, rfl, by decide +kernel, by decide +kernel⟩
theorem okf_law_ended {f : Addr} {fd : FuncData} (F : Fun K "_law_ended" "_law_ended" (topS 64) f fd) (T : Txt K mg ca cb) (C_law_part : Cal P w K mg base CX0 "_law_part" 1 ["_law_card_here", "_law_field"] (sp_law_part K ca)) (C_law_deck_is : Cal P w K mg base CX0 "_law_deck_is" 1 ["_law_found", "_law_due"] (sp_law_deck_is K ca)) (C_Mater_finish : MetX P w K mg base CX0 1 cb.Mater "finish" ["self"] (sp_Mater_finish K ca)) (C_Mater_stayed : MetX P w K mg base CX0 1 cb.Mater "stayed" ["self"] (sp_Mater_stayed K ca)) (C_Mater_laid_aside : MetX P w K mg base CX0 2 cb.Mater "laid_aside" ["self"] (sp_Mater_laid_aside K ca)) (C_Mater_lines_out : MetX P w K mg base CX0 1 cb.Mater "lines_out" ["self"] (sp_Mater_lines_out K ca)) : FnOk P w K mg base CX0 3 f fd ["_law_machine", "_law_ones", "_law_others", "_law_fields_here", "_law_word"] (sp_law_ended K ca) := by
  refine F.ok sc_law_ended (fun vs H0 Q E h => ?_) (fun cdv A outer s H0 vs Q E hr h => ?_)
  · obtain ⟨Z0, a_law_machine, v_law_machine, a_law_ones, v_law_ones, a_law_others, v_law_others, a_law_fields_here, v_law_fields_here, a_law_word, rfl, _⟩ := h
    rfl
  · obtain ⟨Z0, a_law_machine, v_law_machine, a_law_ones, v_law_ones, a_law_others, v_law_others, a_law_fields_here, v_law_fields_here, a_law_word, rfl, zh, h_law_machine, h_law_ones, h_law_others, h_law_fields_here, hm⟩ := h
    have nd := sc_law_ended.nd
    have hm_ := hm.opn; clear hm; obtain ⟨W, WE, hm, hW, hWE⟩ := hm_
    have hS := Sep.start (K := K) zh
    have hS := hS.tel h_law_machine
    have hS := hS.tel h_law_ones
    have hS := hS.tel h_law_others
    have hS := hS.tel h_law_fields_here
    unfold m_law_ended at hm
    refine ⟨_, (pss_cons (ps_set (i := 5) nd rfl (Or.inr rfl) (puK pe_dnewQ)) (pss_cons (ps_for PassesOwn.never rfl (pi_list (pv 2)) (pg_name (i := 6) nd rfl (Or.inl rfl)) (pss_one (ps_dputQ (hu_of hr) (pv 5) (pe_cal C_law_part (hr.mono (by decide)) pass0 (pa_cons (pv 6) (pa_cons (pe_ix (ix_tupK (K := K) rfl) (pv 3) (pcK pe_int) (fun _ _ => rfl)) pnK))) (pcK pe_bl) rfl))) (pss_cons (ps_setLcQ (i := 7) (own := [("_law_card_here", 6)]) (g := (gName 6)) rfl nd rfl rfl (sw_true rfl rfl rfl (by decide +kernel)) (pi_list (pv 1)) (blkOk_by (N := ["_law_machine", "_law_ones", "_law_others", "_law_fields_here", "_law_word", "_law_known_here", "_law_card_here", "_law_kept", "_law_rest"]) (sc := defScope (topS 64)) (own := [("_law_card_here", 6)]) (by decide +kernel)) (by intro _ _ _ _ _; exact pg_name (i := 6) nd rfl (Or.inl rfl)) (by intro _ _ _ _ _; exact (pts_one (ptK (pt_cmpR op_eq (pe_cmp (pc_dinQ (hu_of hr) (pe_cal C_law_part (hr.mono (by decide)) pass0 (pa_cons (pv 6) (pa_cons (pe_ix (ix_tupK (K := K) rfl) (pv 3) (pcK pe_int) (fun _ _ => rfl)) pnK))) (pv 5))) (pe_cmpR op_eq (pv 4) (pcK pe_str) (nomark _)) (nomark _))))) (by intro _ _ _ _ _; exact (pv 6))) (pss_cons (ps_setLcQ (i := 8) (own := [("_law_card_here", 6)]) (g := (gName 6)) rfl nd rfl rfl (sw_true rfl rfl rfl (by decide +kernel)) (pi_list (pv 1)) (blkOk_by (N := ["_law_machine", "_law_ones", "_law_others", "_law_fields_here", "_law_word", "_law_known_here", "_law_card_here", "_law_kept", "_law_rest"]) (sc := defScope (topS 64)) (own := [("_law_card_here", 6)]) (by decide +kernel)) (by intro _ _ _ _ _; exact pg_name (i := 6) nd rfl (Or.inl rfl)) (by intro _ _ _ _ _; exact (pts_one (ptK (pt_cmpR op_ne (pe_cmp (pc_dinQ (hu_of hr) (pe_cal C_law_part (hr.mono (by decide)) pass0 (pa_cons (pv 6) (pa_cons (pe_ix (ix_tupK (K := K) rfl) (pv 3) (pcK pe_int) (fun _ _ => rfl)) pnK))) (pv 5))) (pe_cmpR op_eq (pv 4) (pcK pe_str) (nomark _)) (nomark _))))) (by intro _ _ _ _ _; exact (pv 6))) (pss_cons (ps_if (ptK (PW.pt (pw_or (pt_cmpR op_notNQ (pe_mtX0 C_Mater_finish (hr.mono (j := 1) (by decide)) pass0 (pv 0)) (pcK pe_non) (nomark _)) (pw_or1 (pt_not (pt_val (pe_cal C_law_deck_is (hr.mono (by decide)) pass0 (pa_cons (pe_mtX0 C_Mater_stayed (hr.mono (j := 1) (by decide)) pass0 (pv 0)) (pa_cons (pv 7) pnK))))))))) (pss_one (ps_ret (pcK pe_bl))) pss_nil) (pss_cons (ps_expr (pe_bm PySem.F.plainAttrs_list PySem.F.slot_list_append PySem.F.type_list_append mt_append (pe_mtX0 C_Mater_stayed (hr.mono (j := 1) (by decide)) pass0 (pv 0)) (pa_cons (pcK pe_str) pnK))) (pss_cons (ps_if (ptK (pt_not (pt_val (pe_cal C_law_deck_is (hr.mono (by decide)) pass0 (pa_cons (pe_mtX0 C_Mater_laid_aside (hr.mono (j := 2) (by decide)) pass0 (pv 0)) (pa_cons (pv 8) pnK)))))) (pss_one (ps_ret (pcK pe_bl))) pss_nil) (pss_one (ps_ret (puK (pe_and (pe_cal C_law_deck_is (hr.mono (by decide)) pass0 (pa_cons (pe_mtX0 C_Mater_stayed (hr.mono (j := 1) (by decide)) pass0 (pv 0)) (pa_cons (pv 7) pnK))) (pe_one (pe_cmpR (op_eqCK (K := K) rfl hr.units) (pe_mtX0 C_Mater_lines_out (hr.mono (j := 1) (by decide)) pass0 (pv 0)) (pe_lstQ pnK) (nomark _)))))))))))))), ?_⟩
    refine ⟨trivial, (k_dnew (K := K) (κ := Str) (α := Bool) hS.zh (NewD.gen fun known_here_1 en2 => NewD.ownS fun p6 ps7 Z3 H4 st5 o8 => ?_))⟩
    have hS := hS.own st5 o8
    refine (tgt1 ?_)
    have hm := Good.vl en2 hm
    obtain ⟨a9, xs10, ev11, hz12, pr13⟩ := pyL (hS.fact 2 rfl)
    obtain ⟨W17, hm, hWW17⟩ := Good.bndW hm
    refine ⟨_, rfl, ⟨_, ev11, ⟨_, SqL.of (hS.zh _ _ hz12)⟩, (forK (Z := Z3) (L := a_law_others) (src_list hz12 pr13) (fun rr σr Hr Zr => (∃ (known_here_14 : (Dct Str Bool)) (v15 : V) (w_law_card_here : Option V), σr = [some v_law_machine, some v_law_ones, some v_law_others, some v_law_fields_here, some (.str a_law_word), some v15, w_law_card_here, none, none] ∧ Sep K Z0 H0 Zr Hr [⟨(Sh.dc Str Bool), v15, known_here_14⟩, ⟨(Sh.told (α := Mater)), v_law_machine, a_law_machine⟩, ⟨(Sh.told (α := (List Str))), v_law_ones, a_law_ones⟩, ⟨(Sh.told (α := (List Str))), v_law_others, a_law_others⟩, ⟨(Sh.told (α := ((Int × Int) × (Int × Int)))), v_law_fields_here, a_law_fields_here⟩] ∧ Same Z3 Zr ∧ (Good (forR (fun (s_ : (Dct Str Bool)) (q_ : Str) => m_law_ended_b0 a_law_fields_here s_ q_) known_here_14 rr) W17 WE))) ?_ ?_ ?_ ?_)⟩⟩
    · rintro rr σr Hr Zr hk
      obtain ⟨known_here_14, v15, w_law_card_here, rfl, hS, sm16, hm⟩ := hk
      obtain ⟨p46, er_⟩ := hS.ref 0 rfl
      subst er_
      exact ⟨sm16, hS.zh⟩
    · exact ⟨Z3, known_here_1, ((.ref p6)), (none), rfl, hS.pick [0, 4, 3, 2, 1] (by decide) rfl, Same.refl _, hm⟩
    · skip
      intro card_here_18 r19 x20 sg21 H22 H23 Z24 mem25 dec26 hp27 y28
      obtain ⟨known_here_14, v15, w_law_card_here, rfl, hS, sm16, hm⟩ := hp27
      obtain ⟨p29, er_⟩ := hS.ref 0 rfl
      subst er_
      obtain ⟨W30, hm, hn31⟩ := Good.forR hm
      have hm : Good (m_law_ended_b0 a_law_fields_here known_here_14 card_here_18) _ _ := hm; unfold m_law_ended_b0 at hm
      obtain ⟨rfl, rfl⟩ := y28
      refine (tgt1 ?_)
      refine ⟨trivial, ⟨_, rfl, ⟨_, rfl, ⟨_, rfl, ⟨trivial, (k_snd hS.zh (hS.fact 4 rfl) (fun y36 hy36 => ⟨trivial, ⟨_, _, _, _, rfl, hS.zh, hy36, (Good.bnd hm).imp (fun r37 hm => fun Z38 H39 st40 => ?_) hWE⟩⟩))⟩⟩⟩⟩⟩
      have hS := hS.tel (a := (a_law_fields_here).2) hy36
      have sm16 := sm16.trans st40.zz
      have hS := hS.step st40
      obtain ⟨g43, hm⟩ := Good.chk hm
      refine (k_dput (k0 := r37) (a := true) (hS.D 1 rfl) rfl g43 (fun u41 o42 => ?_))
      have hS := hS.mutD 1 rfl o42; dsimp only [List.set] at hS
      obtain ⟨known_here_44, en45⟩ : ∃ z, z = (⟨dPut (known_here_14).kv r37 true⟩ : (Dct Str Bool)) := ⟨_, rfl⟩
      rw [← en45] at hS
      have hm := Good.vl en45 hm
      have hm := hn31 _ hm
      exact ⟨_, known_here_44, ((.ref p29)), (some (.str card_here_18)), rfl, hS.pick [1, 2, 3, 4, 5] (by decide) rfl, sm16, hm⟩
    · intro sg47 H48 Z49 hp50
      obtain ⟨known_here_14, v15, w_law_card_here, rfl, hS, sm16, hm⟩ := hp50
      obtain ⟨p51, er_⟩ := hS.ref 0 rfl
      subst er_
      have hm := hWW17 _ hm
      obtain ⟨g57, hm⟩ := Good.chk hm
      obtain ⟨a59, xs60, ev61, hz62, pr63⟩ := pyL (hS.fact 2 rfl)
      obtain ⟨W77, hmc, hWW77⟩ := Good.bndW hm
      refine ⟨_, rfl, ⟨_, ev61, ⟨_, SqL.of (hS.zh _ _ hz62)⟩, (lcMK (K := K) (src_list hz62 pr63) hS.zh _ g57 (hmc.imp (fun _ h_ => h_) hWE) (fun card_here_52 x64 Z65 H66 H67 C68 N69 Wo75 mem70 st71 y72 hm76 kC73 kN74 => ?_) (fun r58 wW77 => (New.tel fun v81 Z78 H79 st80 hv81 => ?_)))⟩⟩
      · skip
        have hS := hS.step st71
        have sx_ := Step.refl hS.zh
        have hm := hm76
        have hWE : ∀ e_, NoE e_ → False := fun _ h => h
        obtain ⟨rfl, rfl⟩ := y72
        refine (tgt1 ?_)
        refine ⟨rfl, ⟨trivial, ⟨_, rfl, ⟨_, rfl, ⟨trivial, (k_fst hS.zh (hS.fact 4 rfl) (fun y55 hy55 => ⟨trivial, ⟨_, _, _, _, rfl, hS.zh, hy55, (Good.bnd hm).imp (fun r56 hm => fun Z82 H83 st84 => ?_) hWE⟩⟩))⟩⟩⟩⟩⟩
        have hS := hS.tel (a := (a_law_fields_here).1) hy55
        have sx_ := sx_.trans st84
        have hS := hS.step st84
        refine ⟨_, rfl, (k_din (RD.own (hS.D 1 rfl)) ⟨_, rfl, ⟨trivial, (k_eqS (k_eqB ⟨_, rfl, (ite2 (fun e85 => ?_) (fun e86 => ?_))⟩))⟩⟩)⟩
        · skip
          have hm := Good.ifT e85 hm
          refine ⟨_, rfl, (kC73 _ hm _ _ _ sx_ rfl)⟩
        · skip
          have hm := Good.ifF e86 hm
          exact kN74 hm _ _ sx_
      have hm := hWW77 _ wW77
      have hS := (hS.step st80).tel (a := r58) hv81
      refine (tgt1 ?_)
      obtain ⟨g92, hm⟩ := Good.chk hm
      obtain ⟨a94, xs95, ev96, hz97, pr98⟩ := pyL (hS.fact 3 rfl)
      obtain ⟨W112, hmc, hWW112⟩ := Good.bndW hm
      refine ⟨_, rfl, ⟨_, ev96, ⟨_, SqL.of (hS.zh _ _ hz97)⟩, (lcMK (K := K) (src_list hz97 pr98) hS.zh _ g92 (hmc.imp (fun _ h_ => h_) hWE) (fun card_here_87 x99 Z100 H101 H102 C103 N104 Wo110 mem105 st106 y107 hm111 kC108 kN109 => ?_) (fun r93 wW112 => (New.tel fun v116 Z113 H114 st115 hv116 => ?_)))⟩⟩
      · skip
        have hS := hS.step st106
        have sx_ := Step.refl hS.zh
        have hm := hm111
        have hWE : ∀ e_, NoE e_ → False := fun _ h => h
        obtain ⟨rfl, rfl⟩ := y107
        refine (tgt1 ?_)
        refine ⟨rfl, ⟨trivial, ⟨_, rfl, ⟨_, rfl, ⟨trivial, (k_fst hS.zh (hS.fact 5 rfl) (fun y90 hy90 => ⟨trivial, ⟨_, _, _, _, rfl, hS.zh, hy90, (Good.bnd hm).imp (fun r91 hm => fun Z117 H118 st119 => ?_) hWE⟩⟩))⟩⟩⟩⟩⟩
        have hS := hS.tel (a := (a_law_fields_here).1) hy90
        have sx_ := sx_.trans st119
        have hS := hS.step st119
        refine ⟨_, rfl, (k_din (RD.own (hS.D 2 rfl)) ⟨_, rfl, ⟨trivial, (k_eqS (k_neB ⟨_, rfl, (ite2 (fun e120 => ?_) (fun e121 => ?_))⟩))⟩⟩)⟩
        · skip
          have hm := Good.ifT e120 hm
          refine ⟨_, rfl, (kC108 _ hm _ _ _ sx_ rfl)⟩
        · skip
          have hm := Good.ifF e121 hm
          exact kN109 hm _ _ sx_
      have hm := hWW112 _ wW112
      have hS := (hS.step st115).tel (a := r93) hv116
      refine (tgt1 ?_)
      obtain ⟨W126, hmb, hWW126⟩ := Good.bndW hm
      refine ⟨trivial, testK2 (Z := Z113) (fun z_ => W126 z_) (fun Q_ q127 => ?_) (fun t125 Z128 H129 w131 st130 => ?_)⟩
      · skip
        have hm := hmb
        have sx_ := Step.refl hS.zh
        refine ⟨_, rfl, (k_mthT hS.zh (hS.fact 3 rfl) T.nk_Mater (by decide) ⟨_, _, _, rfl, hS.zh, (hS.fact 3 rfl), (Good.bnd hm).imp (fun r122 hm => fun Z132 H133 st134 => ?_) hWE⟩)⟩
        have sx_ := sx_.trans st134
        have hS := hS.step st134
        refine ⟨trivial, (k_notNn ⟨_, rfl, (ite2 (fun e135 => ?_) (fun e136 => ?_))⟩)⟩
        · have hm := Good.ifT e135 hm
          exact q127 _ _ _ hm sx_
        · skip
          have hm := Good.ifF e136 hm
          refine ⟨_, rfl, (k_mthT hS.zh (hS.fact 3 rfl) T.nk_Mater (by decide) ⟨_, _, _, rfl, hS.zh, (hS.fact 3 rfl), (Good.bnd hm).imp (fun r123 hm => NewO.tel hS.zh (fun v140 Z137 H138 st139 hv140 => ?_)) hWE⟩)⟩
          have sx_ := sx_.trans st139
          have hS := (hS.step st139).tel (a := r123) hv140
          refine ⟨_, rfl, ⟨trivial, ⟨_, _, _, _, _, rfl, hS.zh, (hS.fact 0 rfl), (hS.fact 2 rfl), (Good.bnd hm).imp (fun r124 hm => fun Z143 H144 st145 => ?_) hWE⟩⟩⟩
          have sx_ := sx_.trans st145
          have hS := hS.step st145
          refine ⟨_, rfl, (q127 _ _ _ hm sx_)⟩
      have hm := hWW126 _ w131
      have hS := hS.step st130
      refine (ite2 (fun e146 => ?_) (fun e147 => ?_))
      · skip
        have hm := Good.ifT e146 hm
        refine ⟨trivial, ?_⟩
        exact hW _ hm _ _ hS.st
      · skip
        have hm := Good.ifF e147 hm
        refine ⟨_, rfl, (k_mthT hS.zh (hS.fact 3 rfl) T.nk_Mater (by decide) ⟨_, _, _, rfl, hS.zh, (hS.fact 3 rfl), (Good.bnd hm).imp (fun r149 hm => fun v153 ps154 Z150 H151 st152 o155 => ?_) hWE⟩)⟩
        have hS := hS.own st152 o155
        obtain ⟨p156, er_⟩ := hS.ref 0 rfl
        subst er_
        refine ⟨tyO (hS.L 0 rfl), ?_⟩
        obtain ⟨g159, hm⟩ := Good.chk hm
        refine ⟨trivial, ⟨trivial, (k_append (a := ("" : Str)) (hS.L 0 rfl) rfl g159 fun u157 o158 => ?_)⟩⟩
        have hS := hS.mutL 0 rfl o158; dsimp only [List.set] at hS
        have hS := hS.drop
        refine ⟨trivial, ⟨_, rfl, (k_mthT hS.zh (hS.fact 3 rfl) T.nk_Mater (by decide) ⟨_, _, _, rfl, hS.zh, (hS.fact 3 rfl), (Good.bnd hm).imp (fun r160 hm => NewO.tel hS.zh (fun v165 Z162 H163 st164 hv165 => ?_)) hWE⟩)⟩⟩
        have hS := (hS.step st164).tel (a := r160) hv165
        refine ⟨_, rfl, ⟨trivial, ⟨_, _, _, _, _, rfl, hS.zh, (hS.fact 0 rfl), (hS.fact 1 rfl), (Good.bnd hm).imp (fun r161 hm => fun Z168 H169 st170 => ?_) hWE⟩⟩⟩
        have hS := hS.step st170
        refine ⟨_, rfl, (ite2 (fun e171 => ?_) (fun e172 => ?_))⟩
        · skip
          have hm := Good.ifT e171 hm
          have hS := hS.drop
          refine ⟨trivial, ?_⟩
          exact hW _ hm _ _ hS.st
        · skip
          have hm := Good.ifF e172 hm
          have hS := hS.drop
          obtain ⟨W177, hmb, hWW177⟩ := Good.bndW hm
          refine ⟨trivial, valK2 (Z := Z168) (fun z_ => W177 z_) (fun Q_ q178 => ?_) (fun t176 Z179 H180 w182 st181 => ?_)⟩
          · skip
            have hm := hmb
            have sx_ := Step.refl hS.zh
            refine ⟨_, rfl, (k_mthT hS.zh (hS.fact 3 rfl) T.nk_Mater (by decide) ⟨_, _, _, rfl, hS.zh, (hS.fact 3 rfl), (Good.bnd hm).imp (fun r173 hm => NewO.tel hS.zh (fun v186 Z183 H184 st185 hv186 => ?_)) hWE⟩)⟩
            have sx_ := sx_.trans st185
            have hS := (hS.step st185).tel (a := r173) hv186
            refine ⟨_, rfl, ⟨trivial, ⟨_, _, _, _, _, rfl, hS.zh, (hS.fact 0 rfl), (hS.fact 2 rfl), (Good.bnd hm).imp (fun r174 hm => fun Z189 H190 st191 => ?_) hWE⟩⟩⟩
            have sx_ := sx_.trans st191
            have hS := hS.step st191
            refine ⟨_, rfl, (ite2 (fun e192 => ?_) (fun e193 => ?_))⟩
            · skip
              have hm := Good.ifT e192 hm
              refine ⟨_, rfl, (k_mthT hS.zh (hS.fact 4 rfl) T.nk_Mater (by decide) ⟨_, _, _, rfl, hS.zh, (hS.fact 4 rfl), (Good.bnd hm).imp (fun r175 hm => NewO.tel hS.zh (fun v197 Z194 H195 st196 hv197 => ?_)) hWE⟩)⟩
              have sx_ := sx_.trans st196
              have hS := (hS.step st196).tel (a := r175) hv197
              refine ⟨trivial, (k_lst (K := K) (m := ([] : (List Str))) hS.zh .nil (Nat.le_of_ble_eq_true rfl) (New.tel fun v203 Z200 H201 st202 hv203 => ?_))⟩
              have sx_ := sx_.trans st202
              have hS := (hS.step st202).tel (a := ([] : (List Str))) hv203
              refine (k_eqL (α := (List Str)) (Rn.tel hS.zh (hS.fact 1 rfl)) (Rn.tel hS.zh (hS.fact 0 rfl)) (Nat.le_of_ble_eq_true rfl) (q178 _ _ _ hm sx_))
            · have hm := Good.ifF e193 hm
              exact q178 _ _ _ hm sx_
          have hm := hWW177 _ w182
          have hS := hS.step st181
          exact hW _ hm _ _ hS.st
theorem ok_law_ended {f : Addr} {fd : FuncData} (F : Fun K "_law_ended" "_law_ended" (topS 64) f fd) (gm : mg "_law_ended" = some (.ref f)) (T : Txt K mg ca cb) (C_law_part : Cal P w K mg base CX0 "_law_part" 1 ["_law_card_here", "_law_field"] (sp_law_part K ca)) (C_law_deck_is : Cal P w K mg base CX0 "_law_deck_is" 1 ["_law_found", "_law_due"] (sp_law_deck_is K ca)) (C_Mater_finish : MetX P w K mg base CX0 1 cb.Mater "finish" ["self"] (sp_Mater_finish K ca)) (C_Mater_stayed : MetX P w K mg base CX0 1 cb.Mater "stayed" ["self"] (sp_Mater_stayed K ca)) (C_Mater_laid_aside : MetX P w K mg base CX0 2 cb.Mater "laid_aside" ["self"] (sp_Mater_laid_aside K ca)) (C_Mater_lines_out : MetX P w K mg base CX0 1 cb.Mater "lines_out" ["self"] (sp_Mater_lines_out K ca)) : Cal P w K mg base CX0 "_law_ended" 3 ["_law_machine", "_law_ones", "_law_others", "_law_fields_here", "_law_word"] (sp_law_ended K ca) :=
  ⟨⟨f, fd, okf_law_ended F T C_law_part C_law_deck_is C_Mater_finish C_Mater_stayed C_Mater_laid_aside C_Mater_lines_out, gm, F.kp, F.binds (ps := ["_law_machine", "_law_ones", "_law_others", "_law_fields_here", "_law_word"]) fun _ _ _ _ _ _ us hl => match us, hl with | [_, _, _, _, _], _ => rfl⟩⟩
theorem sc_law : FnScope ["_law_script", "_law_cells", "_law_cut", "_law_deck_here", "_law_ones", "_law_others", "_law_third", "_law_fields_here", "_law_word", "_law_place", "_law_handed", "_law_machine", "_law_k", "_law_card_here", "_law_before"] ["_law_script"] (defScope (topS 65)) := ⟨rfl, rfl, rfl, by decide +kernel, rfl, by decide +kernel, by decide +kernel⟩
theorem okf_law {f : Addr} {fd : FuncData} (F : Fun K "law" "law" (topS 65) f fd) (T : Txt K mg ca cb) (C_law_cell_at : Cal P w K mg base CX0 "_law_cell_at" 1 ["_law_script", "_law_k"] (sp_law_cell_at K ca)) (C_law_deck : Cal P w K mg base CX0 "_law_deck" 2 ["_law_cells", "_law_way"] (sp_law_deck K ca)) (C_law_part : Cal P w K mg base CX0 "_law_part" 1 ["_law_card_here", "_law_field"] (sp_law_part K ca)) (C_law_deck_is : Cal P w K mg base CX0 "_law_deck_is" 1 ["_law_found", "_law_due"] (sp_law_deck_is K ca)) (C_law_ordered : Cal P w K mg base CX0 "_law_ordered" 2 ["_law_deck_here", "_law_field"] (sp_law_ordered K ca)) (C_law_fields : Cal P w K mg base CX0 "_law_fields" 1 ["_law_cell"] (sp_law_fields K ca)) (C_law_out : Cal P w K mg base CX0 "_law_out" 2 ["_law_deck_here", "_law_field"] (sp_law_out K ca)) (C_law_made : Cal P w K mg base (L2N.CX P w) "_law_made" 9 ["_law_fields_here", "_law_others", "_law_word", "_law_way"] (sp_law_made K ca)) (C_law_no_machine : Cal P w K mg base CX0 "_law_no_machine" 10 ["_law_fields_here", "_law_others", "_law_word", "_law_way", "_law_place"] (sp_law_no_machine K ca)) (C_Mater_feed : MetX P w K mg base (L2N.CX P w) 4 cb.Mater "feed" ["self", "card"] (sp_Mater_feed K ca)) (C_Mater_back : MetX P w K mg base CX0 2 cb.Mater "back" ["self"] (sp_Mater_back K ca)) (C_law_refuses : Cal P w K mg base CX0 "_law_refuses" 5 ["_law_machine", "_law_card_here", "_law_fed"] (sp_law_refuses K ca)) (C_law_no_tray : Cal P w K mg base CX0 "_law_no_tray" 9 ["_law_fields_here", "_law_word"] (sp_law_no_tray K ca)) (C_law_ended : Cal P w K mg base CX0 "_law_ended" 3 ["_law_machine", "_law_ones", "_law_others", "_law_fields_here", "_law_word"] (sp_law_ended K ca)) : FnOk P w K mg base CX0 11 f fd ["_law_script"] (sp_law K) := by
  refine F.ok sc_law (fun vs H0 Q E h => ?_) (fun cdv A outer s H0 vs Q E hr h => ?_)
  · obtain ⟨Z0, a_law_script, v_law_script, rfl, _⟩ := h
    rfl
  · obtain ⟨Z0, a_law_script, v_law_script, rfl, zh, h_law_script, hm⟩ := h
    have nd := sc_law.nd
    have hm_ := hm.opn; clear hm; obtain ⟨W, WE, hm, hW, hWE⟩ := hm_
    have hS := Sep.start (K := K) zh
    have hS := hS.tel h_law_script
    unfold m_law at hm
    refine ⟨_, (pss_cons (ps_set (i := 1) nd rfl (Or.inl rfl) (pe_slice (sl_listK (K := K) rfl) (pv 0) (po_some (pcK pe_int)) (po_some (pcK pe_int)))) (pss_cons (ps_set (i := 2) nd rfl (Or.inl rfl) (pe_op op_mod (pe_cal C_law_cell_at (hr.mono (by decide)) pass0 (pa_cons (pv 0) (pa_cons (pcK pe_int) pnK))) (pe_op op_add (pe_callB (call_lenK (K := K) rfl) (by rfl) T.b_len PySem.boot_len (pa_cons (pv 1) pnK)) (pcK pe_int)))) (pss_cons (ps_set (i := 3) nd rfl (Or.inl rfl) (pe_cal C_law_deck (hr.mono (by decide)) pass0 (pa_cons (pv 1) (pa_cons (pe_cal C_law_cell_at (hr.mono (by decide)) pass0 (pa_cons (pv 0) (pa_cons (pcK pe_int) pnK))) pnK)))) (pss_cons (ps_set (i := 4) nd rfl (Or.inl rfl) (pe_slice (sl_listK (K := K) rfl) (pv 3) po_noK (po_some (pv 2)))) (pss_cons (ps_set (i := 5) nd rfl (Or.inl rfl) (pe_slice (sl_listK (K := K) rfl) (pv 3) (po_some (pv 2)) po_noK)) (pss_cons (ps_set (i := 6) nd rfl (Or.inl rfl) (pe_cal C_law_cell_at (hr.mono (by decide)) pass0 (pa_cons (pv 0) (pa_cons (pcK pe_int) pnK)))) (pss_cons (ps_set (i := 7) nd rfl (Or.inl rfl) (pe_cal C_law_fields (hr.mono (by decide)) pass0 (pa_cons (pv 6) pnK))) (pss_cons (ps_set (i := 8) nd rfl (Or.inl rfl) (pe_ix (ix_listK (K := K) rfl) (pe_lstQ (pa_cons (pcK pe_str) (pa_cons (pcK pe_str) pnK))) (pe_op op_mod (pv 6) (pcK pe_int)) (fun _ _ => rfl))) (Evl.pss_cut (ps_if (pt_cmpR op_gt (pe_op op_mod (pe_op op_fdiv (pv 6) (pcK pe_int)) (pcK pe_int)) (pcK pe_int) (nomark _)) (pss_one (ps_set (i := 4) nd rfl (Or.inl rfl) (pe_cal C_law_ordered (hr.mono (by decide)) pass0 (pa_cons (pv 4) (pa_cons (pe_ix (ix_tupK (K := K) rfl) (pv 7) (pcK pe_int) (fun _ _ => rfl)) pnK))))) pss_nil) (Evl.pss_cut (ps_if (pt_cmpR op_gt (pe_op op_mod (pe_op op_fdiv (pv 6) (pcK pe_int)) (pcK pe_int)) (pcK pe_int) (nomark _)) (pss_one (ps_set (i := 5) nd rfl (Or.inl rfl) (pe_cal C_law_ordered (hr.mono (by decide)) pass0 (pa_cons (pv 5) (pa_cons (pe_ix (ix_tupK (K := K) rfl) (pv 7) (pcK pe_int) (fun _ _ => rfl)) pnK))))) pss_nil) (pss_cons (ps_set (i := 9) nd rfl (Or.inl rfl) (pe_cal C_law_out (hr.mono (by decide)) pass0 (pa_cons (pv 5) (pa_cons (pe_ix (ix_tupK (K := K) rfl) (pv 7) (pcK pe_int) (fun _ _ => rfl)) pnK)))) (pss_cons (ps_if (pt_cmpR op_notNQ (pv 9) (pcK pe_non) (nomark _)) (pss_one (ps_ret (pe_cal C_law_no_machine (hr.mono (by decide)) pass0 (pa_cons (pv 7) (pa_cons (pv 5) (pa_cons (pv 8) (pa_cons (pe_op op_fdiv (pv 6) (pcK pe_int)) (pa_cons (pv 9) pnK)))))))) pss_nil) (pss_cons (ps_set (i := 10) nd rfl (Or.inl rfl) (pe_callTy (call_listK (K := K) rfl) (by rfl) T.b_list (by decide +kernel) (pa_cons (pv 5) pnK))) (pss_cons (ps_set (i := 11) nd rfl (Or.inl rfl) (pe_cal C_law_made (hr.mono (by decide)) passNC (pa_cons (pv 7) (pa_cons (pv 10) (pa_cons (pv 8) (pa_cons (pe_op op_fdiv (pv 6) (pcK pe_int)) pnK)))))) (pss_cons (ps_if (ptK (PW.pt (pw_or (pt_cmpR (op_neCK (K := K) rfl hr.units) (pv 10) (pv 5) (nomark _)) (pw_or (pt_not (pt_val (pe_callB call_isi (by rfl) T.b_isinstance (by decide +kernel) (pa_cons (pv 11) (pa_cons (pcK (pe_glob (v := .ref cb.Machine) rfl T.gb_Machine rfl)) pnK))))) (pw_or1 (pt_not (pt_val (pe_cal C_law_no_tray (hr.mono (by decide)) pass0 (pa_cons (pv 7) (pa_cons (pv 8) pnK)))))))))) (pss_one (ps_ret (pcK pe_bl))) pss_nil) (pss_cons (ps_expr (pe_bm0 PySem.F.plainAttrs_list PySem.F.slot_list_clear PySem.F.type_list_clear mt_clear (pv 10))) (pss_cons (ps_for PassesOwn.never rfl (pi_enum rfl T.b_enumerate (pa_cons (pv 4) pnK)) (pg_tup rfl (pgs_cons (pg_name (i := 12) nd rfl (Or.inl rfl)) (pgs_cons (pg_name (i := 13) nd rfl (Or.inl rfl)) pgs_nil))) (pss_cons (ps_set (i := 14) nd rfl (Or.inl rfl) (pe_ix (ix_listK (K := K) rfl) (pv 4) (pe_callB (call_max2 rfl) (by rfl) T.b_max (by decide +kernel) (pa_cons (pcK pe_int) (pa_cons (pe_op op_sub (pv 12) (pcK pe_int)) pnK))) (fun _ _ => rfl))) (pss_cons (ps_if (ptK (pt_cmpR op_lt_str (pe_cal C_law_part (hr.mono (by decide)) pass0 (pa_cons (pv 13) (pa_cons (pe_ix (ix_tupK (K := K) rfl) (pv 7) (pcK pe_int) (fun _ _ => rfl)) pnK))) (pe_cal C_law_part (hr.mono (by decide)) pass0 (pa_cons (pv 14) (pa_cons (pe_ix (ix_tupK (K := K) rfl) (pv 7) (pcK pe_int) (fun _ _ => rfl)) pnK))) (nomark _))) (pss_one (ps_ret (pe_cal C_law_refuses (hr.mono (by decide)) pass0 (pa_cons (pv 11) (pa_cons (pv 13) (pa_cons (pe_slice (sl_listK (K := K) rfl) (pv 4) po_noK (po_some (pv 12))) pnK)))))) pss_nil) (pss_one (ps_if (ptK (PW.pt (pw_or (pt_cmpR op_notNQ (pe_mtX C_Mater_feed (hr.mono (j := 4) (by decide)) passNC (pv 11) (pa_cons (pv 13) pnK)) (pcK pe_non) (nomark _)) (pw_or1 (pt_not (pt_val (pe_cal C_law_deck_is (hr.mono (by decide)) pass0 (pa_cons (pe_mtX0 C_Mater_back (hr.mono (j := 2) (by decide)) pass0 (pv 11)) (pa_cons (pe_slice (sl_listK (K := K) rfl) (pv 4) po_noK (po_some (pe_op op_add (pv 12) (pcK pe_int)))) pnK))))))))) (pss_one (ps_ret (pcK pe_bl))) pss_nil))))) (pss_cons (ps_if (ptK (pt_not (pt_val (pe_cal C_law_deck_is (hr.mono (by decide)) pass0 (pa_cons (pe_mtX0 C_Mater_back (hr.mono (j := 2) (by decide)) pass0 (pv 11)) (pa_cons (pv 4) pnK)))))) (pss_one (ps_ret (pcK pe_bl))) pss_nil) (pss_one (ps_ret (pe_cal C_law_ended (hr.mono (by decide)) pass0 (pa_cons (pv 11) (pa_cons (pv 4) (pa_cons (pv 5) (pa_cons (pv 7) (pa_cons (pv 8) pnK)))))))))))))))))))))))))), ?_⟩
    refine ⟨_, rfl, ⟨trivial, ⟨_, rfl, ⟨trivial, ⟨_, rfl, (k_slR hS.zh (hS.fact 0 rfl) (New.gen fun cells_1 en2 => New.tel fun v6 Z3 H4 st5 hv6 => ?_))⟩⟩⟩⟩⟩
    have hS := (hS.step st5).tel (a := cells_1) hv6
    refine (tgt1 ?_)
    have hm := Good.vl en2 hm
    refine ⟨_, rfl, ⟨trivial, ⟨trivial, ⟨_, _, _, _, rfl, hS.zh, (hS.fact 1 rfl), (Good.bnd hm).imp (fun r7 hm => fun Z9 H10 st11 => ?_) hWE⟩⟩⟩⟩
    have hS := hS.step st11
    obtain ⟨g8, hm⟩ := Good.chk hm
    refine ⟨_, rfl, ⟨trivial, (k_lenQ hS.zh (hS.fact 0 rfl) ⟨trivial, ⟨_, _, rfl, rfl, ⟨_, _, rfl, rfl, (show (0 : Int) < (((cells_1).length : Int) + (1 : Int)) from g8), (storeI fun cut_12 en13 => ?_)⟩⟩⟩)⟩⟩
    have hm := Good.vl en13 hm
    refine ⟨_, rfl, ⟨_, rfl, ⟨trivial, ⟨trivial, ⟨_, _, _, _, rfl, hS.zh, (hS.fact 1 rfl), (Good.bnd hm).imp (fun r14 hm => fun Z16 H17 st18 => ?_) hWE⟩⟩⟩⟩⟩
    have hS := hS.step st18
    refine ⟨trivial, ⟨_, _, _, _, rfl, hS.zh, (hS.fact 0 rfl), (Good.bnd hm).imp (fun r15 hm => NewO.tel hS.zh (fun v22 Z19 H20 st21 hv22 => ?_)) hWE⟩⟩
    have hS := (hS.step st21).tel (a := r15) hv22
    refine (tgt1 ?_)
    refine ⟨_, rfl, ⟨trivial, ⟨_, rfl, ⟨_, rfl, (k_slL hS.zh (hS.fact 0 rfl) (New.gen fun ones_25 en26 => New.tel fun v30 Z27 H28 st29 hv30 => ?_))⟩⟩⟩⟩
    have hS := (hS.step st29).tel (a := ones_25) hv30
    refine (tgt1 ?_)
    have hm := Good.vl en26 hm
    refine ⟨_, rfl, ⟨_, rfl, ⟨_, rfl, ⟨trivial, (k_slL hS.zh (hS.fact 1 rfl) (New.gen fun others_31 en32 => New.tel fun v36 Z33 H34 st35 hv36 => ?_))⟩⟩⟩⟩
    have hS := (hS.step st35).tel (a := others_31) hv36
    refine (tgt1 ?_)
    have hm := Good.vl en32 hm
    refine ⟨_, rfl, ⟨trivial, ⟨trivial, ⟨_, _, _, _, rfl, hS.zh, (hS.fact 4 rfl), (Good.bnd hm).imp (fun r37 hm => fun Z38 H39 st40 => ?_) hWE⟩⟩⟩⟩
    have hS := hS.step st40
    refine (tgt1 ?_)
    refine ⟨_, rfl, ⟨trivial, ⟨_, _, rfl, hS.zh, (Good.bnd hm).imp (fun r41 hm => fun v45 Z42 H43 st44 hv45 => ?_) hWE⟩⟩⟩
    have hS := (hS.step st44).tel (a := r41) hv45
    refine (tgt1 ?_)
    refine ⟨trivial, ⟨trivial, ⟨trivial, (k_lst (K := K) (m := [("mates" : Str), ("without" : Str)]) hS.zh (.cons rfl (.cons rfl .nil)) (Nat.le_of_ble_eq_true rfl) (New.tel fun v50 Z47 H48 st49 hv50 => ?_))⟩⟩⟩
    have hS := (hS.step st49).tel (a := [("mates" : Str), ("without" : Str)]) hv50
    obtain ⟨g46, hm⟩ := Good.chk hm
    refine ⟨_, rfl, ⟨trivial, ⟨_, _, rfl, rfl, (show (0 : Int) < (2 : Int) from (by decide)), (k_ixLs hS.zh (hS.fact 0 rfl) g46 (storeS fun word_51 en52 => ?_))⟩⟩⟩
    have hm := Good.vl en52 hm
    have hS := hS.drop
    refine ⟨fun σj Hj => ∃ Zr_ : Hp, ∃ (ones_53 : (List Str)) (v54 : V), σj = [some v_law_script, some v6, some (.int cut_12), some v22, some v54, some v36, some (.int r37), some v45, some (.str word_51), none, none, none, none, none, none] ∧ Sep K Z0 H0 Zr_ Hj [⟨(Sh.told (α := (List Str))), v54, ones_53⟩, ⟨(Sh.told (α := Scr)), v_law_script, a_law_script⟩, ⟨(Sh.told (α := (List Int))), v6, cells_1⟩, ⟨(Sh.told (α := (List Str))), v22, r15⟩, ⟨(Sh.told (α := (List Str))), v36, others_31⟩, ⟨(Sh.told (α := ((Int × Int) × (Int × Int)))), v45, r41⟩] ∧ (Good (m_law_j0 others_31 r37 r41 word_51 ones_53) W WE), ?_, fun σj Hj hj => ?_⟩
    · skip
      obtain ⟨W55, hm, hWW55⟩ := Good.bndW hm
      refine ⟨_, rfl, ⟨trivial, ⟨_, _, rfl, rfl, ⟨by decide, by decide⟩, ⟨trivial, ⟨_, _, rfl, rfl, (show (0 : Int) < (3 : Int) from (by decide)), ⟨trivial, ⟨_, _, rfl, rfl, ⟨_, rfl, (ite2 (fun e56 => ?_) (fun e57 => ?_))⟩⟩⟩⟩⟩⟩⟩⟩
      · skip
        have hm := Good.ifT e56 hm
        refine ⟨_, rfl, ⟨_, rfl, ⟨trivial, (k_fst hS.zh (hS.fact 0 rfl) (fun y58 hy58 => ⟨trivial, ⟨_, _, _, _, _, rfl, hS.zh, (hS.fact 2 rfl), hy58, (Good.bnd hm).imp (fun r59 hm => NewO.tel hS.zh (fun v63 Z60 H61 st62 hv63 => ?_)) hWE⟩⟩))⟩⟩⟩
        have hS := hS.tel (a := (r41).1) hy58
        have hS := (hS.step st62).tel (a := r59) hv63
        refine (tgt1 ?_)
        have hm := hWW55 _ hm
        exact ⟨_, r59, (v63), rfl, hS.pick [0, 7, 6, 5, 3, 2] (by decide) rfl, hm⟩
      · skip
        have hm := Good.ifF e57 hm
        have hm := hWW55 _ hm
        exact ⟨_, ones_25, (v30), rfl, hS.pick [2, 5, 4, 3, 1, 0] (by decide) rfl, hm⟩
    · skip
      obtain ⟨Zj_, ones_53, v54, rfl, hS, hm⟩ := hj
      unfold m_law_j0 at hm
      refine ⟨fun σj Hj => ∃ Zr_ : Hp, ∃ (others_66 : (List Str)) (v67 : V), σj = [some v_law_script, some v6, some (.int cut_12), some v22, some v54, some v67, some (.int r37), some v45, some (.str word_51), none, none, none, none, none, none] ∧ Sep K Z0 H0 Zr_ Hj [⟨(Sh.told (α := (List Str))), v67, others_66⟩, ⟨(Sh.told (α := (List Str))), v54, ones_53⟩, ⟨(Sh.told (α := Scr)), v_law_script, a_law_script⟩, ⟨(Sh.told (α := (List Int))), v6, cells_1⟩, ⟨(Sh.told (α := (List Str))), v22, r15⟩, ⟨(Sh.told (α := ((Int × Int) × (Int × Int)))), v45, r41⟩] ∧ (Good (m_law_j1 r37 r41 word_51 ones_53 others_66) W WE), ?_, fun σj Hj hj => ?_⟩
      · skip
        obtain ⟨W68, hm, hWW68⟩ := Good.bndW hm
        refine ⟨_, rfl, ⟨trivial, ⟨_, _, rfl, rfl, ⟨by decide, by decide⟩, ⟨trivial, ⟨_, _, rfl, rfl, (show (0 : Int) < (3 : Int) from (by decide)), ⟨trivial, ⟨_, _, rfl, rfl, ⟨_, rfl, (ite2 (fun e69 => ?_) (fun e70 => ?_))⟩⟩⟩⟩⟩⟩⟩⟩
        · skip
          have hm := Good.ifT e69 hm
          refine ⟨_, rfl, ⟨_, rfl, ⟨trivial, (k_snd hS.zh (hS.fact 5 rfl) (fun y71 hy71 => ⟨trivial, ⟨_, _, _, _, _, rfl, hS.zh, (hS.fact 4 rfl), hy71, (Good.bnd hm).imp (fun r72 hm => NewO.tel hS.zh (fun v76 Z73 H74 st75 hv76 => ?_)) hWE⟩⟩))⟩⟩⟩
          have hS := hS.tel (a := (r41).2) hy71
          have hS := (hS.step st75).tel (a := r72) hv76
          refine (tgt1 ?_)
          have hm := hWW68 _ hm
          exact ⟨_, r72, (v76), rfl, hS.pick [0, 2, 3, 4, 5, 7] (by decide) rfl, hm⟩
        · skip
          have hm := Good.ifF e70 hm
          have hm := hWW68 _ hm
          exact ⟨_, others_31, (v36), rfl, hS.pick [4, 0, 1, 2, 3, 5] (by decide) rfl, hm⟩
      · skip
        obtain ⟨Zj_, others_66, v67, rfl, hS, hm⟩ := hj
        unfold m_law_j1 at hm
        refine ⟨_, rfl, ⟨_, rfl, ⟨trivial, (k_snd hS.zh (hS.fact 5 rfl) (fun y79 hy79 => ⟨trivial, ⟨_, _, _, _, _, rfl, hS.zh, (hS.fact 0 rfl), hy79, (Good.bnd hm).imp (fun r80 hm => fun v84 Z81 H82 st83 hv84 => ?_) hWE⟩⟩))⟩⟩⟩
        have hS := hS.tel (a := (r41).2) hy79
        have hS := (hS.step st83).tel (a := r80) hv84
        refine (tgt1 ?_)
        have hS := hS.drop1
        rcases eplace_85 : r80 with _ | place_85
        · have hm := Good.oN eplace_85 hm
          refine ⟨_, rfl, ⟨trivial, (k_notNQ (hS.fact 0 rfl) ⟨_, rfl, ?_⟩)⟩⟩
          refine iteFe (by rw [eplace_85]; rfl) ?_
          obtain ⟨ev_, hS⟩ := hS.optN 0 rfl eplace_85; subst ev_; dsimp only [List.set] at hS
          have hS := hS.drop
          refine ⟨_, rfl, ⟨trivial, (k_listQ hS.zh (hS.fact 0 rfl) (New.gen fun handed_86 en87 => New.ownS fun p91 ps92 Z88 H89 st90 o93 => ?_))⟩⟩
          have hS := hS.own st90 o93
          refine (tgt1 ?_)
          have hm := Good.vl en87 hm
          have hSB95 := hS; have bB95 := hS.bor0
          obtain ⟨Z96, ps97, bB95, hS⟩ := hS.bor bB95 0 rfl; dsimp only [List.set] at hS
          have sB95 := Step.refl hS.zh
          refine ⟨_, rfl, ⟨_, rfl, ⟨_, rfl, ⟨_, rfl, ⟨trivial, ⟨_, _, rfl, rfl, ⟨by decide, by decide⟩, ⟨trivial, ⟨_, _, _, _, _, _, _, rfl, hS.zh, (hS.fact 6 rfl), (hS.fact 0 rfl), (Good.nx (Good.bnd hm)).imp (fun r98 hm => fun v104 ps105 Z101 H102 st103 o106 => ?_) (fun _ h_ => False.elim h_)⟩⟩⟩⟩⟩⟩⟩⟩
          have so107 := sB95.hh
          have sB95 := sB95.trans st103
          have hS := hS.own st103 o106
          obtain ⟨p108, er_⟩ := hS.ref 0 rfl
          subst er_
          refine (tgt1 ?_)
          have hoB95 := bB95.own2 so107 sB95 o106
          have stB95 := bB95.back hSB95.zh sB95
          have hS := hSB95.own stB95 hoB95
          obtain ⟨W111, hmb, hWW111⟩ := Good.bndW hm
          refine ⟨trivial, testK2 (Z := (delL Z101 ps97)) (fun z_ => W111 z_) (fun Q_ q112 => ?_) (fun t110 Z113 H114 w116 st115 => ?_)⟩
          · skip
            have hm := hmb
            have sx_ := Step.refl hS.zh
            refine ⟨_, rfl, ⟨_, rfl, (k_neL (α := (List Str)) (Rn.ownG hS 1 rfl) (Rn.tel hS.zh (hS.fact 2 rfl)) (Nat.le_of_ble_eq_true rfl) ⟨_, rfl, (ite2 (fun e117 => ?_) (fun e118 => ?_))⟩)⟩⟩
            · have hm := Good.ifT e117 hm
              exact q112 _ _ _ hm sx_
            · skip
              have hm := Good.ifF e118 hm
              refine ⟨_, rfl, ⟨trivial, ⟨trivial, (hS.isiC 0 rfl T.nk_Mater T.is_Mater_Machine ⟨_, rfl, (ite2 (fun e119 => ?_) (fun e120 => ?_))⟩)⟩⟩⟩
              · have hm := Good.ifT e119 hm
                exact q112 _ _ _ hm sx_
              · skip
                have hm := Good.ifF e120 hm
                refine ⟨_, rfl, ⟨_, rfl, ⟨trivial, ⟨_, _, _, _, rfl, hS.zh, (hS.fact 7 rfl), (Good.bnd hm).imp (fun r109 hm => fun Z121 H122 st123 => ?_) hWE⟩⟩⟩⟩
                have sx_ := sx_.trans st123
                have hS := hS.step st123
                refine ⟨_, rfl, (q112 _ _ _ hm sx_)⟩
          have hm := hWW111 _ w116
          have hS := hS.step st115
          refine (ite2 (fun e124 => ?_) (fun e125 => ?_))
          · skip
            have hm := Good.ifT e124 hm
            refine ⟨trivial, ?_⟩
            exact hW _ hm _ _ hS.st
          · skip
            have hm := Good.ifF e125 hm
            refine ⟨_, rfl, ⟨tyO (hS.L 1 rfl), (k_clear (hS.L 1 rfl) fun u126 o127 => ?_)⟩⟩
            have hS := hS.mutL 1 rfl o127; dsimp only [List.set] at hS
            obtain ⟨handed_128, en129⟩ : ∃ z, z = ([] : (List Str)) := ⟨_, rfl⟩
            rw [← en129] at hS
            have hm := Good.vl en129 hm
            obtain ⟨a130, xs131, ev132, hz133, pr134⟩ := pyL (hS.fact 3 rfl)
            obtain ⟨W138, hm, hWW138⟩ := Good.bndW hm
            refine ⟨_, rfl, ⟨trivial, ⟨_, _, by rw [ev132], SqL.of (hS.zh _ _ hz133), (forK (Z := Z113) (L := (enumL 0 ones_53)) (src_enum hz133 pr134) (fun rr σr Hr Zr => (∃ (machine_135 : Mater) (v136 : V) (w_law_k : Option V) (w_law_card_here : Option V) (w_law_before : Option V), σr = [some v_law_script, some v6, some (.int cut_12), some v22, some v54, some v67, some (.int r37), some v45, some (.str word_51), some .non, some (.ref p91), some v136, w_law_k, w_law_card_here, w_law_before] ∧ Sep K Z0 H0 Zr Hr [⟨sh_Mater, v136, machine_135⟩, ⟨(Sh.told (α := (List Str))), v67, others_66⟩, ⟨(Sh.told (α := (List Str))), v54, ones_53⟩, ⟨(Sh.told (α := Scr)), v_law_script, a_law_script⟩, ⟨(Sh.told (α := (List Int))), v6, cells_1⟩, ⟨(Sh.told (α := (List Str))), v22, r15⟩, ⟨(Sh.told (α := ((Int × Int) × (Int × Int)))), v45, r41⟩, ⟨(Sh.lt Str), (.ref p91), handed_128⟩] ∧ Same Z113 Zr ∧ (Good (forL (fun (s_ : Mater) (q_ : (Int × Str)) => m_law_b0 r41 ones_53 s_ q_.1 q_.2) machine_135 rr) W138 WE))) ?_ ?_ ?_ ?_)⟩⟩⟩
            · rintro rr σr Hr Zr hk
              obtain ⟨machine_135, v136, w_law_k, w_law_card_here, w_law_before, rfl, hS, sm137, hm⟩ := hk
              obtain ⟨p224, er_⟩ := hS.ref 0 rfl
              subst er_
              exact ⟨sm137, hS.zh⟩
            · exact ⟨Z113, r98, ((.ref p108)), (none), (none), (none), rfl, hS.pick [0, 2, 3, 4, 5, 6, 7, 1] (by decide) rfl, Same.refl _, hm⟩
            · skip
              intro q141 r142 x143 sg144 H145 H146 Z147 mem148 dec149 hp150 y151
              obtain ⟨k_139, card_here_140⟩ := q141
              obtain ⟨machine_135, v136, w_law_k, w_law_card_here, w_law_before, rfl, hS, sm137, hm⟩ := hp150
              obtain ⟨p152, er_⟩ := hS.ref 0 rfl
              subst er_
              obtain ⟨W153, hm, hn154, hb155, hr156⟩ := Good.forL hm
              have hm : Good (m_law_b0 r41 ones_53 machine_135 k_139 card_here_140) _ _ := hm; unfold m_law_b0 at hm
              refine (tgt2 hS.zh y151 (fun v157 v159 h158 h160 st161 => ?_))
              have sm137 := sm137.trans st161.zz
              have hS := hS.step st161
              obtain rfl : v157 = (.int k_139) := h158
              obtain rfl : v159 = (.str card_here_140) := h160
              obtain ⟨g162, hm⟩ := Good.chk hm
              refine ⟨_, rfl, ⟨trivial, ⟨_, rfl, ⟨trivial, ⟨_, _, rfl, rfl, ⟨trivial, ⟨_, _, rfl, (k_ixLs hS.zh (hS.fact 2 rfl) g162 (storeS fun before_163 en164 => ?_))⟩⟩⟩⟩⟩⟩⟩
              have hm := Good.vl en164 hm
              refine ⟨trivial, ⟨_, rfl, ⟨_, rfl, ⟨trivial, (k_fst hS.zh (hS.fact 6 rfl) (fun y165 hy165 => ⟨trivial, ⟨_, _, _, _, rfl, hS.zh, hy165, (Good.bnd hm).imp (fun r166 hm => fun Z169 H170 st171 => ?_) hWE⟩⟩))⟩⟩⟩⟩
              have hS := hS.tel (a := (r41).1) hy165
              have sm137 := sm137.trans st171.zz
              have hS := hS.step st171
              refine ⟨_, rfl, ⟨_, rfl, ⟨trivial, (k_fst hS.zh (hS.fact 7 rfl) (fun y167 hy167 => ⟨trivial, ⟨_, _, _, _, rfl, hS.zh, hy167, (Good.bnd hm).imp (fun r168 hm => fun Z172 H173 st174 => ?_) hWE⟩⟩))⟩⟩⟩
              have hS := hS.tel (a := (r41).1) hy167
              have sm137 := sm137.trans st174.zz
              have hS := hS.step st174
              refine ⟨_, _, rfl, rfl, ⟨_, rfl, (ite2 (fun e175 => ?_) (fun e176 => ?_))⟩⟩
              · skip
                have hm := Good.ifT e175 hm
                have hS := hS.drop
                have hS := hS.drop
                refine ⟨_, rfl, ⟨_, rfl, ⟨_, rfl, ⟨trivial, ⟨_, rfl, ⟨_, rfl, (k_slL hS.zh (hS.fact 2 rfl) (New.tel fun v181 Z178 H179 st180 hv181 => ?_))⟩⟩⟩⟩⟩⟩
                have sm137 := sm137.trans st180.zz
                have hS := (hS.step st180).tel (a := (cutL ones_53 none (some k_139))) hv181
                refine ⟨trivial, ?_⟩
                have hS : (Sep K Z0 H0 _ _ [⟨sh_Mater, (.ref p152), machine_135⟩, ⟨(Sh.told (α := (List Str))), v181, (cutL ones_53 none (some k_139))⟩, ⟨(Sh.told (α := (List Str))), v67, others_66⟩, ⟨(Sh.told (α := (List Str))), v54, ones_53⟩, ⟨(Sh.told (α := Scr)), v_law_script, a_law_script⟩, ⟨(Sh.told (α := (List Int))), v6, cells_1⟩, ⟨(Sh.told (α := (List Str))), v22, r15⟩, ⟨(Sh.told (α := ((Int × Int) × (Int × Int)))), v45, r41⟩, ⟨(Sh.lt Str), (.ref p91), handed_128⟩]) := hS.pick [1, 0, 2, 3, 4, 5, 6, 7, 8] (by decide) rfl
                obtain ⟨ps182, h183, lg184⟩ := hS.lend 0 rfl
                refine ⟨_, _, _, _, _, _, _, rfl, hS.zh, h183.1, h183.2.1, h183.2.2, (hS.fact 1 rfl), (Good.bnd hm).imp (fun r177 hm Z185 H186 ps187 st188 o189 => ?_) hWE⟩
                have sm137 := sm137.trans st188.zz
                have hS := lg184 (b := r177.1) st188 o189; dsimp only [List.set] at hS
                have hS : (Sep K Z0 H0 _ _ [⟨sh_Mater, (.ref p152), r177.1⟩, ⟨(Sh.told (α := (List Str))), v181, (cutL ones_53 none (some k_139))⟩, ⟨(Sh.told (α := (List Str))), v67, others_66⟩, ⟨(Sh.told (α := (List Str))), v54, ones_53⟩, ⟨(Sh.told (α := Scr)), v_law_script, a_law_script⟩, ⟨(Sh.told (α := (List Int))), v6, cells_1⟩, ⟨(Sh.told (α := (List Str))), v22, r15⟩, ⟨(Sh.told (α := ((Int × Int) × (Int × Int)))), v45, r41⟩, ⟨(Sh.lt Str), (.ref p91), handed_128⟩]) := hS
                have hm := hr156 _ hm
                have hm := hWW138 _ hm
                exact hW _ hm _ _ hS.st
              · skip
                have hm := Good.ifF e176 hm
                have hS := hS.drop
                have hS := hS.drop
                refine ⟨trivial, ⟨_, rfl, (hS.mth 0 rfl T.nk_Mater (by decide) ⟨_, rfl, ⟨trivial, ?_⟩⟩)⟩⟩
                obtain ⟨ps191, h192, lg193⟩ := hS.lend 0 rfl
                refine ⟨_, _, _, _, _, rfl, hS.zh, h192.1, h192.2.1, h192.2.2, (Good.nx (Good.bnd hm)).imp (fun r190 hm Z194 H195 ps196 st197 o198 => ?_) (fun _ h_ => False.elim h_)⟩
                have sm137 := sm137.trans st197.zz
                have hS := lg193 (b := r190) st197 o198; dsimp only [List.set] at hS
                refine ⟨trivial, (k_notNn ⟨_, rfl, (ite2 (fun e199 => ?_) (fun e200 => ?_))⟩)⟩
                · skip
                  have hm := Good.ifT e199 hm
                  refine iteT ?_
                  refine ⟨trivial, ?_⟩
                  have hm := hr156 _ hm
                  have hm := hWW138 _ hm
                  exact hW _ hm _ _ hS.st
                · skip
                  have hm := Good.ifF e200 hm
                  have hSB203 := hS; have bB203 := hS.bor0
                  obtain ⟨Z204, ps205, bB203, hS⟩ := hS.bor bB203 0 rfl; dsimp only [List.set] at hS
                  have sB203 := Step.refl hS.zh
                  refine ⟨_, rfl, (k_mthT hS.zh (hS.fact 0 rfl) T.nk_Mater (by decide) ⟨_, _, _, rfl, hS.zh, (hS.fact 0 rfl), (Good.bnd hm).imp (fun r206 hm => NewO.tel hS.zh (fun v211 Z208 H209 st210 hv211 => ?_)) hWE⟩)⟩
                  have sB203 := sB203.trans st210
                  have hS := (hS.step st210).tel (a := r206) hv211
                  refine ⟨_, rfl, ⟨trivial, ⟨_, rfl, ⟨trivial, ⟨_, _, rfl, rfl, ⟨_, rfl, (k_slL hS.zh (hS.fact 3 rfl) (New.tel fun v217 Z214 H215 st216 hv217 => ?_))⟩⟩⟩⟩⟩⟩
                  have sB203 := sB203.trans st216
                  have hS := (hS.step st216).tel (a := (cutL ones_53 none (some (k_139 + (1 : Int))))) hv217
                  refine ⟨trivial, ⟨_, _, _, _, _, rfl, hS.zh, (hS.fact 1 rfl), (hS.fact 0 rfl), (Good.bnd hm).imp (fun r207 hm => fun Z218 H219 st220 => ?_) hWE⟩⟩
                  have sB203 := sB203.trans st220
                  have hS := hS.step st220
                  refine ⟨_, rfl, (ite2b (fun tb223 => ?_))⟩
                  have stB203 := bB203.back hSB203.zh sB203
                  have hS := hSB203.step stB203
                  have sm137 := sm137.trans stB203.zz
                  refine ite2 (fun e221 => ?_) (fun e222 => ?_)
                  · skip
                    have hm := Good.ifT e221 hm
                    refine ⟨trivial, ?_⟩
                    have hm := hr156 _ hm
                    have hm := hWW138 _ hm
                    exact hW _ hm _ _ hS.st
                  · skip
                    have hm := Good.ifF e222 hm
                    have hm := hn154 _ hm
                    exact ⟨_, r190, ((.ref p152)), (some (.int k_139)), (some (.str card_here_140)), (some (.str before_163)), rfl, hS.pick [0, 1, 2, 3, 4, 5, 6, 7] (by decide) rfl, sm137, hm⟩
            · intro sg225 H226 Z227 hp228
              obtain ⟨machine_135, v136, w_law_k, w_law_card_here, w_law_before, rfl, hS, sm137, hm⟩ := hp228
              obtain ⟨p229, er_⟩ := hS.ref 0 rfl
              subst er_
              have hm := hWW138 _ hm
              obtain ⟨Z232, s233, hS⟩ := hS.tell 0 rfl; dsimp only [List.set] at hS
              refine ⟨trivial, ⟨_, rfl, (k_mthT hS.zh (hS.fact 0 rfl) T.nk_Mater (by decide) ⟨_, _, _, rfl, hS.zh, (hS.fact 0 rfl), (Good.bnd hm).imp (fun r234 hm => NewO.tel hS.zh (fun v239 Z236 H237 st238 hv239 => ?_)) hWE⟩)⟩⟩
              have hS := (hS.step st238).tel (a := r234) hv239
              refine ⟨_, rfl, ⟨trivial, ⟨_, _, _, _, _, rfl, hS.zh, (hS.fact 0 rfl), (hS.fact 3 rfl), (Good.bnd hm).imp (fun r235 hm => fun Z242 H243 st244 => ?_) hWE⟩⟩⟩
              have hS := hS.step st244
              refine ⟨_, rfl, (ite2 (fun e245 => ?_) (fun e246 => ?_))⟩
              · skip
                have hm := Good.ifT e245 hm
                have hS := hS.drop
                refine ⟨trivial, ?_⟩
                exact hW _ hm _ _ hS.st
              · skip
                have hm := Good.ifF e246 hm
                have hS := hS.drop
                refine ⟨_, rfl, ⟨_, rfl, ⟨_, rfl, ⟨_, rfl, ⟨_, rfl, ⟨trivial, ⟨_, _, _, _, _, _, _, _, _, _, rfl, hS.zh, (hS.fact 0 rfl), (hS.fact 2 rfl), (hS.fact 1 rfl), (hS.fact 6 rfl), (Good.bnd hm).imp (fun r247 hm => fun Z248 H249 st250 => ?_) hWE⟩⟩⟩⟩⟩⟩⟩
                have hS := hS.step st250
                exact hW _ hm _ _ hS.st
        · have hm := Good.oS eplace_85 hm
          refine ⟨_, rfl, ⟨trivial, (k_notNQ (hS.fact 0 rfl) ⟨_, rfl, ?_⟩)⟩⟩
          refine iteTe (by rw [eplace_85]; rfl) ?_
          obtain ⟨ev_, hS⟩ := hS.optSs 0 rfl eplace_85; subst ev_; dsimp only [List.set] at hS
          have hS := hS.drop
          refine ⟨_, rfl, ⟨_, rfl, ⟨_, rfl, ⟨_, rfl, ⟨trivial, ⟨_, _, rfl, rfl, ⟨by decide, by decide⟩, ⟨_, rfl, ⟨trivial, ⟨_, _, _, _, _, _, _, _, rfl, hS.zh, (hS.fact 5 rfl), (hS.fact 0 rfl), (Good.bnd hm).imp (fun r251 hm => fun Z252 H253 st254 => ?_) hWE⟩⟩⟩⟩⟩⟩⟩⟩⟩
          have hS := hS.step st254
          exact hW _ hm _ _ hS.st
end

/-! ### the plain law -/

theorem cell_is (s : Scr) {k : Int} (h : 0 ≤ k) : m_law_cell_at s k = .ok (if k < (s.ns.length : Int) then getI s.ns k else 0) := by
  unfold m_law_cell_at
  by_cases c : k < (s.ns.length : Int)
  · rw [if_pos (decide_eq_true c), if_pos c]; exact chk_t ⟨by omega, c⟩
  · rw [if_neg (by simpa using c), if_neg c]

theorem rank_sg {s : Nat} (h : s ∈ KN) : m_rank_of (sg s) = .ok ((KN.idxOf s : Nat) : Int) := by
  unfold m_rank_of
  refine chk_eq (by rw [len_sg]; decide) (ite_eqF ?_ ?_)
  · rw [inS_sg, sgs_codes, decide_eq_true h, len_sg]; decide
  · rw [find_sg, sgs_codes, if_pos h]

/-! ### orders, plainly -/
def colsF (f : Int × Int) : List Int := rangeL f.1 (f.2 + 1 - f.1).toNat
theorem colsF_ok {f : Int × Int} (h : fieldOk f) : colsOk (colsF f) := fun x hx => by
  have := rangeL_mem hx
  obtain ⟨a, b, c⟩ := h
  omega
theorem codeAt_nat {z : Str} {k : Nat} (h : k < (codes z).length) : codeAt ((k : Int) + 1) z = (codes z)[k] := by
  unfold codeAt
  rw [show ((k : Int) + 1 - 1).toNat = k by omega, List.getD_eq_getElem?_getD, List.getElem?_eq_getElem h]; rfl
theorem keyOf_range {z : Str} (hz : z.length = 40) : ∀ (n : Nat) (k : Nat), k + n ≤ 40 → keyOf (rangeL ((k : Int) + 1) n) z = ((codes z).drop k).take n
  | 0, _, _ => by rw [List.take_zero]; rfl
  | n + 1, k, h => by
    have hl : k < (codes z).length := by rw [← len_codes]; omega
    rw [rangeL_succ, List.drop_eq_getElem_cons hl, List.take_succ_cons]
    show codeAt ((k : Int) + 1) z :: keyOf (rangeL ((k : Int) + 1 + 1) n) z = _
    rw [codeAt_nat hl, show (k : Int) + 1 + 1 = ((k + 1 : Nat) : Int) + 1 by omega, keyOf_range hz n (k + 1) (by omega)]
theorem key_part2 {z : Str} {f : Int × Int} (hz : z.length = 40) (h : fieldOk f) : keyOf (colsF f) z = codes (partT z f) := by
  obtain ⟨a, b, c⟩ := h
  rw [part_codes ⟨a, b, c⟩]
  obtain ⟨k, hk⟩ : ∃ k : Nat, f.1 = (k : Int) + 1 := ⟨(f.1 - 1).toNat, by omega⟩
  unfold colsF
  rw [hk, keyOf_range hz _ k (by omega), List.drop_take]
  congr 1
  · omega
  · congr 1; omega
def outS (cols : List Int) (deck : List Str) : Option Int := (rangeL 1 ((deck.length : Int) - 1).toNat).find? fun k => decide (keyOf cols (getI deck k) < keyOf cols (getI deck (k - 1)))
theorem cols_yes {f : Int × Int} (h : fieldOk f) : m_columns_of f = .ok (colsF f) := chk_t (by obtain ⟨a, b, c⟩ := h; omega)

theorem comes_yes {a b : Str} (ha : cardOk a) (hb : cardOk b) {cols : List Int} (hc : colsOk cols) : m_comes_ahead a b cols = .ok (decide (keyOf cols a < keyOf cols b)) := by
  have key : ∀ cols : List Int, colsOk cols → forL (T := Bool) (fun (_ : Unit) c => m_comes_ahead_b0 a b c) () cols = .ok (if keyOf cols a = keyOf cols b then .nxt () else .ret (decide (keyOf cols a < keyOf cols b))) := by
    intro cols
    induction cols with
    | nil => intro _; rfl
    | cons c r ih =>
      intro hc
      have h1 := hc c List.mem_cons_self
      obtain ⟨e1, e2⟩ := codeAt_sg ha h1
      obtain ⟨e3, e4⟩ := codeAt_sg hb h1
      rw [forL_cons]
      have hk : ∀ z, keyOf (c :: r) z = codeAt c z :: keyOf r z := fun _ => rfl
      by_cases q : codeAt c a = codeAt c b
      · refine bind_eq (a := .nxt ()) ?_ ?_
        · unfold m_comes_ahead_b0
          exact chk_eq (card_ix ha h1) (chk_eq (card_ix hb h1) (ite_eqF (by rw [e1, e3, q]; simp) rfl))
        · show forL _ () r = _
          rw [ih fun x hx => hc x (List.mem_cons_of_mem _ hx), hk, hk, q]
          by_cases e : keyOf r a = keyOf r b
          · rw [if_pos e, if_pos (by rw [e])]
          · rw [if_neg e, if_neg (fun x => e (List.cons.inj x).2)]
            congr 2
            exact decide_eq_decide.mpr ⟨fun x => List.cons_lt_cons_iff.mpr (.inr ⟨rfl, x⟩), fun x => by
              rcases List.cons_lt_cons_iff.mp x with x | ⟨_, x⟩
              · exact absurd x (Nat.lt_irrefl _)
              · exact x⟩
      · refine bind_eq (a := .ret (decide (codeAt c a < codeAt c b))) ?_ ?_
        · unfold m_comes_ahead_b0
          refine chk_eq (card_ix ha h1) (chk_eq (card_ix hb h1) (ite_eqT (by rw [e1, e3]; simpa using fun x => q (sg_inj x)) ?_))
          rw [e1, e3]
          refine bind_eq (rank_sg e2) (bind_eq (rank_sg e4) ?_)
          congr 2
          rw [decide_eq_decide, Int.ofNat_lt]
          exact idx_lt _ e2 _ e4
        · rw [hk, hk, if_neg (fun x => q (List.cons.inj x).1)]
          show R.ok (LR.ret _) = _
          congr 2
          exact decide_eq_decide.mpr ⟨fun x => List.cons_lt_cons_iff.mpr (.inl x), fun x => by
            rcases List.cons_lt_cons_iff.mp x with x | ⟨x, _⟩
            · exact x
            · exact absurd x q⟩
  unfold m_comes_ahead
  refine bind_eq (key cols hc) ?_
  by_cases e : keyOf cols a = keyOf cols b
  · rw [if_pos e, e, decide_eq_false (list_irr _)]; rfl
  · rw [if_neg e]; rfl

theorem out_yes {deck : List Str} (hd : deckOk deck) {cols : List Int} (hc : colsOk cols) (hl : deck.length ≤ 100000) : m_out_at deck cols = .ok (outS cols deck) := by
  unfold m_out_at
  refine chk_eq ⟨by omega, by omega, by omega, by omega⟩ ?_
  rw [forL_find (fun k : Int => decide (keyOf cols (getI deck k) < keyOf cols (getI deck (k - 1)))) (fun k => some k) (fun k hk => ?_)]
  · unfold outS
    cases (rangeL 1 ((deck.length : Int) - 1).toNat).find? fun k => decide (keyOf cols (getI deck k) < keyOf cols (getI deck (k - 1))) with
    | none => rfl
    | some k => rfl
  · have hk := rangeL_mem hk
    have i1 : inR deck.length k := by unfold inR; omega
    have i2 : inR deck.length (k - 1) := by unfold inR; omega
    unfold m_out_at_b0
    refine chk_eq i1 (chk_eq i2 (bind_eq (comes_yes (deck_get hd i1) (deck_get hd i2) hc) ?_))
    split <;> rfl

theorem part_yes {z : Str} {f : Int × Int} (h : z.length ≤ 1000) : m_part_of z f = .ok (partT z f) := chk_t (sz_le (by omega))

/-! ### the law's deck, of good cards -/
theorem lcardok_yes {cell : Int} {menu mark : Str} (h0 : 0 < menu.length) (hm : menu.length ≤ 40) (ht : textOk menu) (hk : markOk mark) : Yes (m_law_card cell menu mark) cardOk := by
  unfold m_law_card
  have hr : (rangeL 0 ((36 : Int)).toNat).length = 36 := by rw [rangeL_len]; rfl
  have e0 : codes ("" : Str) = [] := by decide +kernel
  refine Yes.vl (Yes.vli fun nb hn => Yes.bind (Yes.forR (fun p (s : Int × Str) => (0 ≤ s.1 ∧ s.1 < 2147483650) ∧ s.2.length = p.length ∧ textOk s.2) ⟨by omega, by show ("" : Str).length = 0; decide +kernel, fun c h => by rw [e0] at h; exact nomatch h⟩ (fun p x r e s hs => ?_) (W := fun s => s.2.length = 36 ∧ textOk s.2) fun s hs => ⟨by rw [← hr]; exact hs.2.1, hs.2.2⟩) fun s hs => ?_)
  · unfold m_law_card_b0
    have hp := len_mid e
    have b0 := fun y : Int => Int.emod_nonneg y (show (2147483629 : Int) ≠ 0 by decide)
    have b1 := fun y : Int => Int.emod_lt_of_pos y (show (0 : Int) < 2147483629 by decide)
    have hs1 := hs.1
    have hs2 := hs.2.1
    refine Yes.chk (mulL (by omega)) (Yes.vli fun n hn2 => Yes.chk (sz_le (by omega)) (Yes.chk (by omega) ?_))
    have c0 := Int.emod_nonneg (n / 3) (show (menu.length : Int) ≠ 0 by omega)
    have c1 := Int.emod_lt_of_pos (n / 3) (show (0 : Int) < (menu.length : Int) by omega)
    refine Yes.chk ⟨sz_le (by omega), by unfold inR; omega⟩ (Yes.chk (sz_le (by rw [len_chS]; omega)) (Yes.vl (Yes.ok ⟨⟨by rw [hn2]; exact b0 _, by have := b1 (((s.1 * s.1) + ((17 : Int) * x)) + 5); omega⟩, by rw [len_app, len_chS, List.length_append, List.length_singleton]; omega, text_app hs.2.2 (text_sign (sign_in ht c0 c1))⟩)))
  · unfold m_law_card_k0
    have hk1 := hk.1
    have hs1 := hs.1
    exact Yes.chk (sz_le (by omega)) (Yes.ok ⟨by rw [len_app]; omega, text_app hs.2 hk.2⟩)
theorem enumL_rng : ∀ {l : List Int} {k : Int} {q : Int × Int}, q ∈ enumL k l → k ≤ q.1 ∧ q.1 < k + (l.length : Int)
  | [], k, q, h => nomatch h
  | x :: r, k, q, h => by
    rw [enumL_cons] at h
    rcases List.mem_cons.mp h with rfl | h
    · rw [List.length_cons]; dsimp only; omega
    · have := enumL_rng h
      rw [List.length_cons]; omega
theorem ldeckok_yes {cells : List Int} {way : Int} (h : cells.length ≤ 100) : Yes (m_law_deck cells way) fun d => d.length = cells.length ∧ deckOk d := by
  unfold m_law_deck
  refine Yes.bindE (show m_law_known = .ok (" 0123456789ABCDEFGHIJKLMNOPQRSTUVWXYZ" : Str) from rfl) ?_
  have a0 := Int.emod_nonneg way (show (4 : Int) ≠ 0 by decide)
  have a1 := Int.emod_lt_of_pos way (show (0 : Int) < 4 by decide)
  have i4 : inR [("A " : Str), ("0Z9" : Str), ("B5A 0" : Str), (" 0123456789ABCDEFGHIJKLMNOPQRSTUVWXYZ" : Str)].length (way % 4) := by unfold inR; show _ ∧ _ < (4 : Int); exact ⟨by show -(4 : Int) ≤ _; omega, by omega⟩
  refine Yes.chk i4 (Yes.vli fun menu hm => ?_)
  have hmem : menu ∈ [("A " : Str), ("0Z9" : Str), ("B5A 0" : Str), (" 0123456789ABCDEFGHIJKLMNOPQRSTUVWXYZ" : Str)] := by rw [hm]; exact getI_mem i4
  have hml : (0 < menu.length ∧ menu.length ≤ 40) ∧ ∀ c ∈ codes menu, c ∈ KN := by
    have : ∀ m ∈ [("A " : Str), ("0Z9" : Str), ("B5A 0" : Str), (" 0123456789ABCDEFGHIJKLMNOPQRSTUVWXYZ" : Str)], (0 < m.length ∧ m.length ≤ 40) ∧ ∀ c ∈ codes m, c ∈ KN := by decide +kernel
    exact this _ hmem
  refine Yes.vl (Yes.bind (Yes.forR (fun p (d : List Str) => d.length = p.length ∧ deckOk d) ⟨rfl, deck_nil⟩ (fun p x r e d hd => ?_) (W := fun d => d.length = cells.length ∧ deckOk d) fun d hd => ⟨by rw [hd.1, enumL_len], hd.2⟩) fun d hd => Yes.ok hd)
  have hx := enumL_rng (q := x) (by rw [e]; simp)
  have hp := len_mid e
  rw [enumL_len] at hp
  have hd1 := hd.1
  have n0 := Int.emod_nonneg (x.1 * 271) (show (10000 : Int) ≠ 0 by decide)
  have n1 := Int.emod_lt_of_pos (x.1 * 271) (show (0 : Int) < 10000 by decide)
  have mk4 := mark_ok (i := (x.1 * 271) % 10000) (by omega) (by omega)
  have m4 : markOk ("MARK" : Str) := by
    have : ("MARK" : Str).length = 4 ∧ ∀ c ∈ codes ("MARK" : Str), c ∈ KN := by decide +kernel
    exact this
  unfold m_law_deck_b0
  refine Yes.chk (log_lt (i := (x.1 * 271) % 10000) (k := 64) (by omega) (by decide) (by decide)) (Yes.vl (Yes.bind (P := markOk) (Yes.ite (fun _ => Yes.vl (Yes.ok m4)) fun _ => Yes.ok mk4) fun m hm4 => ?_))
  unfold m_law_deck_j0
  exact Yes.bind (lcardok_yes hml.1.1 hml.1.2 hml.2 hm4) fun z hz => Yes.chk (sz_lt (by omega)) (Yes.vl (Yes.ok ⟨by rw [List.length_append, List.length_append, List.length_singleton, List.length_singleton, hd1], deck_app hd.2 hz⟩))

/-! ### pockets, with their log -/
theorem nxE {α : Type} {m : R α} {a : α} (h : m = .ok a) : m.nx = .ok a := by rw [h]; rfl
def pkts (P : Nat) (l : List (Str × Nat)) : List (List Str) := (List.range P).map fun j => (l.filter fun q => q.2 == j).map (·.1)
def plog (l : List (Str × Nat)) : List Int := l.map fun q => (q.2 : Int)
def pcnt (P : Nat) (l : List (Str × Nat)) : List Int := (List.range P).map fun j => ((l.filter fun q => q.2 == j).length : Int)
theorem pkts_len (P : Nat) (l : List (Str × Nat)) : (pkts P l).length = P := by unfold pkts; rw [List.length_map, List.length_range]
theorem pcnt_len (P : Nat) (l : List (Str × Nat)) : (pcnt P l).length = P := by unfold pcnt; rw [List.length_map, List.length_range]
theorem plog_len (l : List (Str × Nat)) : (plog l).length = l.length := by unfold plog; rw [List.length_map]
theorem pkts_get {P : Nat} {l : List (Str × Nat)} {k : Nat} (h : k < P) : getI (pkts P l) (k : Int) = (l.filter fun q => q.2 == k).map (·.1) := by
  rw [getI_k (by rw [pkts_len]; exact h)]; unfold pkts; rw [List.getElem_map, List.getElem_range]
theorem pcnt_get {P : Nat} {l : List (Str × Nat)} {k : Nat} (h : k < P) : getI (pcnt P l) (k : Int) = ((l.filter fun q => q.2 == k).length : Int) := by
  rw [getI_k (by rw [pcnt_len]; exact h)]; unfold pcnt; rw [List.getElem_map, List.getElem_range]
theorem pset {α : Type} {P k : Nat} (f g : Nat → α) (h : k < P) (e : ∀ j, j ≠ k → f j = g j) : setI ((List.range P).map f) (k : Int) (g k) = (List.range P).map g := by
  rw [setI_natK (by rw [List.length_map, List.length_range]; exact h)]
  apply List.ext_getElem (by simp)
  intro i h1 h2
  rw [List.getElem_set]
  split
  · rename_i q; subst q; rw [List.getElem_map, List.getElem_range]
  · rename_i q; rw [List.getElem_map, List.getElem_map, List.getElem_range]; exact e _ fun x => q x.symm
theorem filt_snoc {l : List (Str × Nat)} {x : Str} {k : Nat} (j : Nat) : (l ++ [(x, k)]).filter (fun q => q.2 == j) = if k = j then l.filter (fun q => q.2 == j) ++ [(x, k)] else l.filter (fun q => q.2 == j) := by
  rw [List.filter_append]
  by_cases c : k = j
  · rw [if_pos c, List.filter_cons_of_pos (by simpa using c)]; rfl
  · rw [if_neg c, List.filter_cons_of_neg (by simpa using c)]; simp
theorem pkts_snoc {P : Nat} {l : List (Str × Nat)} {x : Str} {k : Nat} (h : k < P) : setI (pkts P l) (k : Int) (getI (pkts P l) (k : Int) ++ [x]) = pkts P (l ++ [(x, k)]) := by
  rw [pkts_get h]
  have := pset (P := P) (k := k) (fun j => (l.filter fun q => q.2 == j).map (·.1)) (fun j => ((l ++ [(x, k)]).filter fun q => q.2 == j).map (·.1)) h (fun j hj => by rw [filt_snoc, if_neg fun c => hj c.symm])
  rw [filt_snoc, if_pos rfl, List.map_append] at this
  exact this
theorem pcnt_snoc {P : Nat} {l : List (Str × Nat)} {x : Str} {k : Nat} (h : k < P) : setI (pcnt P l) (k : Int) (getI (pcnt P l) (k : Int) + 1) = pcnt P (l ++ [(x, k)]) := by
  rw [pcnt_get h]
  have := pset (P := P) (k := k) (fun j => ((l.filter fun q => q.2 == j).length : Int)) (fun j => (((l ++ [(x, k)]).filter fun q => q.2 == j).length : Int)) h (fun j hj => by rw [filt_snoc, if_neg fun c => hj c.symm])
  rw [filt_snoc, if_pos rfl, List.length_append, List.length_singleton, Int.natCast_add] at this
  exact this
theorem plog_snoc (l : List (Str × Nat)) (x : Str) (k : Nat) : plog l ++ [(k : Int)] = plog (l ++ [(x, k)]) := by unfold plog; rw [List.map_append]; rfl
theorem getI_mid {α : Type} [Inhabited α] (a r : List α) (x : α) : getI (a ++ x :: r) (a.length : Int) = x := by
  rw [getI_k (by rw [List.length_append, List.length_cons]; omega), List.getElem_append_right (Nat.le_refl _)]
  simp
theorem pback_yes {P : Nat} {l : List (Str × Nat)} (hl : l.length ≤ 1000) (hP : P ≤ 1000) (hk : ∀ q ∈ l, q.2 < P) : m_put_back (pkts P l) (plog l) = .ok (l.map (·.1)) := by
  have key : ∀ r p, p ++ r = l → forR (fun (s_ : (List Str) × (List Int)) (q_ : Int) => m_put_back_b0 (pkts P l) s_.1 s_.2 q_) (p.map (·.1), pcnt P p) (plog r) = .ok (l.map (·.1), pcnt P l) := by
    intro r
    induction r with
    | nil => intro p e; rw [List.append_nil] at e; subst e; rfl
    | cons x r ih =>
      intro p e
      obtain ⟨z, k⟩ := x
      have hkP : k < P := hk (z, k) (by rw [← e]; simp)
      have fl : l.filter (fun q => q.2 == k) = p.filter (fun q => q.2 == k) ++ (z, k) :: r.filter (fun q => q.2 == k) := by rw [← e, List.filter_append, List.filter_cons_of_pos (by simp)]
      have hp : p.length < l.length := by rw [← e, List.length_append, List.length_cons]; omega
      have hb : m_put_back_b0 (pkts P l) (p.map (·.1)) (pcnt P p) (k : Int) = .ok ((p ++ [(z, k)]).map (·.1), pcnt P (p ++ [(z, k)])) := by
        have g2 : getI (getI (pkts P l) (k : Int)) (getI (pcnt P p) (k : Int)) = z := by
          rw [pkts_get hkP, pcnt_get hkP, fl, List.map_append, List.map_cons]
          have := getI_mid ((p.filter fun q => q.2 == k).map (·.1)) ((r.filter fun q => q.2 == k).map (·.1)) z
          rw [List.length_map] at this
          exact this
        unfold m_put_back_b0
        rw [chk_t (by unfold inR; rw [pkts_len]; omega), chk_t (by unfold inR; rw [pcnt_len]; omega), chk_t (by unfold inR; rw [pkts_get hkP, pcnt_get hkP, fl, List.length_map, List.length_append, List.length_cons]; omega), chk_t (sz_lt (by rw [List.length_map]; omega)), g2]
        show chk _ _ = _
        rw [chk_t ⟨by omega, by rw [pcnt_len]; omega, sz_lt (by rw [pcnt_len]; omega)⟩, pcnt_snoc (x := z) hkP]
        show R.ok _ = R.ok _
        rw [List.map_append]; rfl
      show forR _ _ ((k : Int) :: plog r) = _
      rw [forR_cons]
      show R.bind (m_put_back_b0 (pkts P l) (p.map (·.1)) (pcnt P p) (k : Int)) _ = _
      rw [hb]
      exact ih (p ++ [(z, k)]) (by rw [← e]; simp)
  have h0 : repL [(0 : Int)] ((pkts P l).length : Int) = pcnt P [] := by
    rw [repL_one, pkts_len, Int.toNat_natCast]
    unfold pcnt
    apply List.ext_getElem (by simp)
    intro i h1 h2
    rw [List.getElem_replicate, List.getElem_map]; rfl
  unfold m_put_back
  rw [chk_t (by rw [pkts_len]; exact ⟨by omega, by omega, sz_le (by rw [List.length_singleton]; omega)⟩), h0]
  show R.bind (forR (fun (s_ : (List Str) × (List Int)) (q_ : Int) => m_put_back_b0 (pkts P l) s_.1 s_.2 q_) (([] : List (Str × Nat)).map (·.1), pcnt P []) (plog l)) _ = _
  rw [key l [] rfl]; rfl
theorem pkts2 (l : List (Str × Nat)) : pkts 2 l = [(l.filter fun q => q.2 == 0).map (·.1), (l.filter fun q => q.2 == 1).map (·.1)] := rfl
theorem range_lc {α : Type} (b : α) : ∀ l : List Int, lcR (fun (_ : Int) => R.ok (some b)) l = .ok (List.replicate l.length b)
  | [] => rfl
  | x :: r => by
    show R.bind (lcR _ r) _ = _
    rw [range_lc b r]; rfl
theorem deckis_yes (l : List Str) : m_law_deck_is l l = .ok true := by
  unfold m_law_deck_is
  rw [decide_eq_true (show (l.length : Int) = (l.length : Int) from rfl)]
  show R.bind (forL (fun (s_ : Unit) (q_ : (Str × Str)) => m_law_deck_is_b0 q_.1 q_.2) () (l.zip l)) _ = _
  have : ∀ l : List Str, forL (fun (s_ : Unit) (q_ : (Str × Str)) => m_law_deck_is_b0 q_.1 q_.2) () (l.zip l) = .ok (.nxt ()) := by
    intro l
    induction l with
    | nil => rfl
    | cons x r ih =>
      rw [List.zip_cons_cons, forL_cons]
      show R.bind (m_law_deck_is_b0 x x) _ = _
      unfold m_law_deck_is_b0
      rw [decide_eq_true rfl]
      exact ih
  rw [this]; rfl
theorem bok {α β : Type} (a : α) (f : α → R β) : R.bind (.ok a) f = f a := rfl
theorem cutL_tail {α : Type} (l : List α) : cutL l (some (-1)) none = l.drop (l.length - 1) := by
  unfold cutL
  have e1 : HT.sIx l.length 0 (some (-1)) = l.length - 1 := by unfold HT.sIx; simp only; split <;> omega
  have e2 : HT.sIx l.length l.length none = l.length := rfl
  rw [e1, e2, List.take_of_length_le (by rw [List.length_drop]; exact Nat.le_refl _)]

/-! ### the law's deck in order -/
theorem lptx_yes {z : Str} {f : Int × Int} (h : z.length ≤ 1000) : m_law_part z f = .ok (partT z f) := chk_t (sz_le (by omega))
theorem lord_yes {deck : List Str} {f : Int × Int} (hd : deckOk deck) (hl : deck.length ≤ 1000) : Yes (m_law_ordered deck f) fun l => l.length = deck.length ∧ deckOk l := by
  unfold m_law_ordered
  refine Yes.vl (Yes.bind (Yes.forR (fun p (l : List Str) => l.length = p.length ∧ deckOk l) ⟨rfl, deck_nil⟩ (fun p x r e l hl2 => ?_) (W := fun l => l.length = deck.length ∧ deckOk l) fun l h => h) fun l h => Yes.ok h)
  have hp := len_mid e
  have hx := hd x (mem_mid e)
  have hll := hl2.1
  unfold m_law_ordered_b0
  refine Yes.vl (Yes.bind (P := fun t : Int => 0 ≤ t ∧ t ≤ (l.length : Int)) (Yes.whR (fun t : Int => 0 ≤ t ∧ t ≤ (l.length : Int)) (fun t => t.toNat) ⟨by omega, Int.le_refl _⟩ (fun t ht => ?_) (by show _ < 1000000; omega)) fun t ht => Yes.chk ⟨sz_lt (by omega), ht.1, by have := ht.2; omega⟩ (Yes.vl (Yes.ok ⟨by rw [insI_len, List.length_append, List.length_singleton]; omega, deck_ins hl2.2 hx⟩)))
  unfold m_law_ordered_c1
  refine Yes.bind (P := fun b => b = true → 0 < t) (Yes.ite (fun c => ?_) fun c => Yes.ok fun h => nomatch h) fun b hb => Yes.ok ?_
  · have c := of_decide_eq_true c
    have hi : inR l.length (t - 1) := by unfold inR; omega
    exact Yes.bindE (lptx_yes (by have := hx.1; omega)) (Yes.chk hi (Yes.bindE (lptx_yes (by have := (deck_get hl2.2 hi).1; omega)) (Yes.ok fun _ => c)))
  · split
    · rename_i hbt
      have := hb hbt
      unfold m_law_ordered_b1
      exact Yes.vl (Yes.ok ⟨by omega, by omega⟩)
    · exact ht

/-! ### cards fed in order by a field -/
def lastO : Option Str → List Str → Option Str
  | o, [] => o
  | _, x :: r => lastO (some x) r
theorem lastO_snoc : ∀ (o : Option Str) (p : List Str) (x : Str), lastO o (p ++ [x]) = some x
  | _, [], _ => rfl
  | _, y :: r, x => lastO_snoc (some y) r x
def labs (k : Option Str → Str → Nat) : Option Str → List Str → List (Str × Nat)
  | _, [] => []
  | o, x :: r => (x, k o x) :: labs k (some x) r
theorem labs_snoc (k : Option Str → Str → Nat) : ∀ (o : Option Str) (p : List Str) (x : Str), labs k o (p ++ [x]) = labs k o p ++ [(x, k (lastO o p) x)]
  | _, [], _ => rfl
  | o, y :: r, x => by
    show (y, k o y) :: labs k (some y) (r ++ [x]) = _
    rw [labs_snoc k (some y) r x]; rfl
theorem labs_fst (k : Option Str → Str → Nat) : ∀ (o : Option Str) (p : List Str), (labs k o p).map (·.1) = p
  | _, [] => rfl
  | o, y :: r => by
    show y :: (labs k (some y) r).map (·.1) = _
    rw [labs_fst k (some y) r]
theorem labs_len (k : Option Str → Str → Nat) (o : Option Str) (p : List Str) : (labs k o p).length = p.length := by
  have := congrArg List.length (labs_fst k o p)
  rw [List.length_map] at this; exact this
theorem labs_lt {k : Option Str → Str → Nat} {P : Nat} (h : ∀ o x, k o x < P) : ∀ (o : Option Str) (p : List Str), ∀ q ∈ labs k o p, q.2 < P
  | _, [], q, hq => nomatch hq
  | o, y :: r, q, hq => by
    rcases List.mem_cons.mp hq with rfl | hq
    · exact h o y
    · exact labs_lt h (some y) r q hq
theorem lastO_get : ∀ (o : Option Str) (p : List Str) (h : p ≠ []), lastO o p = some (p[p.length - 1]'(by have := List.length_pos_iff.mpr h; omega))
  | o, [], h => absurd rfl h
  | o, [x], _ => rfl
  | o, x :: y :: r, _ => by
    show lastO (some x) (y :: r) = _
    rw [lastO_get (some x) (y :: r) (fun h => nomatch h)]
    congr 1

theorem enumL_snd {α : Type} : ∀ (l : List α) (k : Int), (enumL k l).map (·.2) = l
  | [], _ => rfl
  | x :: r, k => by rw [enumL_cons, List.map_cons, enumL_snd r]
theorem enum_at {α : Type} : ∀ (l : List α) (k : Int) (p r : List (Int × α)) (x : Int × α), enumL k l = p ++ x :: r → x.1 = k + (p.length : Int)
  | [], _, p, r, x, e => by rw [enumL_nil] at e; exact absurd e.symm (by simp)
  | a :: l, k, [], r, x, e => by rw [enumL_cons] at e; rw [← (List.cons.inj e).1]; simp
  | a :: l, k, b :: p, r, x, e => by
    rw [enumL_cons] at e
    have := enum_at l (k + 1) p r x (List.cons.inj e).2
    rw [this, List.length_cons]; omega
theorem enum_mid {α : Type} {l : List α} {p r : List (Int × α)} {x : Int × α} (e : enumL 0 l = p ++ x :: r) : l = p.map (·.2) ++ x.2 :: r.map (·.2) ∧ x.1 = (p.length : Int) := by
  have h := congrArg (List.map (·.2)) e
  rw [enumL_snd, List.map_append, List.map_cons] at h
  exact ⟨h, by have := enum_at l 0 p r x e; omega⟩
theorem last_ok {p : List Str} {y : Str} (hd : deckOk p) (h : lastO none p = some y) : cardOk y := by
  have hn : p ≠ [] := fun e => by subst e; exact nomatch h
  rw [lastO_get none p hn] at h
  exact Option.some.inj h ▸ hd _ (List.getElem_mem _)
theorem before_is {deck p r : List Str} {x : Str} (e : deck = p ++ x :: r) (k : Int) (hk : k = (p.length : Int)) : inR deck.length (max2 0 (k - 1)) ∧ getI deck (max2 0 (k - 1)) = (lastO none p).getD x := by
  subst hk
  have hl : p.length < deck.length := len_mid e
  by_cases h : p = []
  · subst h
    refine ⟨?_, ?_⟩
    · show inR deck.length (max2 0 ((0 : Int) - 1))
      have : max2 0 ((0 : Int) - 1) = 0 := rfl
      rw [this]; unfold inR; omega
    · subst e
      show getI (x :: r) (max2 0 ((0 : Int) - 1)) = x
      rw [show max2 0 ((0 : Int) - 1) = ((0 : Nat) : Int) from rfl]
      exact getI_k (by simp)
  · have hpos := List.length_pos_iff.mpr h
    have m : max2 0 ((p.length : Int) - 1) = ((p.length - 1 : Nat) : Int) := by unfold max2; split <;> omega
    rw [m]
    refine ⟨by unfold inR; omega, ?_⟩
    rw [getI_k (by omega), lastO_get none p h]
    subst e
    rw [List.getElem_append_left (by omega)]; rfl
theorem last_get {p : List Str} {y : Str} (h : lastO none p = some y) : p ≠ [] ∧ getI p (-(1 : Int)) = y ∧ inR p.length (-(1 : Int)) ∧ cutL p (some (-(1 : Int))) none = [y] := by
  have hn : p ≠ [] := fun e => by subst e; exact nomatch h
  have hpos := List.length_pos_iff.mpr hn
  rw [lastO_get none p hn] at h
  have hi : inR p.length (-(1 : Int)) := by unfold inR; omega
  refine ⟨hn, ?_, hi, ?_⟩
  · rw [← Option.some.inj h]
    unfold getI atI ixN
    rw [if_neg (by decide)]
    have : (-(1 : Int) + (p.length : Int)) = ((p.length - 1 : Nat) : Int) := by omega
    simp [show 0 ≤ -(1 : Int) + (p.length : Int) by omega, this]
    rw [if_pos (by omega)]
    show (p[p.length - 1]?).getD default = _
    rw [List.getElem?_eq_getElem (by omega)]; rfl
  · rw [cutL_tail, List.drop_eq_getElem_cons (by omega), Option.some.inj h, show p.length - 1 + 1 = p.length by omega, List.drop_length]

/-! ### the mater -/
def partD (f : Int × Int) (p : List Str) : List (Str × Bool) := p.foldl (fun d x => dPut d (partT x f) true) []
theorem partD_snoc (f : Int × Int) (p : List Str) (x : Str) : partD f (p ++ [x]) = dPut (partD f p) (partT x f) true := by
  unfold partD; rw [List.foldl_append]; rfl
theorem partD_len0 (f : Int × Int) : ∀ (p : List Str) (d : List (Str × Bool)), (p.foldl (fun d x => dPut d (partT x f) true) d).length ≤ d.length + p.length
  | [], d => Nat.le_refl _
  | x :: r, d => by
    have h1 := partD_len0 f r (dPut d (partT x f) true)
    have h2 := dPut_len d (partT x f) true
    rw [List.foldl_cons, List.length_cons]; omega
theorem partD_len (f : Int × Int) (p : List Str) : (partD f p).length ≤ p.length := by
  have := partD_len0 f p []
  rw [show ([] : List (Str × Bool)).length = 0 from rfl, Nat.zero_add] at this; exact this
def mtk (f : Int × Int) (D : List (Str × Bool)) (w : Str) (_ : Option Str) (x : Str) : Nat := if decide (partT x f ∈ D.map (·.1)) = decide (w = "mates") then 0 else 1
theorem mtk_lt (f : Int × Int) (D : List (Str × Bool)) (w : Str) (o : Option Str) (x : Str) : mtk f D w o x < 2 := by unfold mtk; split <;> decide
def MM (f : Int × Int) (D : List (Str × Bool)) (w : Str) (p : List Str) : Mater := ⟨pkts 2 (labs (mtk f D w) none p), plog (labs (mtk f D w) none p), f, lastO none p, ⟨D⟩, w⟩
theorem mm_new {f f2 : Int × Int} {oth : List Str} {w : Str} (hw : f.2 - f.1 = f2.2 - f2.1) (hf2 : fieldOk f2) (hd : deckOk oth) (hl : oth.length ≤ 1000) (hs : outS (colsF f2) oth = none) : m_Mater___init__ f oth f2 w = .ok (MM f (partD f2 oth) w []) := by
  unfold m_Mater___init__
  have e0 : m_Mater_Rower___init__ f = .ok ⟨[[], []], [], f, none⟩ := by
    unfold m_Mater_Rower___init__ m_Mater_Machine___init__
    rw [chk_t (by decide), chk_t (sz_lt (by rw [rangeL_len]; decide)), range_lc]
    rfl
  refine Yes.eq (Yes.bindE (nxE e0) (Yes.iteF (by rw [decide_eq_true hw]; decide) (Yes.bindE (nxE (cols_yes hf2)) (Yes.bindE (a := none) (nxE (by rw [out_yes hd (colsF_ok hf2) (by omega), hs])) (Yes.opt (fun _ => Yes.vl (Yes.bind (Yes.forR (fun p (s : Dct Str Bool) => s = ⟨partD f2 p⟩) rfl (fun p x r e s hs => ?_) (W := fun s => s = ⟨partD f2 oth⟩) fun s h => h) fun s h => Yes.vl (Yes.ok (by rw [h]; rfl)))) fun b e => nomatch e)))))
  subst hs
  have hx := hd x (mem_mid e)
  have hp := len_mid e
  have := partD_len f2 p
  unfold m_Mater___init___b0
  exact Yes.bindE (nxE (part_yes (by have := hx.1; omega))) (Yes.chk (sz_lt (show (partD f2 p).length < 1000000 by omega)) (Yes.vl (Yes.ok (by rw [partD_snoc]))))
theorem mstays_yes {f : Int × Int} {D : List (Str × Bool)} {w : Str} {a : List (List Str)} {b : List Int} {o : Option Str} {x : Str} (hx : cardOk x) : m_Mater_stays ⟨a, b, f, o, ⟨D⟩, w⟩ x = .ok (decide (mtk f D w o x = 0)) := by
  unfold m_Mater_stays
  refine Yes.eq (Yes.bindE (part_yes (by have := hx.1; omega)) (Yes.ok ?_))
  unfold mtk
  by_cases c : decide (partT x f ∈ D.map (·.1)) = decide (w = "mates")
  · rw [if_pos c]; exact (decide_eq_true c).trans (decide_eq_true rfl).symm
  · rw [if_neg c]; exact (decide_eq_false c).trans (decide_eq_false (by decide)).symm
theorem mpocket_ok {f : Int × Int} {D : List (Str × Bool)} {w : Str} {a : List (List Str)} {b : List Int} {o : Option Str} {x : Str} (hf : fieldOk f) (hx : cardOk x) (ho : ∀ y, o = some y → cardOk y) (hn : ∀ y, o = some y → ¬ keyOf (colsF f) x < keyOf (colsF f) y) : m_Mater_pocket_for ⟨a, b, f, o, ⟨D⟩, w⟩ x = .ok (⟨a, b, f, some x, ⟨D⟩, w⟩, (mtk f D w o x : Int)) := by
  have fin : ∀ t, t = false → (if t = true then (.ex (Er.NoOrder (1 : Int) ((b.length : Int)))) else (R.bind (m_Mater_stays ⟨a, b, f, o, ⟨D⟩, w⟩ x).nx fun r41 => (vl (b2i (!r41)) fun number_48 => (vl (some x) fun self_fed_last_50 => (.ok ((⟨a, b, f, self_fed_last_50, ⟨D⟩, w⟩ : Mater), number_48)))))) = .ok (⟨a, b, f, some x, ⟨D⟩, w⟩, (mtk f D w o x : Int)) := fun t ht => by
    subst ht
    rw [if_neg (by decide), mstays_yes hx]
    show R.ok (_, b2i (!decide (mtk f D w o x = 0))) = _
    have := mtk_lt f D w o x
    have : mtk f D w o x = 0 ∨ mtk f D w o x = 1 := by omega
    rcases this with h | h <;> rw [h] <;> rfl
  unfold m_Mater_pocket_for
  cases o with
  | none => exact fin false rfl
  | some y =>
    refine Yes.eq (Yes.bindE (a := false) (Yes.eq (Yes.iteT (by simp) (Yes.chk rfl (Yes.bindE (nxE (cols_yes hf)) (Yes.bindE (nxE (comes_yes hx (ho y rfl) (colsF_ok hf))) (Yes.ok (decide_eq_false (hn y rfl)))))))) (Yes.of (fin false rfl) rfl))
theorem mfeed_ok {f : Int × Int} {D : List (Str × Bool)} {w : Str} {p : List Str} {x : Str} (hf : fieldOk f) (hx : cardOk x) (hp : p.length ≤ 1000) (ho : ∀ y, lastO none p = some y → cardOk y) (hn : ∀ y, lastO none p = some y → ¬ keyOf (colsF f) x < keyOf (colsF f) y) : m_Mater_feed (MM f D w p) x = .ok (MM f D w (p ++ [x])) := by
  have hk := mtk_lt f D w (lastO none p) x
  unfold m_Mater_feed
  show R.bind (m_Mater_pocket_for ⟨pkts 2 (labs (mtk f D w) none p), plog (labs (mtk f D w) none p), f, lastO none p, ⟨D⟩, w⟩ x) _ = _
  rw [mpocket_ok hf hx ho hn]
  show chk (inR (pkts 2 (labs (mtk f D w) none p)).length (mtk f D w (lastO none p) x : Int)) (chk ((getI (pkts 2 (labs (mtk f D w) none p)) (mtk f D w (lastO none p) x : Int)).length < sizeLine) (chk ((plog (labs (mtk f D w) none p)).length < sizeLine) (R.ok (⟨setI (pkts 2 (labs (mtk f D w) none p)) (mtk f D w (lastO none p) x : Int) (getI (pkts 2 (labs (mtk f D w) none p)) (mtk f D w (lastO none p) x : Int) ++ [x]), plog (labs (mtk f D w) none p) ++ [(mtk f D w (lastO none p) x : Int)], f, some x, ⟨D⟩, w⟩ : Mater)))) = _
  rw [chk_t (by unfold inR; rw [pkts_len]; omega), chk_t (sz_lt (by rw [pkts_get hk, List.length_map]; have := List.length_filter_le (fun q : Str × Nat => q.2 == mtk f D w (lastO none p) x) (labs (mtk f D w) none p); rw [labs_len] at this; omega)), chk_t (sz_lt (by rw [plog_len, labs_len]; omega)), pkts_snoc hk, plog_snoc _ x]
  unfold MM
  rw [labs_snoc, lastO_snoc]
theorem mback {f : Int × Int} {D : List (Str × Bool)} {w : Str} {p : List Str} (hp : p.length ≤ 1000) : m_Mater_back (MM f D w p) = .ok p := by
  unfold m_Mater_back
  show R.bind (m_put_back (pkts 2 (labs (mtk f D w) none p)) (plog (labs (mtk f D w) none p))) _ = _
  rw [pback_yes (by rw [labs_len]; exact hp) (by decide) (labs_lt (mtk_lt f D w) none p), labs_fst]; rfl
/-- what stays with a mater -/
theorem labs_const (q : Str → Nat) : ∀ (o : Option Str) (p : List Str), labs (fun _ x => q x) o p = p.map fun x => (x, q x)
  | _, [] => rfl
  | o, x :: r => by show (x, q x) :: labs (fun _ x => q x) (some x) r = _; rw [labs_const q (some x) r]; rfl
theorem labs_filt (q : Str → Nat) (n : Nat) (p : List Str) : ((labs (fun _ x => q x) none p).filter fun t => t.2 == n).map (·.1) = p.filter fun x => q x == n := by
  rw [labs_const]
  induction p with
  | nil => rfl
  | cons x r ih =>
    rw [List.map_cons]
    cases h : q x == n with
    | true => rw [List.filter_cons_of_pos (by exact h), List.filter_cons_of_pos (p := fun x => q x == n) h, List.map_cons, ih]
    | false => rw [List.filter_cons_of_neg (by show ¬ (q x == n) = true; rw [h]; decide), List.filter_cons_of_neg (p := fun x => q x == n) (by rw [h]; decide), ih]
theorem mstay (f : Int × Int) (D : List (Str × Bool)) (w : Str) (p : List Str) : m_Mater_stayed (MM f D w p) = .ok (p.filter fun x => mtk f D w none x == 0) := by
  unfold m_Mater_stayed
  rw [chk_t (by show inR 2 0; unfold inR; decide)]
  exact congrArg R.ok (labs_filt (fun x => mtk f D w none x) 0 p)
theorem maside {f : Int × Int} {D : List (Str × Bool)} {w : Str} {p : List Str} (hp : p.length ≤ 1000) : m_Mater_laid_aside (MM f D w p) = .ok (p.filter fun x => mtk f D w none x == 1) := by
  unfold m_Mater_laid_aside
  show R.bind (m_gather (cutL (pkts 2 (labs (mtk f D w) none p)) (some (1 : Int)) none)) _ = _
  rw [cutL_from (by decide), pkts2]
  show R.bind (m_gather [((labs (mtk f D w) none p).filter fun t => t.2 == 1).map (·.1)]) _ = _
  rw [show ((labs (mtk f D w) none p).filter fun t => t.2 == 1).map (·.1) = p.filter fun x => mtk f D w none x == 1 from labs_filt (fun x => mtk f D w none x) 1 p]
  have : m_gather [p.filter fun x => mtk f D w none x == 1] = .ok (p.filter fun x => mtk f D w none x == 1) := by
    unfold m_gather
    show R.bind (R.bind (m_gather_b0 [] (p.filter fun x => mtk f D w none x == 1)) _) _ = _
    have := List.length_filter_le (fun x => mtk f D w none x == 1) p
    have e : m_gather_b0 [] (p.filter fun x => mtk f D w none x == 1) = .ok (p.filter fun x => mtk f D w none x == 1) := by
      unfold m_gather_b0
      rw [chk_t (sz_le (by show 0 + _ ≤ _; omega))]; rfl
    rw [e]; rfl
  rw [this]; rfl

theorem mfeed_ex {f : Int × Int} {D : List (Str × Bool)} {w : Str} {p : List Str} {x y : Str} (hf : fieldOk f) (hx : cardOk x) (hy : cardOk y) (ho : lastO none p = some y) (hn : keyOf (colsF f) x < keyOf (colsF f) y) : m_Mater_feed (MM f D w p) x = .ex (.NoOrder 1 (p.length : Int)) := by
  have e : m_Mater_pocket_for (MM f D w p) x = .ex (.NoOrder 1 (p.length : Int)) := by
    unfold m_Mater_pocket_for
    have hs : (MM f D w p).fed_last = some y := ho
    rw [hs]
    refine (bind_eq (a := true) (Yes.eq (Yes.iteT (by simp) (Yes.chk rfl (Yes.bindE (nxE (cols_yes hf)) (Yes.bindE (nxE (comes_yes hx hy (colsF_ok hf))) (Yes.ok (decide_eq_true hn))))))) ?_)
    show R.ex (Er.NoOrder 1 ((plog (labs (mtk f D w) none p)).length : Int)) = _
    rw [plog_len, labs_len]
  unfold m_Mater_feed
  show R.bind (m_Mater_pocket_for (MM f D w p) x) _ = _
  rw [e]; rfl
theorem mm_ex {f f2 : Int × Int} {oth : List Str} {w : Str} {k : Int} (hw : f.2 - f.1 = f2.2 - f2.1) (hf2 : fieldOk f2) (hd : deckOk oth) (hl : oth.length ≤ 1000) (hs : outS (colsF f2) oth = some k) : m_Mater___init__ f oth f2 w = .ex (.NoOrder 2 k) := by
  unfold m_Mater___init__
  have e0 : m_Mater_Rower___init__ f = .ok ⟨[[], []], [], f, none⟩ := by
    unfold m_Mater_Rower___init__ m_Mater_Machine___init__
    rw [chk_t (by decide), chk_t (sz_lt (by rw [rangeL_len]; decide)), range_lc]
    rfl
  refine (bind_eq (nxE e0) ?_)
  rw [if_neg (by rw [decide_eq_true hw]; decide)]
  refine (bind_eq (nxE (cols_yes hf2)) ?_)
  refine (bind_eq (a := some k) (nxE (by rw [out_yes hd (colsF_ok hf2) (by omega), hs])) ?_)
  rfl

/-! ### the law's own look -/
theorem lout_yes {deck : List Str} {f : Int × Int} (hd : deckOk deck) (hf : fieldOk f) (hl : deck.length ≤ 100000) : m_law_out deck f = .ok (outS (colsF f) deck) := by
  unfold m_law_out
  refine chk_eq ⟨by omega, by omega, by omega, by omega⟩ ?_
  rw [forL_find (fun k : Int => decide (keyOf (colsF f) (getI deck k) < keyOf (colsF f) (getI deck (k - 1)))) (fun k => some k) (fun k hk => ?_)]
  · unfold outS
    cases (rangeL 1 ((deck.length : Int) - 1).toNat).find? fun k => decide (keyOf (colsF f) (getI deck k) < keyOf (colsF f) (getI deck (k - 1))) with
    | none => rfl
    | some k => rfl
  · have hk := rangeL_mem hk
    have i1 : inR deck.length k := by unfold inR; omega
    have i2 : inR deck.length (k - 1) := by unfold inR; omega
    have c1 := deck_get hd i1
    have c2 := deck_get hd i2
    unfold m_law_out_b0
    refine chk_eq i1 (bind_eq (lptx_yes (by have := c1.1; omega)) (chk_eq i2 (bind_eq (lptx_yes (by have := c2.1; omega)) ?_)))
    rw [key_part2 c1.1 hf, key_part2 c2.1 hf]
    show (if decide (codes (partT (getI deck k) f) < codes (partT (getI deck (k - 1)) f)) = true then R.ok (LR.ret (some k)) else R.ok (LR.nxt ())) = _
    split <;> rfl
theorem isout_yes (a b : Int) : m_law_is_out_NoOrder a b a b = .ok true := by
  unfold m_law_is_out_NoOrder
  have e : ∀ x : Int, m_law_is_out_NoOrder_b0 x x = .ok (.nxt ()) := fun x => by
    unfold m_law_is_out_NoOrder_b0
    rw [decide_eq_true (rfl : x = x)]; rfl
  refine (bind_eq (a := false) rfl ?_)
  rw [if_neg (by decide)]
  have : forL (fun (s_ : Unit) (q_ : (Int × Int)) => m_law_is_out_NoOrder_b0 q_.1 q_.2) () [(a, a), (b, b)] = .ok (.nxt ()) := by
    unfold forL; dsimp only; rw [e a]
    show forL _ _ _ = _
    unfold forL; dsimp only; rw [e b]
    rfl
  rw [this]; rfl
theorem rbr {α : Type} (m : R α) : (R.bind m fun r => .ok r) = m := by cases m <;> rfl
def gng (f f2 : Int × Int) (w : Str) : PyData := ToD.td ((⟨[(ToD.td (("mate" : Str) : Str)), (ToD.td (("a" : Str) : Str)), (ToD.td (("b" : Str) : Str)), (ToD.td (f : (Int × Int))), (ToD.td (f2 : (Int × Int))), (ToD.td (w : Str))]⟩ : (TL PyData)) : (TL PyData))
theorem ab : ¬ ("b" : Str) = "a" := by decide +kernel
theorem machine_is (f f2 : Int × Int) (w : Str) (d : Dct Str (List Str)) : m_machine_of (gng f f2 w) d = m_mater_of (gng f f2 w) d := by
  have nn : ∀ x ∈ [("deal" : Str), "pick"], ¬ decide (("mate" : Str) = x) = true := by decide +kernel
  unfold m_machine_of
  have e0 : (FromD.fd (α := Str) (dyAt (gng f f2 w) 0)).isSome = true ∧ (FromD.fd (α := Str) (dyAt (gng f f2 w) 0)).getD default = "mate" := ⟨rfl, rfl⟩
  rw [chk_t ⟨rfl, by show inR 6 0; unfold inR; omega⟩, chk_t e0.1, e0.2]
  exact vl_eq (ite_eqF (nn "deal" (by simp)) (ite_eqF (nn "pick" (by simp)) (ite_eqT (decide_eq_true rfl) (rbr _))))
theorem mater_is {f f2 : Int × Int} {w : Str} {oth : List Str} : m_mater_of (gng f f2 w) ⟨dOf [(("a" : Str), ([] : List Str)), (("b" : Str), oth)]⟩ = m_Mater___init__ f oth f2 w := by
  have hd : (dOf [(("a" : Str), ([] : List Str)), (("b" : Str), oth)]) = [(("a" : Str), ([] : List Str)), (("b" : Str), oth)] := by
    show dPut (dPut [] ("a" : Str) []) ("b" : Str) oth = _
    rfl
  have i6 : ∀ i : Int, 0 ≤ i → i < 6 → dySeq (gng f f2 w) = true ∧ inR (dyItems (gng f f2 w)).length i := fun i h0 h1 => ⟨rfl, by show inR 6 i; unfold inR; omega⟩
  have e2 : (FromD.fd (α := Str) (dyAt (gng f f2 w) 2)).isSome = true ∧ (FromD.fd (α := Str) (dyAt (gng f f2 w) 2)).getD default = "b" := ⟨rfl, rfl⟩
  have e3 : (FromD.fd (α := Int × Int) (dyAt (gng f f2 w) 3)).isSome = true ∧ (FromD.fd (α := Int × Int) (dyAt (gng f f2 w) 3)).getD default = f := ⟨rfl, rfl⟩
  have e4 : (FromD.fd (α := Int × Int) (dyAt (gng f f2 w) 4)).isSome = true ∧ (FromD.fd (α := Int × Int) (dyAt (gng f f2 w) 4)).getD default = f2 := ⟨rfl, rfl⟩
  have e5 : (FromD.fd (α := Str) (dyAt (gng f f2 w) 5)).isSome = true ∧ (FromD.fd (α := Str) (dyAt (gng f f2 w) 5)).getD default = w := ⟨rfl, rfl⟩
  have hb : ("b" : Str) ∈ (⟨dOf [(("a" : Str), ([] : List Str)), (("b" : Str), oth)]⟩ : Dct Str (List Str)).kv.map (·.1) := by rw [hd]; simp
  have hat : dAt (⟨dOf [(("a" : Str), ([] : List Str)), (("b" : Str), oth)]⟩ : Dct Str (List Str)) "b" = oth := by
    show dAt (⟨dOf _⟩ : Dct Str (List Str)) "b" = oth
    rw [hd]; rfl
  unfold m_mater_of
  rw [chk_t (i6 2 (by decide) (by decide)), chk_t e2.1, e2.2]
  have hn : ¬ (!decide (("b" : Str) ∈ (⟨dOf [(("a" : Str), ([] : List Str)), (("b" : Str), oth)]⟩ : Dct Str (List Str)).kv.map (·.1))) = true := by rw [decide_eq_true hb]; decide
  refine vl_eq (ite_eqF hn ?_)
  rw [chk_t (i6 3 (by decide) (by decide)), chk_t e3.1, chk_t hb, chk_t (i6 4 (by decide) (by decide)), chk_t e4.1, chk_t (i6 5 (by decide) (by decide)), chk_t e5.1, hat, e3.2, e4.2, e5.2, rbr]
theorem lmade_is {ff : (Int × Int) × (Int × Int)} {oth : List Str} {w : Str} (way : Int) : m_law_made ff oth w way = m_Mater___init__ ff.1 oth ff.2 w := by
  unfold m_law_made
  split
  · rw [rbr]
  · rw [rbr]
    show m_machine_of (gng ff.1 ff.2 w) _ = _
    rw [machine_is, mater_is]
theorem nomachine_yes {ff : (Int × Int) × (Int × Int)} {oth : List Str} {w : Str} {k : Int} (way : Int) (hw : ff.1.2 - ff.1.1 = ff.2.2 - ff.2.1) (hf2 : fieldOk ff.2) (hd : deckOk oth) (hl : oth.length ≤ 1000) (hs : outS (colsF ff.2) oth = some k) : m_law_no_machine ff oth w way k = .ok true := by
  unfold m_law_no_machine
  rw [lmade_is, mm_ex hw hf2 hd hl hs]
  show R.bind (m_law_is_out_NoOrder 2 k 2 k) _ = _
  rw [isout_yes]; rfl
theorem notray_yes (ff : (Int × Int) × (Int × Int)) (w : Str) : m_law_no_tray ff w = .ok true := by
  have e : m_machine_of (gng ff.1 ff.2 w) ⟨dOf [(("a" : Str), ([] : List Str))]⟩ = .ex .NoTray := by
    rw [machine_is]
    have e2 : (FromD.fd (α := Str) (dyAt (gng ff.1 ff.2 w) 2)).isSome = true ∧ (FromD.fd (α := Str) (dyAt (gng ff.1 ff.2 w) 2)).getD default = "b" := ⟨rfl, rfl⟩
    have hb : ¬ ("b" : Str) ∈ (⟨dOf [(("a" : Str), ([] : List Str))]⟩ : Dct Str (List Str)).kv.map (·.1) := by
      show ¬ ("b" : Str) ∈ [("a" : Str)]
      rw [List.mem_singleton]; exact ab
    unfold m_mater_of
    rw [chk_t ⟨rfl, by show inR 6 2; unfold inR; omega⟩, chk_t e2.1, e2.2]
    exact vl_eq (ite_eqT (by rw [decide_eq_false hb]; rfl) rfl)
  unfold m_law_no_tray
  show R.tr (R.bind (m_machine_of (gng ff.1 ff.2 w) ⟨dOf [(("a" : Str), ([] : List Str))]⟩) _) _ _ = _
  rw [e]; rfl
theorem refuses_yes {f : Int × Int} {D : List (Str × Bool)} {w : Str} {p : List Str} {x y : Str} (hf : fieldOk f) (hd : deckOk p) (hx : cardOk x) (hl : p.length ≤ 100) (ho : lastO none p = some y) (hn : keyOf (colsF f) x < keyOf (colsF f) y) : Yes (m_law_refuses (MM f D w p) x p) fun r => r.2 = true := by
  have hy := last_ok hd ho
  obtain ⟨_, g1, g2, g3⟩ := last_get ho
  have fe := mfeed_ex (D := D) (w := w) hf hx hy ho hn
  have fo : m_Mater_feed (MM f D w p) y = .ok (MM f D w (p ++ [y])) := mfeed_ok hf hy (by omega) (fun z hz => by rw [ho] at hz; exact Option.some.inj hz ▸ hy) (fun z hz => by rw [ho] at hz; exact Option.some.inj hz ▸ list_irr _)
  unfold m_law_refuses
  refine Yes.vl (Yes.trE (e := .NoOrder 1 (p.length : Int)) (by rw [fe]; rfl) ?_)
  refine Yes.bindE (isout_yes 1 (p.length : Int)) (Yes.bindE (a := false) ?_ (Yes.iteF (by decide) (Yes.chk g2 (Yes.bindE (a := MM f D w (p ++ [y])) (by rw [g1]; exact nxE fo) (Yes.iteT rfl (Yes.bindE (mback (by rw [List.length_append, List.length_singleton]; omega)) (Yes.chk (sz_le (by rw [g3, List.length_singleton]; omega)) (Yes.bindE (a := true) (by rw [g3]; exact deckis_yes _) (Yes.ok rfl)))))))))
  show R.bind (m_Mater_back (MM f D w p)) _ = _
  rw [mback (by omega), bok, deckis_yes]; rfl
theorem known_yes {f2 : Int × Int} {ff : (Int × Int) × (Int × Int)} (e : ff.2 = f2) {oth : List Str} (hd : deckOk oth) (hl : oth.length ≤ 1000) : forR (fun (s_ : Dct Str Bool) (q_ : Str) => m_law_ended_b0 ff s_ q_) (⟨[]⟩ : Dct Str Bool) oth = .ok ⟨partD f2 oth⟩ := by
  refine Yes.eq (Yes.forR (fun p (s : Dct Str Bool) => s = ⟨partD f2 p⟩) rfl (fun p x r e1 s hs => ?_) fun s h => h)
  subst hs
  have hx := hd x (mem_mid e1)
  have hp := len_mid e1
  have := partD_len f2 p
  unfold m_law_ended_b0
  rw [e]
  exact Yes.bindE (lptx_yes (by have := hx.1; omega)) (Yes.chk (sz_lt (show (partD f2 p).length < 1000000 by omega)) (Yes.vl (Yes.ok (by rw [partD_snoc]))))
theorem mt0 (f : Int × Int) (D : List (Str × Bool)) (w : Str) (x : Str) : (mtk f D w none x == 0) = decide (decide (partT x f ∈ D.map (·.1)) = decide (w = "mates")) ∧ (mtk f D w none x == 1) = !decide (decide (partT x f ∈ D.map (·.1)) = decide (w = "mates")) := by
  unfold mtk
  by_cases c : decide (partT x f ∈ D.map (·.1)) = decide (w = "mates")
  · rw [if_pos c, decide_eq_true c]; exact ⟨rfl, rfl⟩
  · rw [if_neg c, decide_eq_false c]; exact ⟨rfl, rfl⟩
theorem ended_yes {ff : (Int × Int) × (Int × Int)} {ones oth : List Str} {w : Str} (hd : deckOk ones) (hd2 : deckOk oth) (hl : ones.length ≤ 100) (hl2 : oth.length ≤ 100) : m_law_ended (MM ff.1 (partD ff.2 oth) w ones) ones oth ff w = .ok true := by
  unfold m_law_ended
  have k1 : lcR (fun (x : Str) => (R.bind (m_law_part x ff.1) fun r56 => (if (decide ((decide (r56 ∈ ((⟨partD ff.2 oth⟩ : Dct Str Bool)).kv.map (·.1))) = (decide (w = ("mates" : Str))))) = true then (.ok (some x)) else .ok none))) ones = .ok (ones.filter fun x => mtk ff.1 (partD ff.2 oth) w none x == 0) := by
    have := lcR_filter (f := fun x : Str => x) (p := fun x => mtk ff.1 (partD ff.2 oth) w none x == 0) (l := ones) (F := fun (x : Str) => (R.bind (m_law_part x ff.1) fun r56 => (if (decide ((decide (r56 ∈ ((⟨partD ff.2 oth⟩ : Dct Str Bool)).kv.map (·.1))) = (decide (w = ("mates" : Str))))) = true then (.ok (some x)) else .ok none))) fun x hx => by
      rw [lptx_yes (by have := (hd x hx).1; omega), (mt0 _ _ _ _).1, bok]
      split <;> rfl
    rw [this, List.map_id']
  have k2 : lcR (fun (x : Str) => (R.bind (m_law_part x ff.1) fun r56 => (if (!decide ((decide (r56 ∈ ((⟨partD ff.2 oth⟩ : Dct Str Bool)).kv.map (·.1))) = (decide (w = ("mates" : Str))))) = true then (.ok (some x)) else .ok none))) ones = .ok (ones.filter fun x => mtk ff.1 (partD ff.2 oth) w none x == 1) := by
    have := lcR_filter (f := fun x : Str => x) (p := fun x => mtk ff.1 (partD ff.2 oth) w none x == 1) (l := ones) (F := fun (x : Str) => (R.bind (m_law_part x ff.1) fun r56 => (if (!decide ((decide (r56 ∈ ((⟨partD ff.2 oth⟩ : Dct Str Bool)).kv.map (·.1))) = (decide (w = ("mates" : Str))))) = true then (.ok (some x)) else .ok none))) fun x hx => by
      rw [lptx_yes (by have := (hd x hx).1; omega), (mt0 _ _ _ _).2, bok]
      split <;> rfl
    rw [this, List.map_id']
  have l1 := List.length_filter_le (fun x => mtk ff.1 (partD ff.2 oth) w none x == 0) ones
  refine Yes.eq (Yes.vl (Yes.bindE (known_yes rfl hd2 (by omega)) (Yes.chk (sz_lt (by omega)) (Yes.bindE k1 (Yes.chk (sz_lt (by omega)) (Yes.bindE k2 (Yes.bindE (a := false) ?_ (Yes.iteF (by decide) (Yes.bindE (mstay _ _ _ _) (Yes.chk (sz_lt (by omega)) (Yes.bindE (maside (by omega)) (Yes.bindE (deckis_yes _) (Yes.iteF (by decide) (Yes.bindE (a := true) ?_ (Yes.ok rfl)))))))))))))))
  · show R.bind (m_Mater_stayed _) _ = _
    rw [mstay, bok, deckis_yes]; rfl
  · rw [mstay, bok, deckis_yes]; rfl
def FOK (ff : (Int × Int) × (Int × Int)) : Prop := fieldOk ff.1 ∧ fieldOk ff.2 ∧ ff.1.2 - ff.1.1 = ff.2.2 - ff.2.1
theorem lfields_ok (cell : Int) : Yes (m_law_fields cell) FOK := by
  unfold m_law_fields
  refine Yes.vli fun n hn => Yes.vli fun w0 hw0 => Yes.bind (P := fun w => 1 ≤ w ∧ w ≤ 12) (Yes.ite (fun _ => Yes.vl (Yes.ok (by omega))) fun _ => Yes.ok ?_) fun wd hw => ?_
  · have a0 := Int.emod_nonneg n (show (3 : Int) ≠ 0 by decide)
    have a1 := Int.emod_lt_of_pos n (show (0 : Int) < 3 by decide)
    rw [hw0]; omega
  unfold m_law_fields_j0
  have b0 := Int.emod_nonneg (n / 27) (show (37 : Int) - wd ≠ 0 by omega)
  have b1 := Int.emod_lt_of_pos (n / 27) (show (0 : Int) < 37 - wd by omega)
  have c0 := Int.emod_nonneg (n / 1000) (show (37 : Int) - wd ≠ 0 by omega)
  have c1 := Int.emod_lt_of_pos (n / 1000) (show (0 : Int) < 37 - wd by omega)
  refine Yes.chk (by omega) (Yes.vli fun fi hfi => Yes.chk (by omega) (Yes.vli fun ot hot => ?_))
  refine Yes.bind (P := fun o => 1 ≤ o ∧ o ≤ 37 - wd) (Yes.ite (fun _ => Yes.vl (Yes.ok (by omega))) fun _ => Yes.ok (by omega)) fun o ho => ?_
  unfold m_law_fields_j1
  refine Yes.ok ⟨?_, ?_, ?_⟩
  · unfold fieldOk; dsimp only; omega
  · unfold fieldOk; dsimp only; omega
  · dsimp only; omega

theorem j1_yes {ff : (Int × Int) × (Int × Int)} (hf : FOK ff) (r37 : Int) (w : Str) {ones oth : List Str} (hd : deckOk ones) (hd2 : deckOk oth) (hl : ones.length ≤ 63) (hl2 : oth.length ≤ 63) : m_law_j1 r37 ff w ones oth = .ok true := by
  obtain ⟨h1, h2, hw⟩ := hf
  unfold m_law_j1
  refine Yes.eq (Yes.bindE (lout_yes hd2 h2 (by omega)) (Yes.opt (fun ho => ?_) fun k ho => ?_))
  · refine Yes.vl (Yes.bindE (nxE (by rw [lmade_is]; exact mm_new hw h2 hd2 (by omega) ho)) (Yes.bindE (a := false) ?_ (Yes.iteF (by decide) (Yes.vl ?_))))
    · rw [decide_eq_true (rfl : oth = oth)]
      show R.bind (m_law_no_tray ff w) _ = _
      rw [notray_yes]; rfl
    · refine Yes.forLg (fun p (t : Mater) => t = MM ff.1 (partD ff.2 oth) w (p.map (·.2))) (fun v => v = true) rfl (fun p x r e t ht => ?_) (fun t ht => ?_) fun v hv => Yes.ok hv
      · subst ht
        obtain ⟨e1, e2⟩ := enum_mid e
        have hx := hd x.2 (by rw [e1]; simp)
        obtain ⟨b1, b2⟩ := before_is e1 x.1 (by rw [e2, List.length_map])
        have hp := len_mid e
        rw [enumL_len] at hp
        have hpd : deckOk (p.map (·.2)) := fun z hz => hd z (by rw [e1]; exact List.mem_append_left _ hz)
        have hpl : (p.map (·.2)).length = p.length := List.length_map _
        have tk : cutL ones none (some x.1) = p.map (·.2) := by
          rw [cutL_to (by omega), e2, Int.toNat_natCast]
          have := congrArg (List.take (p.map (·.2)).length) e1
          rw [List.take_left, hpl] at this
          exact this
        have tk1 : cutL ones none (some (x.1 + 1)) = p.map (·.2) ++ [x.2] := by
          rw [cutL_to (by omega), e2]
          have : ((p.length : Int) + 1).toNat = (p.map (·.2) ++ [x.2]).length := by rw [List.length_append, List.length_singleton, hpl]; omega
          rw [this]
          have := congrArg (List.take (p.map (·.2) ++ [x.2]).length) e1
          rw [show p.map (·.2) ++ x.2 :: r.map (·.2) = (p.map (·.2) ++ [x.2]) ++ r.map (·.2) by simp, List.take_left] at this
          exact this
        unfold m_law_b0
        refine Yes.chk b1 (Yes.vl ?_)
        rw [b2]
        generalize hy : lastO none (p.map (·.2)) = o
        have hby : ∀ y, o.getD x.2 = y → cardOk y := fun y h => by
          subst h
          cases o with
          | none => exact hx
          | some y => exact last_ok hpd hy
        refine Yes.bindE (lptx_yes (by have := hx.1; omega)) (Yes.bindE (lptx_yes (by have := (hby _ rfl).1; omega)) (Yes.ite (fun c => ?_) fun c => ?_))
        · have c : codes (partT x.2 ff.1) < codes (partT (o.getD x.2) ff.1) := of_decide_eq_true c
          rw [← key_part2 hx.1 h1, ← key_part2 (hby _ rfl).1 h1] at c
          cases o with
          | none => exact absurd c (list_irr _)
          | some y =>
            rw [tk]
            exact Yes.bind (refuses_yes h1 hpd hx (by omega) hy c) fun v hv => Yes.ok hv
        · have c : ¬ codes (partT x.2 ff.1) < codes (partT (o.getD x.2) ff.1) := fun h => c (decide_eq_true h)
          rw [← key_part2 hx.1 h1, ← key_part2 (hby _ rfl).1 h1] at c
          have fo : m_Mater_feed (MM ff.1 (partD ff.2 oth) w (p.map (·.2))) x.2 = .ok (MM ff.1 (partD ff.2 oth) w (p.map (·.2) ++ [x.2])) := mfeed_ok h1 hx (by omega) (fun y h => last_ok hpd h) (fun y h => by rw [hy] at h; subst h; exact c)
          refine Yes.bindE (nxE fo) (Yes.iteF (by decide) (Yes.bindE (mback (by rw [List.length_append, List.length_singleton, hpl]; omega)) ?_))
          rw [tk1]
          refine Yes.bindE (deckis_yes _) (Yes.iteF (by decide) (Yes.ok ?_))
          show MM _ _ _ _ = MM _ _ _ _
          rw [List.map_append]; rfl
      · rw [enumL_snd] at ht
        subst ht
        exact Yes.bindE (mback (by omega)) (Yes.bindE (deckis_yes _) (Yes.iteF (by decide) (Yes.bindE (ended_yes hd hd2 (by omega) (by omega)) (Yes.ok rfl))))
  · exact Yes.bindE (nomachine_yes _ hw h2 hd2 (by omega) ho) (Yes.ok rfl)
theorem law_true (s : Scr) (hl : s.ns.length ≤ 63) (hb : ∀ z ∈ s.ns, Builtin.Int.intBits z ≤ 1048576) : m_law s = .ok true := by
  unfold m_law
  have hc : (cutL s.ns (some (3 : Int)) (some (63 : Int))).length ≤ 63 := Nat.le_trans (cutL_len_le _ _ _) hl
  refine Yes.eq (Yes.vl (Yes.bindE (cell_is s (by decide)) (Yes.chk (by omega) (Yes.vl (Yes.bindE (cell_is s (by decide)) (Yes.bind (ldeckok_yes (by omega)) fun deck hd => Yes.vl (Yes.vl (Yes.bindE (cell_is s (by decide)) (Yes.bind (lfields_ok _) fun ff hf => ?_))))))))) 
  generalize (if (2 : Int) < (s.ns.length : Int) then getI s.ns 2 else 0) = r37
  have a0 := Int.emod_nonneg r37 (show (2 : Int) ≠ 0 by decide)
  have a1 := Int.emod_lt_of_pos r37 (show (0 : Int) < 2 by decide)
  refine Yes.chk (by unfold inR; exact ⟨by show -(2 : Int) ≤ _; omega, by show _ < (2 : Int); omega⟩) (Yes.vl ?_)
  have hk : ∀ {lo hi : Option Int}, deckOk (cutL deck lo hi) ∧ (cutL deck lo hi).length ≤ 63 := fun {lo hi} => ⟨fun z hz => hd.2 z (cutL_mem hz), Nat.le_trans (cutL_len_le _ _ _) (by have := hd.1; omega)⟩
  generalize (if (1 : Int) < (s.ns.length : Int) then getI s.ns 1 else 0) % (((cutL s.ns (some (3 : Int)) (some (63 : Int))).length : Int) + 1) = c
  have p1 := hk (lo := none) (hi := some c)
  have p2 := hk (lo := some c) (hi := none)
  generalize cutL deck none (some c) = d1 at p1
  generalize cutL deck (some c) none = d2 at p2
  have so : ∀ (d : List Str) (f : Int × Int), deckOk d ∧ d.length ≤ 63 → Yes (m_law_ordered d f) fun d => d.length ≤ 63 ∧ deckOk d := fun d f h => by
    obtain ⟨r, hr, h2⟩ := lord_yes (f := f) h.1 (by omega)
    exact ⟨r, hr, by have := h2.1; omega, h2.2⟩
  refine Yes.bind (P := fun d => d.length ≤ 63 ∧ deckOk d) (Yes.ite (fun _ => Yes.bind (so _ _ p1) fun d h => Yes.ok h) fun _ => Yes.ok ⟨p1.2, p1.1⟩) fun ones ho => ?_
  unfold m_law_j0
  refine Yes.bind (P := fun d => d.length ≤ 63 ∧ deckOk d) (Yes.ite (fun _ => Yes.bind (so _ _ p2) fun d h => Yes.ok h) fun _ => Yes.ok ⟨p2.2, p2.1⟩) fun oth ht => ?_
  exact Yes.of (j1_yes hf _ _ ho.2 ht.2 ho.1 ht.1) rfl

theorem all_mk {l : PySem.W.OpenLaw} {w : World} {K : Fr} {h : Heap} {mg : Str → Option Value} {fa : Addr} (X : K.In h) (G : h.Ns mainGlobals mg) (hfa : mg "law" = some (.ref fa)) (c : SaysB factsA fndsA K)
    : ∃ fd : FuncData, (∀ (s : Shared) (v : Value), BindsTo s fd ⟨[v], []⟩ [("_law_script", v)]) ∧ ∀ base : Heap, K.In base → base.Ns mainGlobals mg → FnOk l.prog w K mg base CX0 11 fa fd ["_law_script"] (sp_law K) := by
  have a1 : PySem.W.findIn K (.ref (He.ga K "NoOrder")) "__init__" = some (some (.ref (He.fAd K ("NoOrder", some "__init__")))) := of_decide_eq_true (c.fact 0 rfl)
  have i1 : PySem.W.typeIn K (.ref (He.fAd K ("NoOrder", some "__init__"))) = some (.type "function") := of_decide_eq_true (c.fact 1 rfl)
  have a2 : PySem.W.nsIn K mainGlobals "rank_of" = some (some (.ref (He.fAd K ("rank_of", none)))) := of_decide_eq_true (c.fact 2 rfl)
  have a3 : PySem.W.nsIn K mainGlobals "columns_of" = some (some (.ref (He.fAd K ("columns_of", none)))) := of_decide_eq_true (c.fact 3 rfl)
  have a4 : PySem.W.nsIn K mainGlobals "part_of" = some (some (.ref (He.fAd K ("part_of", none)))) := of_decide_eq_true (c.fact 4 rfl)
  have a5 : PySem.W.nsIn K mainGlobals "comes_ahead" = some (some (.ref (He.fAd K ("comes_ahead", none)))) := of_decide_eq_true (c.fact 5 rfl)
  have a6 : PySem.W.nsIn K mainGlobals "out_at" = some (some (.ref (He.fAd K ("out_at", none)))) := of_decide_eq_true (c.fact 6 rfl)
  have a7 : PySem.W.nsIn K mainGlobals "gather" = some (some (.ref (He.fAd K ("gather", none)))) := of_decide_eq_true (c.fact 7 rfl)
  have a8 : PySem.W.nsIn K mainGlobals "put_back" = some (some (.ref (He.fAd K ("put_back", none)))) := of_decide_eq_true (c.fact 8 rfl)
  have a9 : PySem.W.nsIn K mainGlobals "mater_of" = some (some (.ref (He.fAd K ("mater_of", none)))) := of_decide_eq_true (c.fact 9 rfl)
  have a10 : PySem.W.nsIn K mainGlobals "machine_of" = some (some (.ref (He.fAd K ("machine_of", none)))) := of_decide_eq_true (c.fact 10 rfl)
  have a11 : PySem.W.nsIn K mainGlobals "_law_cell_at" = some (some (.ref (He.fAd K ("_law_cell_at", none)))) := of_decide_eq_true (c.fact 11 rfl)
  have a12 : PySem.W.nsIn K mainGlobals "_law_known" = some (some (.ref (He.fAd K ("_law_known", none)))) := of_decide_eq_true (c.fact 12 rfl)
  have a13 : PySem.W.nsIn K mainGlobals "_law_card" = some (some (.ref (He.fAd K ("_law_card", none)))) := of_decide_eq_true (c.fact 13 rfl)
  have a14 : PySem.W.nsIn K mainGlobals "_law_deck" = some (some (.ref (He.fAd K ("_law_deck", none)))) := of_decide_eq_true (c.fact 14 rfl)
  have a15 : PySem.W.nsIn K mainGlobals "_law_part" = some (some (.ref (He.fAd K ("_law_part", none)))) := of_decide_eq_true (c.fact 15 rfl)
  have a16 : PySem.W.nsIn K mainGlobals "_law_deck_is" = some (some (.ref (He.fAd K ("_law_deck_is", none)))) := of_decide_eq_true (c.fact 16 rfl)
  have a17 : PySem.W.nsIn K mainGlobals "_law_ordered" = some (some (.ref (He.fAd K ("_law_ordered", none)))) := of_decide_eq_true (c.fact 17 rfl)
  have a18 : PySem.W.nsIn K mainGlobals "_law_is_other" = some (some (.ref (He.fAd K ("_law_is_other", none)))) := of_decide_eq_true (c.fact 18 rfl)
  have a19 : PySem.W.nsIn K mainGlobals "_law_fields" = some (some (.ref (He.fAd K ("_law_fields", none)))) := of_decide_eq_true (c.fact 19 rfl)
  have a20 : PySem.W.nsIn K mainGlobals "_law_out" = some (some (.ref (He.fAd K ("_law_out", none)))) := of_decide_eq_true (c.fact 20 rfl)
  have a21 : PySem.W.nsIn K mainGlobals "_law_made" = some (some (.ref (He.fAd K ("_law_made", none)))) := of_decide_eq_true (c.fact 21 rfl)
  have a22 : PySem.W.nsIn K mainGlobals "_law_is_out" = some (some (.ref (He.fAd K ("_law_is_out", none)))) := of_decide_eq_true (c.fact 22 rfl)
  have a23 : PySem.W.nsIn K mainGlobals "_law_no_machine" = some (some (.ref (He.fAd K ("_law_no_machine", none)))) := of_decide_eq_true (c.fact 23 rfl)
  have a24 : PySem.W.nsIn K mainGlobals "_law_refuses" = some (some (.ref (He.fAd K ("_law_refuses", none)))) := of_decide_eq_true (c.fact 24 rfl)
  have a25 : PySem.W.nsIn K mainGlobals "_law_no_tray" = some (some (.ref (He.fAd K ("_law_no_tray", none)))) := of_decide_eq_true (c.fact 25 rfl)
  have a26 : PySem.W.nsIn K mainGlobals "_law_ended" = some (some (.ref (He.fAd K ("_law_ended", none)))) := of_decide_eq_true (c.fact 26 rfl)
  have a27 : PySem.W.nsIn K mainGlobals "law" = some (some (.ref (He.fAd K ("law", none)))) := of_decide_eq_true (c.fact 27 rfl)
  have a28 : PySem.W.findIn K (.ref (He.ga K "Mater")) "__init__" = some (some (.ref (He.fAd K ("Mater", some "__init__")))) := of_decide_eq_true (c.fact 28 rfl)
  have i28 : PySem.W.isFn K (.ref (He.fAd K ("Mater", some "__init__"))) = true := of_decide_eq_true (c.fact 29 rfl)
  have a29 : PySem.W.findIn K (.ref (He.ga K "Mater")) "stays" = some (some (.ref (He.fAd K ("Mater", some "stays")))) := of_decide_eq_true (c.fact 30 rfl)
  have i29 : PySem.W.isFn K (.ref (He.fAd K ("Mater", some "stays"))) = true := of_decide_eq_true (c.fact 31 rfl)
  have a30 : PySem.W.findIn K (.ref (He.ga K "Mater")) "pocket_for" = some (some (.ref (He.fAd K ("Mater", some "pocket_for")))) := of_decide_eq_true (c.fact 32 rfl)
  have i30 : PySem.W.isFn K (.ref (He.fAd K ("Mater", some "pocket_for"))) = true := of_decide_eq_true (c.fact 33 rfl)
  have a31 : PySem.W.findIn K (.ref (He.ga K "Mater")) "laid" = some (some (.ref (He.fAd K ("Mater", some "laid")))) := of_decide_eq_true (c.fact 34 rfl)
  have i31 : PySem.W.isFn K (.ref (He.fAd K ("Mater", some "laid"))) = true := of_decide_eq_true (c.fact 35 rfl)
  have a32 : PySem.W.findIn K (.ref (He.ga K "Mater")) "feed" = some (some (.ref (He.fAd K ("Mater", some "feed")))) := of_decide_eq_true (c.fact 36 rfl)
  have i32 : PySem.W.isFn K (.ref (He.fAd K ("Mater", some "feed"))) = true := of_decide_eq_true (c.fact 37 rfl)
  have a33 : PySem.W.findIn K (.ref (He.ga K "Mater")) "finish" = some (some (.ref (He.fAd K ("Mater", some "finish")))) := of_decide_eq_true (c.fact 38 rfl)
  have i33 : PySem.W.isFn K (.ref (He.fAd K ("Mater", some "finish"))) = true := of_decide_eq_true (c.fact 39 rfl)
  have a34 : PySem.W.findIn K (.ref (He.ga K "Mater")) "back" = some (some (.ref (He.fAd K ("Mater", some "back")))) := of_decide_eq_true (c.fact 40 rfl)
  have i34 : PySem.W.isFn K (.ref (He.fAd K ("Mater", some "back"))) = true := of_decide_eq_true (c.fact 41 rfl)
  have a35 : PySem.W.findIn K (.ref (He.ga K "Mater")) "stayed" = some (some (.ref (He.fAd K ("Mater", some "stayed")))) := of_decide_eq_true (c.fact 42 rfl)
  have i35 : PySem.W.isFn K (.ref (He.fAd K ("Mater", some "stayed"))) = true := of_decide_eq_true (c.fact 43 rfl)
  have a36 : PySem.W.findIn K (.ref (He.ga K "Mater")) "laid_aside" = some (some (.ref (He.fAd K ("Mater", some "laid_aside")))) := of_decide_eq_true (c.fact 44 rfl)
  have i36 : PySem.W.isFn K (.ref (He.fAd K ("Mater", some "laid_aside"))) = true := of_decide_eq_true (c.fact 45 rfl)
  have a37 : PySem.W.findIn K (.ref (He.ga K "Mater")) "lines_out" = some (some (.ref (He.fAd K ("Mater", some "lines_out")))) := of_decide_eq_true (c.fact 46 rfl)
  have i37 : PySem.W.isFn K (.ref (He.fAd K ("Mater", some "lines_out"))) = true := of_decide_eq_true (c.fact 47 rfl)
  have a38 := fcB_ok (c.fact 48 rfl)
  have a39 := fcB_ok (c.fact 49 rfl)
  have z_ValueError : PySem.W.nsIn K mainGlobals "ValueError" = some none := of_decide_eq_true (c.fact 50 rfl)
  have z_bool : PySem.W.nsIn K mainGlobals "bool" = some none := of_decide_eq_true (c.fact 51 rfl)
  have z_enumerate : PySem.W.nsIn K mainGlobals "enumerate" = some none := of_decide_eq_true (c.fact 52 rfl)
  have z_int : PySem.W.nsIn K mainGlobals "int" = some none := of_decide_eq_true (c.fact 53 rfl)
  have z_isinstance : PySem.W.nsIn K mainGlobals "isinstance" = some none := of_decide_eq_true (c.fact 54 rfl)
  have z_len : PySem.W.nsIn K mainGlobals "len" = some none := of_decide_eq_true (c.fact 55 rfl)
  have z_list : PySem.W.nsIn K mainGlobals "list" = some none := of_decide_eq_true (c.fact 56 rfl)
  have z_max : PySem.W.nsIn K mainGlobals "max" = some none := of_decide_eq_true (c.fact 57 rfl)
  have z_range : PySem.W.nsIn K mainGlobals "range" = some none := of_decide_eq_true (c.fact 58 rfl)
  have z_str : PySem.W.nsIn K mainGlobals "str" = some none := of_decide_eq_true (c.fact 59 rfl)
  have z_zip : PySem.W.nsIn K mainGlobals "zip" = some none := of_decide_eq_true (c.fact 60 rfl)
  have u_SIGNS := He.str_ok X G (x := "SIGNS") (z := (" 0123456789ABCDEFGHIJKLMNOPQRSTUVWXYZ" : Str)) (c.fact 61 rfl)
  have g_Meet : PySem.W.nsIn K mainGlobals "Meet" = some (some (.ref (He.ga K "Meet"))) := of_decide_eq_true (c.fact 62 rfl)
  have g_NoAsking : PySem.W.nsIn K mainGlobals "NoAsking" = some (some (.ref (He.ga K "NoAsking"))) := of_decide_eq_true (c.fact 63 rfl)
  have g_NoBoard : PySem.W.nsIn K mainGlobals "NoBoard" = some (some (.ref (He.ga K "NoBoard"))) := of_decide_eq_true (c.fact 64 rfl)
  have g_NoCard : PySem.W.nsIn K mainGlobals "NoCard" = some (some (.ref (He.ga K "NoCard"))) := of_decide_eq_true (c.fact 65 rfl)
  have g_NoField : PySem.W.nsIn K mainGlobals "NoField" = some (some (.ref (He.ga K "NoField"))) := of_decide_eq_true (c.fact 66 rfl)
  have g_NoOrder : PySem.W.nsIn K mainGlobals "NoOrder" = some (some (.ref (He.ga K "NoOrder"))) := of_decide_eq_true (c.fact 67 rfl)
  have g_NoPlan : PySem.W.nsIn K mainGlobals "NoPlan" = some (some (.ref (He.ga K "NoPlan"))) := of_decide_eq_true (c.fact 68 rfl)
  have g_NoRow : PySem.W.nsIn K mainGlobals "NoRow" = some (some (.ref (He.ga K "NoRow"))) := of_decide_eq_true (c.fact 69 rfl)
  have g_NoTray : PySem.W.nsIn K mainGlobals "NoTray" = some (some (.ref (He.ga K "NoTray"))) := of_decide_eq_true (c.fact 70 rfl)
  have g_ShopError : PySem.W.nsIn K mainGlobals "ShopError" = some (some (.ref (He.ga K "ShopError"))) := of_decide_eq_true (c.fact 71 rfl)
  have crr_ShopError : PySem.W.readsIn K (He.ga K "ShopError") (.type "type") = true := of_decide_eq_true (c.fact 72 rfl)
  have crg_ShopError : PySem.W.specialIn K (.ref (He.ga K "ShopError")) "__getattribute__" = some (some (.builtin "type.__getattribute__")) := of_decide_eq_true (c.fact 73 rfl)
  have su_ShopError : PySem.W.subIn K (.ref (He.ga K "ShopError")) (.type "BaseException") = some true := of_decide_eq_true (c.fact 74 rfl)
  have ty_ShopError : PySem.W.typeIn K (.ref (He.ga K "ShopError")) = some (.type "type") := of_decide_eq_true (c.fact 75 rfl)
  have hd_ShopError : PySem.W.hasDictIn K (He.ga K "ShopError") = true := of_decide_eq_true (c.fact 76 rfl)
  have sb_NoOrder_ShopError : PySem.W.subIn K (.ref (He.ga K "NoOrder")) (.ref (He.ga K "ShopError")) = some true := of_decide_eq_true (c.fact 77 rfl)
  have su_NoTray : PySem.W.subIn K (.ref (He.ga K "NoTray")) (.type "BaseException") = some true := of_decide_eq_true (c.fact 78 rfl)
  have ty_NoTray : PySem.W.typeIn K (.ref (He.ga K "NoTray")) = some (.type "type") := of_decide_eq_true (c.fact 79 rfl)
  have hd_NoTray : PySem.W.hasDictIn K (He.ga K "NoTray") = true := of_decide_eq_true (c.fact 80 rfl)
  have sb_NoTray_NoTray : PySem.W.subIn K (.ref (He.ga K "NoTray")) (.ref (He.ga K "NoTray")) = some true := of_decide_eq_true (c.fact 81 rfl)
  have ex_NoField : PySem.W.excIn K (He.ga K "NoField") [.type "ValueError", .type "Exception", .type "BaseException", .type "object"] "ValueError.__new__" = true := of_decide_eq_true (c.fact 82 rfl)
  have ex_NoTray : PySem.W.excIn K (He.ga K "NoTray") [.type "ValueError", .type "Exception", .type "BaseException", .type "object"] "ValueError.__new__" = true := of_decide_eq_true (c.fact 83 rfl)
  have ty_Meet : PySem.W.typeIn K (.ref (He.ga K "Meet")) = some (.type "type") := of_decide_eq_true (c.fact 84 rfl)
  have hd_Meet : PySem.W.hasDictIn K (He.ga K "Meet") = true := of_decide_eq_true (c.fact 85 rfl)
  have sb_Meet_Meet : PySem.W.subIn K (.ref (He.ga K "Meet")) (.ref (He.ga K "Meet")) = some true := of_decide_eq_true (c.fact 86 rfl)
  have sb_NoField_Meet : PySem.W.subIn K (.ref (He.ga K "NoField")) (.ref (He.ga K "Meet")) = some false := of_decide_eq_true (c.fact 87 rfl)
  have ty_NoAsking : PySem.W.typeIn K (.ref (He.ga K "NoAsking")) = some (.type "type") := of_decide_eq_true (c.fact 88 rfl)
  have hd_NoAsking : PySem.W.hasDictIn K (He.ga K "NoAsking") = true := of_decide_eq_true (c.fact 89 rfl)
  have sb_NoAsking_NoAsking : PySem.W.subIn K (.ref (He.ga K "NoAsking")) (.ref (He.ga K "NoAsking")) = some true := of_decide_eq_true (c.fact 90 rfl)
  have sb_NoField_NoAsking : PySem.W.subIn K (.ref (He.ga K "NoField")) (.ref (He.ga K "NoAsking")) = some false := of_decide_eq_true (c.fact 91 rfl)
  have ty_NoBoard : PySem.W.typeIn K (.ref (He.ga K "NoBoard")) = some (.type "type") := of_decide_eq_true (c.fact 92 rfl)
  have hd_NoBoard : PySem.W.hasDictIn K (He.ga K "NoBoard") = true := of_decide_eq_true (c.fact 93 rfl)
  have sb_NoBoard_NoBoard : PySem.W.subIn K (.ref (He.ga K "NoBoard")) (.ref (He.ga K "NoBoard")) = some true := of_decide_eq_true (c.fact 94 rfl)
  have sb_NoField_NoBoard : PySem.W.subIn K (.ref (He.ga K "NoField")) (.ref (He.ga K "NoBoard")) = some false := of_decide_eq_true (c.fact 95 rfl)
  have ty_NoCard : PySem.W.typeIn K (.ref (He.ga K "NoCard")) = some (.type "type") := of_decide_eq_true (c.fact 96 rfl)
  have hd_NoCard : PySem.W.hasDictIn K (He.ga K "NoCard") = true := of_decide_eq_true (c.fact 97 rfl)
  have sb_NoCard_NoCard : PySem.W.subIn K (.ref (He.ga K "NoCard")) (.ref (He.ga K "NoCard")) = some true := of_decide_eq_true (c.fact 98 rfl)
  have sb_NoField_NoCard : PySem.W.subIn K (.ref (He.ga K "NoField")) (.ref (He.ga K "NoCard")) = some false := of_decide_eq_true (c.fact 99 rfl)
  have ty_NoField : PySem.W.typeIn K (.ref (He.ga K "NoField")) = some (.type "type") := of_decide_eq_true (c.fact 100 rfl)
  have hd_NoField : PySem.W.hasDictIn K (He.ga K "NoField") = true := of_decide_eq_true (c.fact 101 rfl)
  have sb_NoField_NoField : PySem.W.subIn K (.ref (He.ga K "NoField")) (.ref (He.ga K "NoField")) = some true := of_decide_eq_true (c.fact 102 rfl)
  have ty_NoOrder : PySem.W.typeIn K (.ref (He.ga K "NoOrder")) = some (.type "type") := of_decide_eq_true (c.fact 103 rfl)
  have hd_NoOrder : PySem.W.hasDictIn K (He.ga K "NoOrder") = true := of_decide_eq_true (c.fact 104 rfl)
  have sb_NoOrder_NoOrder : PySem.W.subIn K (.ref (He.ga K "NoOrder")) (.ref (He.ga K "NoOrder")) = some true := of_decide_eq_true (c.fact 105 rfl)
  have sb_NoField_NoOrder : PySem.W.subIn K (.ref (He.ga K "NoField")) (.ref (He.ga K "NoOrder")) = some false := of_decide_eq_true (c.fact 106 rfl)
  have sb_NoOrder_Meet : PySem.W.subIn K (.ref (He.ga K "NoOrder")) (.ref (He.ga K "Meet")) = some false := of_decide_eq_true (c.fact 107 rfl)
  have sb_NoOrder_NoAsking : PySem.W.subIn K (.ref (He.ga K "NoOrder")) (.ref (He.ga K "NoAsking")) = some false := of_decide_eq_true (c.fact 108 rfl)
  have sb_NoOrder_NoBoard : PySem.W.subIn K (.ref (He.ga K "NoOrder")) (.ref (He.ga K "NoBoard")) = some false := of_decide_eq_true (c.fact 109 rfl)
  have sb_NoOrder_NoCard : PySem.W.subIn K (.ref (He.ga K "NoOrder")) (.ref (He.ga K "NoCard")) = some false := of_decide_eq_true (c.fact 110 rfl)
  have sb_NoOrder_NoField : PySem.W.subIn K (.ref (He.ga K "NoOrder")) (.ref (He.ga K "NoField")) = some false := of_decide_eq_true (c.fact 111 rfl)
  have ty_NoPlan : PySem.W.typeIn K (.ref (He.ga K "NoPlan")) = some (.type "type") := of_decide_eq_true (c.fact 112 rfl)
  have hd_NoPlan : PySem.W.hasDictIn K (He.ga K "NoPlan") = true := of_decide_eq_true (c.fact 113 rfl)
  have sb_NoPlan_NoPlan : PySem.W.subIn K (.ref (He.ga K "NoPlan")) (.ref (He.ga K "NoPlan")) = some true := of_decide_eq_true (c.fact 114 rfl)
  have sb_NoOrder_NoPlan : PySem.W.subIn K (.ref (He.ga K "NoOrder")) (.ref (He.ga K "NoPlan")) = some false := of_decide_eq_true (c.fact 115 rfl)
  have ty_NoRow : PySem.W.typeIn K (.ref (He.ga K "NoRow")) = some (.type "type") := of_decide_eq_true (c.fact 116 rfl)
  have hd_NoRow : PySem.W.hasDictIn K (He.ga K "NoRow") = true := of_decide_eq_true (c.fact 117 rfl)
  have sb_NoRow_NoRow : PySem.W.subIn K (.ref (He.ga K "NoRow")) (.ref (He.ga K "NoRow")) = some true := of_decide_eq_true (c.fact 118 rfl)
  have sb_NoOrder_NoRow : PySem.W.subIn K (.ref (He.ga K "NoOrder")) (.ref (He.ga K "NoRow")) = some false := of_decide_eq_true (c.fact 119 rfl)
  have sb_NoOrder_NoTray : PySem.W.subIn K (.ref (He.ga K "NoOrder")) (.ref (He.ga K "NoTray")) = some false := of_decide_eq_true (c.fact 120 rfl)
  have sb_NoOrder_ValueError : PySem.W.subIn K (.ref (He.ga K "NoOrder")) (.type "ValueError") = some true := of_decide_eq_true (c.fact 121 rfl)
  have sb_NoTray_Meet : PySem.W.subIn K (.ref (He.ga K "NoTray")) (.ref (He.ga K "Meet")) = some false := of_decide_eq_true (c.fact 122 rfl)
  have sb_NoTray_NoAsking : PySem.W.subIn K (.ref (He.ga K "NoTray")) (.ref (He.ga K "NoAsking")) = some false := of_decide_eq_true (c.fact 123 rfl)
  have sb_NoTray_NoBoard : PySem.W.subIn K (.ref (He.ga K "NoTray")) (.ref (He.ga K "NoBoard")) = some false := of_decide_eq_true (c.fact 124 rfl)
  have sb_NoTray_NoCard : PySem.W.subIn K (.ref (He.ga K "NoTray")) (.ref (He.ga K "NoCard")) = some false := of_decide_eq_true (c.fact 125 rfl)
  have sb_NoTray_NoField : PySem.W.subIn K (.ref (He.ga K "NoTray")) (.ref (He.ga K "NoField")) = some false := of_decide_eq_true (c.fact 126 rfl)
  have sb_NoTray_NoOrder : PySem.W.subIn K (.ref (He.ga K "NoTray")) (.ref (He.ga K "NoOrder")) = some false := of_decide_eq_true (c.fact 127 rfl)
  have sb_NoTray_NoPlan : PySem.W.subIn K (.ref (He.ga K "NoTray")) (.ref (He.ga K "NoPlan")) = some false := of_decide_eq_true (c.fact 128 rfl)
  have sb_NoTray_NoRow : PySem.W.subIn K (.ref (He.ga K "NoTray")) (.ref (He.ga K "NoRow")) = some false := of_decide_eq_true (c.fact 129 rfl)
  have kx_NoField : PySem.W.keepIn K (.ref (He.ga K "NoField")) = true := of_decide_eq_true (c.fact 130 rfl)
  have kx_NoTray : PySem.W.keepIn K (.ref (He.ga K "NoTray")) = true := of_decide_eq_true (c.fact 131 rfl)
  obtain ⟨oo_NoOrder, oel_NoOrder, oeb_NoOrder⟩ := oexK_ok (c.fact 132 rfl)
  have oes_NoOrder : PySem.W.findIn K (.ref (He.ga K "NoOrder")) "__setattr__" = some (some (.builtin "object.__setattr__")) := of_decide_eq_true (c.fact 133 rfl)
  have su_NoOrder : PySem.W.subIn K (.ref (He.ga K "NoOrder")) (.type "BaseException") = some true := of_decide_eq_true (c.fact 134 rfl)
  have kx_NoOrder : PySem.W.keepIn K (.ref (He.ga K "NoOrder")) = true := of_decide_eq_true (c.fact 135 rfl)
  have su_NoField : PySem.W.subIn K (.ref (He.ga K "NoField")) (.type "BaseException") = some true := of_decide_eq_true (c.fact 136 rfl)
  have vin_ShopError := fcB_ok (c.fact 137 rfl)
  have xchg_NoField : PySem.W.findIn K (.ref (He.ga K "NoField")) "__getattribute__" = some (some (.builtin "BaseException.__getattribute__")) := of_decide_eq_true (c.fact 138 rfl)
  have xchk_NoField : PySem.W.findIn K (.ref (He.ga K "NoField")) "__getattr__" = some none := of_decide_eq_true (c.fact 139 rfl)
  have xchs_NoField : PySem.W.subIn K (.ref (He.ga K "NoField")) (.type "BaseException") = some true := of_decide_eq_true (c.fact 140 rfl)
  have xchd_NoField : PySem.W.hasDictIn K (He.ga K "NoField") = true := of_decide_eq_true (c.fact 141 rfl)
  have xcha_NoField : PySem.W.findIn K (.ref (He.ga K "NoField")) "__class__" = some (some (.builtin "object.__class__")) := of_decide_eq_true (c.fact 142 rfl)
  have xchn_NoField : PySem.W.specialIn K (.builtin "object.__class__") "__get__" = some (some (.builtin "getset_descriptor.__get__")) := of_decide_eq_true (c.fact 143 rfl)
  have xcht_NoField : PySem.W.takesIn K (.builtin "object.__class__") = some true := of_decide_eq_true (c.fact 144 rfl)
  have xchm_NoField : PySem.W.mroIn K (He.ga K "NoField") (.type "object") = some true := of_decide_eq_true (c.fact 145 rfl)
  have xchg_NoOrder : PySem.W.findIn K (.ref (He.ga K "NoOrder")) "__getattribute__" = some (some (.builtin "BaseException.__getattribute__")) := of_decide_eq_true (c.fact 146 rfl)
  have xchk_NoOrder : PySem.W.findIn K (.ref (He.ga K "NoOrder")) "__getattr__" = some none := of_decide_eq_true (c.fact 147 rfl)
  have xchs_NoOrder : PySem.W.subIn K (.ref (He.ga K "NoOrder")) (.type "BaseException") = some true := of_decide_eq_true (c.fact 148 rfl)
  have xchd_NoOrder : PySem.W.hasDictIn K (He.ga K "NoOrder") = true := of_decide_eq_true (c.fact 149 rfl)
  have xcha_NoOrder : PySem.W.findIn K (.ref (He.ga K "NoOrder")) "__class__" = some (some (.builtin "object.__class__")) := of_decide_eq_true (c.fact 150 rfl)
  have xchn_NoOrder : PySem.W.specialIn K (.builtin "object.__class__") "__get__" = some (some (.builtin "getset_descriptor.__get__")) := of_decide_eq_true (c.fact 151 rfl)
  have xcht_NoOrder : PySem.W.takesIn K (.builtin "object.__class__") = some true := of_decide_eq_true (c.fact 152 rfl)
  have xchm_NoOrder : PySem.W.mroIn K (He.ga K "NoOrder") (.type "object") = some true := of_decide_eq_true (c.fact 153 rfl)
  have xchg_NoTray : PySem.W.findIn K (.ref (He.ga K "NoTray")) "__getattribute__" = some (some (.builtin "BaseException.__getattribute__")) := of_decide_eq_true (c.fact 154 rfl)
  have xchk_NoTray : PySem.W.findIn K (.ref (He.ga K "NoTray")) "__getattr__" = some none := of_decide_eq_true (c.fact 155 rfl)
  have xchs_NoTray : PySem.W.subIn K (.ref (He.ga K "NoTray")) (.type "BaseException") = some true := of_decide_eq_true (c.fact 156 rfl)
  have xchd_NoTray : PySem.W.hasDictIn K (He.ga K "NoTray") = true := of_decide_eq_true (c.fact 157 rfl)
  have xcha_NoTray : PySem.W.findIn K (.ref (He.ga K "NoTray")) "__class__" = some (some (.builtin "object.__class__")) := of_decide_eq_true (c.fact 158 rfl)
  have xchn_NoTray : PySem.W.specialIn K (.builtin "object.__class__") "__get__" = some (some (.builtin "getset_descriptor.__get__")) := of_decide_eq_true (c.fact 159 rfl)
  have xcht_NoTray : PySem.W.takesIn K (.builtin "object.__class__") = some true := of_decide_eq_true (c.fact 160 rfl)
  have xchm_NoTray : PySem.W.mroIn K (He.ga K "NoTray") (.type "object") = some true := of_decide_eq_true (c.fact 161 rfl)
  have xn_NoOrder_deck : PySem.W.findIn K (.ref (He.ga K "NoOrder")) "deck" = some none := of_decide_eq_true (c.fact 162 rfl)
  have xn_NoOrder_place : PySem.W.findIn K (.ref (He.ga K "NoOrder")) "place" = some none := of_decide_eq_true (c.fact 163 rfl)
  have bC_Mater : PySem.W.nsIn K mainGlobals "Mater" = some (some (.ref (He.ga K "Mater"))) := of_decide_eq_true (c.fact 164 rfl)
  have pg_Mater : PySem.W.plainGet K (He.ga K "Mater") Str.empty = true := of_decide_eq_true (c.fact 165 rfl)
  have hd_Mater : PySem.W.hasDictIn K (He.ga K "Mater") = true := of_decide_eq_true (c.fact 166 rfl)
  have po_Mater : PySem.W.plainOver K (He.ga K "Mater") = true := of_decide_eq_true (c.fact 167 rfl)
  have sa_Mater : PySem.W.findIn K (.ref (He.ga K "Mater")) "__setattr__" = some (some (.builtin "object.__setattr__")) := of_decide_eq_true (c.fact 168 rfl)
  have mk_Mater : PySem.W.makesIn K (He.ga K "Mater") = true := of_decide_eq_true (c.fact 169 rfl)
  have kc_Mater : PySem.W.keepIn K (.ref (He.ga K "Mater")) = true := of_decide_eq_true (c.fact 170 rfl)
  have na_pockets_Mater : PySem.W.findIn K (.ref (He.ga K "Mater")) "pockets" = some none := of_decide_eq_true (c.fact 171 rfl)
  have na_log_Mater : PySem.W.findIn K (.ref (He.ga K "Mater")) "log" = some none := of_decide_eq_true (c.fact 172 rfl)
  have na_field_Mater : PySem.W.findIn K (.ref (He.ga K "Mater")) "field" = some none := of_decide_eq_true (c.fact 173 rfl)
  have na_fed_last_Mater : PySem.W.findIn K (.ref (He.ga K "Mater")) "fed_last" = some none := of_decide_eq_true (c.fact 174 rfl)
  have na_parts_Mater : PySem.W.findIn K (.ref (He.ga K "Mater")) "parts" = some none := of_decide_eq_true (c.fact 175 rfl)
  have na_word_Mater : PySem.W.findIn K (.ref (He.ga K "Mater")) "word" = some none := of_decide_eq_true (c.fact 176 rfl)
  have bC_Rower : PySem.W.nsIn K mainGlobals "Rower" = some (some (.ref (He.ga K "Rower"))) := of_decide_eq_true (c.fact 177 rfl)
  have rd_Rower : PySem.W.readsIn K (He.ga K "Rower") (.type "type") = true := of_decide_eq_true (c.fact 178 rfl)
  have ga_Rower : PySem.W.specialIn K (.ref (He.ga K "Rower")) "__getattribute__" = some (some (.builtin "type.__getattribute__")) := of_decide_eq_true (c.fact 179 rfl)
  have bC_Machine : PySem.W.nsIn K mainGlobals "Machine" = some (some (.ref (He.ga K "Machine"))) := of_decide_eq_true (c.fact 180 rfl)
  have rd_Machine : PySem.W.readsIn K (He.ga K "Machine") (.type "type") = true := of_decide_eq_true (c.fact 181 rfl)
  have ga_Machine : PySem.W.specialIn K (.ref (He.ga K "Machine")) "__getattribute__" = some (some (.builtin "type.__getattribute__")) := of_decide_eq_true (c.fact 182 rfl)
  have ia_Mater : PySem.W.findIn K (.ref (He.ga K "Mater")) "__class__" = some (some (.builtin "object.__class__")) := of_decide_eq_true (c.fact 183 rfl)
  have in_ : PySem.W.specialIn K (.builtin "object.__class__") "__get__" = some (some (.builtin "getset_descriptor.__get__")) := of_decide_eq_true (c.fact 184 rfl)
  have it_ : PySem.W.takesIn K (.builtin "object.__class__") = some true := of_decide_eq_true (c.fact 185 rfl)
  have im_Mater : PySem.W.mroIn K (He.ga K "Mater") (.type "object") = some true := of_decide_eq_true (c.fact 186 rfl)
  have ih_Machine : PySem.W.hasDictIn K (He.ga K "Machine") = true := of_decide_eq_true (c.fact 187 rfl)
  have iy_Machine : PySem.W.typeIn K (.ref (He.ga K "Machine")) = some (.type "type") := of_decide_eq_true (c.fact 188 rfl)
  have is_Machine : PySem.W.subIn K (.ref (He.ga K "Machine")) (.ref (He.ga K "Machine")) = some true := of_decide_eq_true (c.fact 189 rfl)
  have ib_Mater_Machine : PySem.W.subIn K (.ref (He.ga K "Mater")) (.ref (He.ga K "Machine")) = some true := of_decide_eq_true (c.fact 190 rfl)
  obtain ⟨fd1, F1⟩ : ∃ fd, Fun K "__init__" "NoOrder.__init__" (inClass (topS 5) 0) (He.fAd K ("NoOrder", some "__init__")) fd := (c.def_ 0 rfl).imp fun _ h => FunD.toFun h; have k1 := F1.kp
  obtain ⟨fd2, F2⟩ : ∃ fd, Fun K "rank_of" "rank_of" (topS 14) (He.fAd K ("rank_of", none)) fd := (c.def_ 1 rfl).imp fun _ h => FunD.toFun h; have k2 := F2.kp
  obtain ⟨fd3, F3⟩ : ∃ fd, Fun K "columns_of" "columns_of" (topS 20) (He.fAd K ("columns_of", none)) fd := (c.def_ 2 rfl).imp fun _ h => FunD.toFun h; have k3 := F3.kp
  obtain ⟨fd4, F4⟩ : ∃ fd, Fun K "part_of" "part_of" (topS 21) (He.fAd K ("part_of", none)) fd := (c.def_ 3 rfl).imp fun _ h => FunD.toFun h; have k4 := F4.kp
  obtain ⟨fd5, F5⟩ : ∃ fd, Fun K "comes_ahead" "comes_ahead" (topS 30) (He.fAd K ("comes_ahead", none)) fd := (c.def_ 4 rfl).imp fun _ h => FunD.toFun h; have k5 := F5.kp
  obtain ⟨fd6, F6⟩ : ∃ fd, Fun K "out_at" "out_at" (topS 31) (He.fAd K ("out_at", none)) fd := (c.def_ 5 rfl).imp fun _ h => FunD.toFun h; have k6 := F6.kp
  obtain ⟨fd7, F7⟩ : ∃ fd, Fun K "gather" "gather" (topS 35) (He.fAd K ("gather", none)) fd := (c.def_ 6 rfl).imp fun _ h => FunD.toFun h; have k7 := F7.kp
  obtain ⟨fd8, F8⟩ : ∃ fd, Fun K "put_back" "put_back" (topS 36) (He.fAd K ("put_back", none)) fd := (c.def_ 7 rfl).imp fun _ h => FunD.toFun h; have k8 := F8.kp
  obtain ⟨fd9, F9⟩ : ∃ fd, Fun K "mater_of" "mater_of" (topS 46) (He.fAd K ("mater_of", none)) fd := (c.def_ 8 rfl).imp fun _ h => FunD.toFun h; have k9 := F9.kp
  obtain ⟨fd10, F10⟩ : ∃ fd, Fun K "machine_of" "machine_of" (topS 47) (He.fAd K ("machine_of", none)) fd := (c.def_ 9 rfl).imp fun _ h => FunD.toFun h; have k10 := F10.kp
  obtain ⟨fd11, F11⟩ : ∃ fd, Fun K "_law_cell_at" "_law_cell_at" (topS 49) (He.fAd K ("_law_cell_at", none)) fd := (c.def_ 10 rfl).imp fun _ h => FunD.toFun h; have k11 := F11.kp
  obtain ⟨fd12, F12⟩ : ∃ fd, Fun K "_law_known" "_law_known" (topS 50) (He.fAd K ("_law_known", none)) fd := (c.def_ 11 rfl).imp fun _ h => FunD.toFun h; have k12 := F12.kp
  obtain ⟨fd13, F13⟩ : ∃ fd, Fun K "_law_card" "_law_card" (topS 51) (He.fAd K ("_law_card", none)) fd := (c.def_ 12 rfl).imp fun _ h => FunD.toFun h; have k13 := F13.kp
  obtain ⟨fd14, F14⟩ : ∃ fd, Fun K "_law_deck" "_law_deck" (topS 52) (He.fAd K ("_law_deck", none)) fd := (c.def_ 13 rfl).imp fun _ h => FunD.toFun h; have k14 := F14.kp
  obtain ⟨fd15, F15⟩ : ∃ fd, Fun K "_law_part" "_law_part" (topS 53) (He.fAd K ("_law_part", none)) fd := (c.def_ 14 rfl).imp fun _ h => FunD.toFun h; have k15 := F15.kp
  obtain ⟨fd16, F16⟩ : ∃ fd, Fun K "_law_deck_is" "_law_deck_is" (topS 54) (He.fAd K ("_law_deck_is", none)) fd := (c.def_ 15 rfl).imp fun _ h => FunD.toFun h; have k16 := F16.kp
  obtain ⟨fd17, F17⟩ : ∃ fd, Fun K "_law_ordered" "_law_ordered" (topS 55) (He.fAd K ("_law_ordered", none)) fd := (c.def_ 16 rfl).imp fun _ h => FunD.toFun h; have k17 := F17.kp
  obtain ⟨fd18, F18⟩ : ∃ fd, Fun K "_law_is_other" "_law_is_other" (topS 56) (He.fAd K ("_law_is_other", none)) fd := (c.def_ 17 rfl).imp fun _ h => FunD.toFun h; have k18 := F18.kp
  obtain ⟨fd19, F19⟩ : ∃ fd, Fun K "_law_fields" "_law_fields" (topS 57) (He.fAd K ("_law_fields", none)) fd := (c.def_ 18 rfl).imp fun _ h => FunD.toFun h; have k19 := F19.kp
  obtain ⟨fd20, F20⟩ : ∃ fd, Fun K "_law_out" "_law_out" (topS 58) (He.fAd K ("_law_out", none)) fd := (c.def_ 19 rfl).imp fun _ h => FunD.toFun h; have k20 := F20.kp
  obtain ⟨fd21, F21⟩ : ∃ fd, Fun K "_law_made" "_law_made" (topS 59) (He.fAd K ("_law_made", none)) fd := (c.def_ 20 rfl).imp fun _ h => FunD.toFun h; have k21 := F21.kp
  obtain ⟨fd22, F22⟩ : ∃ fd, Fun K "_law_is_out" "_law_is_out" (topS 60) (He.fAd K ("_law_is_out", none)) fd := (c.def_ 21 rfl).imp fun _ h => FunD.toFun h; have k22 := F22.kp
  obtain ⟨fd23, F23⟩ : ∃ fd, Fun K "_law_no_machine" "_law_no_machine" (topS 61) (He.fAd K ("_law_no_machine", none)) fd := (c.def_ 22 rfl).imp fun _ h => FunD.toFun h; have k23 := F23.kp
  obtain ⟨fd24, F24⟩ : ∃ fd, Fun K "_law_refuses" "_law_refuses" (topS 62) (He.fAd K ("_law_refuses", none)) fd := (c.def_ 23 rfl).imp fun _ h => FunD.toFun h; have k24 := F24.kp
  obtain ⟨fd25, F25⟩ : ∃ fd, Fun K "_law_no_tray" "_law_no_tray" (topS 63) (He.fAd K ("_law_no_tray", none)) fd := (c.def_ 24 rfl).imp fun _ h => FunD.toFun h; have k25 := F25.kp
  obtain ⟨fd26, F26⟩ : ∃ fd, Fun K "_law_ended" "_law_ended" (topS 64) (He.fAd K ("_law_ended", none)) fd := (c.def_ 25 rfl).imp fun _ h => FunD.toFun h; have k26 := F26.kp
  obtain ⟨fd27, F27⟩ : ∃ fd, Fun K "law" "law" (topS 65) (He.fAd K ("law", none)) fd := (c.def_ 26 rfl).imp fun _ h => FunD.toFun h; have k27 := F27.kp
  obtain ⟨fd28, F28⟩ : ∃ fd, Fun K "__init__" "Mater.__init__" (inClass (topS 42) 0) (He.fAd K ("Mater", some "__init__")) fd := (c.def_ 27 rfl).imp fun _ h => FunD.toFun h; have k28 := F28.kp
  obtain ⟨fd29, F29⟩ : ∃ fd, Fun K "stays" "Mater.stays" (inClass (topS 42) 1) (He.fAd K ("Mater", some "stays")) fd := (c.def_ 28 rfl).imp fun _ h => FunD.toFun h; have k29 := F29.kp
  obtain ⟨fd30, F30⟩ : ∃ fd, Fun K "pocket_for" "Rower.pocket_for" (inClass (topS 41) 2) (He.fAd K ("Mater", some "pocket_for")) fd := (c.def_ 29 rfl).imp fun _ h => FunD.toFun h; have k30 := F30.kp
  obtain ⟨fd31, F31⟩ : ∃ fd, Fun K "laid" "Machine.laid" (inClass (topS 38) 2) (He.fAd K ("Mater", some "laid")) fd := (c.def_ 30 rfl).imp fun _ h => FunD.toFun h; have k31 := F31.kp
  obtain ⟨fd32, F32⟩ : ∃ fd, Fun K "feed" "Machine.feed" (inClass (topS 38) 3) (He.fAd K ("Mater", some "feed")) fd := (c.def_ 31 rfl).imp fun _ h => FunD.toFun h; have k32 := F32.kp
  obtain ⟨fd33, F33⟩ : ∃ fd, Fun K "finish" "Machine.finish" (inClass (topS 38) 4) (He.fAd K ("Mater", some "finish")) fd := (c.def_ 32 rfl).imp fun _ h => FunD.toFun h; have k33 := F33.kp
  obtain ⟨fd34, F34⟩ : ∃ fd, Fun K "back" "Machine.back" (inClass (topS 38) 5) (He.fAd K ("Mater", some "back")) fd := (c.def_ 33 rfl).imp fun _ h => FunD.toFun h; have k34 := F34.kp
  obtain ⟨fd35, F35⟩ : ∃ fd, Fun K "stayed" "Machine.stayed" (inClass (topS 38) 6) (He.fAd K ("Mater", some "stayed")) fd := (c.def_ 34 rfl).imp fun _ h => FunD.toFun h; have k35 := F35.kp
  obtain ⟨fd36, F36⟩ : ∃ fd, Fun K "laid_aside" "Machine.laid_aside" (inClass (topS 38) 7) (He.fAd K ("Mater", some "laid_aside")) fd := (c.def_ 35 rfl).imp fun _ h => FunD.toFun h; have k36 := F36.kp
  obtain ⟨fd37, F37⟩ : ∃ fd, Fun K "lines_out" "Machine.lines_out" (inClass (topS 38) 8) (He.fAd K ("Mater", some "lines_out")) fd := (c.def_ 36 rfl).imp fun _ h => FunD.toFun h; have k37 := F37.kp
  obtain ⟨fd38, F38⟩ : ∃ fd, Fun K "__init__" "Rower.__init__" (inClass (topS 41) 0) (He.fAd K ("Rower", some "__init__")) fd := (c.def_ 37 rfl).imp fun _ h => FunD.toFun h; have k38 := F38.kp
  obtain ⟨fd39, F39⟩ : ∃ fd, FunD K "__init__" "Machine.__init__" (defArgs (inClass (topS 38) 0)) (defBody (inClass (topS 38) 0)) (defScope (inClass (topS 38) 0)) [V.int 1] [] (He.fAd K ("Machine", some "__init__")) fd := c.def_ 38 rfl; have k39 := F39.kp
  have e := hfa.symm.trans (PySem.W.mg_of X G a27)
  cases e
  have T : Txt K mg (⟨(He.ga K "ShopError"), (He.ga K "NoCard"), (He.ga K "NoField"), (He.ga K "NoOrder"), (He.ga K "NoBoard"), (He.ga K "Meet"), (He.ga K "NoAsking"), (He.ga K "NoTray"), (He.ga K "NoPlan"), (He.ga K "NoRow")⟩ : CA) (⟨0, 0, 0, (He.ga K "Machine"), 0, 0, (He.ga K "Rower"), (He.ga K "Mater"), 0, 0, 0, 0, 0⟩ : CB) := ⟨⟨pg_Mater, hd_Mater, po_Mater, sa_Mater⟩, PySem.W.mg_of X G bC_Mater, bC_Mater, na_pockets_Mater, na_log_Mater, na_field_Mater, na_fed_last_Mater, na_parts_Mater, na_word_Mater, ⟨pg_Mater, hd_Mater, po_Mater, sa_Mater⟩, PySem.W.mg_of X G bC_Mater, bC_Mater, na_pockets_Mater, na_log_Mater, na_field_Mater, na_fed_last_Mater, ⟨pg_Mater, hd_Mater, po_Mater, sa_Mater⟩, PySem.W.mg_of X G bC_Mater, bC_Mater, na_pockets_Mater, na_log_Mater, PySem.W.mg_of X G bC_Rower, ⟨rd_Rower, ga_Rower⟩, PySem.W.mg_of X G bC_Machine, ⟨rd_Machine, ga_Machine⟩, ⟨⟨pg_Mater, hd_Mater, po_Mater, sa_Mater⟩, ia_Mater, in_, it_, im_Mater, kit_cl ih_Machine iy_Machine is_Machine ib_Mater_Machine⟩, PySem.W.mg_none_of X G z_ValueError, PySem.W.mg_none_of X G z_bool, PySem.W.mg_none_of X G z_enumerate, PySem.W.mg_none_of X G z_int, PySem.W.mg_none_of X G z_isinstance, PySem.W.mg_none_of X G z_len, PySem.W.mg_none_of X G z_list, PySem.W.mg_none_of X G z_max, PySem.W.mg_none_of X G z_range, PySem.W.mg_none_of X G z_str, PySem.W.mg_none_of X G z_zip, u_SIGNS, ⟨crr_ShopError, crg_ShopError⟩, PySem.W.exm_ref su_ShopError hd_ShopError ty_ShopError sb_NoOrder_ShopError, PySem.W.exm_ref su_NoTray hd_NoTray ty_NoTray sb_NoTray_NoTray, ex_NoField, ex_NoTray, PySem.W.mg_of X G g_Meet, PySem.W.mg_of X G g_NoAsking, PySem.W.mg_of X G g_NoBoard, PySem.W.mg_of X G g_NoCard, PySem.W.mg_of X G g_NoField, PySem.W.mg_of X G g_NoOrder, PySem.W.mg_of X G g_NoPlan, PySem.W.mg_of X G g_NoRow, PySem.W.mg_of X G g_NoTray, PySem.W.mg_of X G g_ShopError, kit_cl hd_Meet ty_Meet sb_Meet_Meet sb_NoField_Meet, kit_cl hd_NoAsking ty_NoAsking sb_NoAsking_NoAsking sb_NoField_NoAsking, kit_cl hd_NoBoard ty_NoBoard sb_NoBoard_NoBoard sb_NoField_NoBoard, kit_cl hd_NoCard ty_NoCard sb_NoCard_NoCard sb_NoField_NoCard, kit_cl hd_NoField ty_NoField sb_NoField_NoField sb_NoField_NoField, kit_cl hd_NoOrder ty_NoOrder sb_NoOrder_NoOrder sb_NoField_NoOrder, kit_cl hd_Meet ty_Meet sb_Meet_Meet sb_NoOrder_Meet, kit_cl hd_NoAsking ty_NoAsking sb_NoAsking_NoAsking sb_NoOrder_NoAsking, kit_cl hd_NoBoard ty_NoBoard sb_NoBoard_NoBoard sb_NoOrder_NoBoard, kit_cl hd_NoCard ty_NoCard sb_NoCard_NoCard sb_NoOrder_NoCard, kit_cl hd_NoField ty_NoField sb_NoField_NoField sb_NoOrder_NoField, kit_cl hd_NoOrder ty_NoOrder sb_NoOrder_NoOrder sb_NoOrder_NoOrder, kit_cl hd_NoPlan ty_NoPlan sb_NoPlan_NoPlan sb_NoOrder_NoPlan, kit_cl hd_NoRow ty_NoRow sb_NoRow_NoRow sb_NoOrder_NoRow, kit_cl hd_NoTray ty_NoTray sb_NoTray_NoTray sb_NoOrder_NoTray, kit_tp (by decide +kernel) sb_NoOrder_ValueError, kit_cl hd_Meet ty_Meet sb_Meet_Meet sb_NoTray_Meet, kit_cl hd_NoAsking ty_NoAsking sb_NoAsking_NoAsking sb_NoTray_NoAsking, kit_cl hd_NoBoard ty_NoBoard sb_NoBoard_NoBoard sb_NoTray_NoBoard, kit_cl hd_NoCard ty_NoCard sb_NoCard_NoCard sb_NoTray_NoCard, kit_cl hd_NoField ty_NoField sb_NoField_NoField sb_NoTray_NoField, kit_cl hd_NoOrder ty_NoOrder sb_NoOrder_NoOrder sb_NoTray_NoOrder, kit_cl hd_NoPlan ty_NoPlan sb_NoPlan_NoPlan sb_NoTray_NoPlan, kit_cl hd_NoRow ty_NoRow sb_NoRow_NoRow sb_NoTray_NoRow, kit_cl hd_NoTray ty_NoTray sb_NoTray_NoTray sb_NoTray_NoTray, kx_NoField, kx_NoTray, ⟨oexB_ok (oexB_of oel_NoOrder oeb_NoOrder), oes_NoOrder, su_NoOrder, ty_NoOrder, kx_NoOrder⟩, su_NoField, su_NoTray, ty_NoField, ty_NoTray, vin_ShopError, ⟨xchg_NoField, xchk_NoField, xchs_NoField, xchd_NoField, xcha_NoField, xchn_NoField, xcht_NoField, xchm_NoField⟩, ⟨xchg_NoOrder, xchk_NoOrder, xchs_NoOrder, xchd_NoOrder, xcha_NoOrder, xchn_NoOrder, xcht_NoOrder, xchm_NoOrder⟩, ⟨xchg_NoTray, xchk_NoTray, xchs_NoTray, xchd_NoTray, xcha_NoTray, xchn_NoTray, xcht_NoTray, xchm_NoTray⟩, ⟨xchg_NoOrder, xchk_NoOrder, xchs_NoOrder, xchd_NoOrder⟩, xn_NoOrder_deck, xn_NoOrder_place⟩
  have hbind : ∀ (s : Shared) (v : Value), BindsTo s fd27 ⟨[v], []⟩ [("_law_script", v)] := by obtain ⟨oc_, od_, kV_, doc_, pm_, an_, cdv_, ct_, osl_, e_, lk_, cd_⟩ := F27.ex; subst e_; exact fun s v => .of_eq rfl
  refine ⟨fd27, hbind, fun base _ _ => ?_⟩
  have C_NoOrder___init__ := ok_NoOrder___init__ (P := l.prog) (w := w) (base := base) F1 a1 i1 T
  have C_rank_of := ok_rank_of (P := l.prog) (w := w) (base := base) F2 (PySem.W.mg_of X G a2) T
  have C_columns_of := ok_columns_of (P := l.prog) (w := w) (base := base) F3 (PySem.W.mg_of X G a3) T
  have C_part_of := ok_part_of (P := l.prog) (w := w) (base := base) F4 (PySem.W.mg_of X G a4) T
  have C_comes_ahead := ok_comes_ahead (P := l.prog) (w := w) (base := base) F5 (PySem.W.mg_of X G a5) T C_rank_of
  have C_out_at := ok_out_at (P := l.prog) (w := w) (base := base) F6 (PySem.W.mg_of X G a6) T C_comes_ahead
  have C_gather := ok_gather (P := l.prog) (w := w) (base := base) F7 (PySem.W.mg_of X G a7) T
  have C_put_back := ok_put_back (P := l.prog) (w := w) (base := base) F8 (PySem.W.mg_of X G a8) T
  have C_Mater_Machine___init__ := ok_Mater_Machine___init__ (P := l.prog) (w := w) (base := base) F39 a39 T
  have C_Mater_Rower___init__ := ok_Mater_Rower___init__ (P := l.prog) (w := w) (base := base) F38 a38 T C_Mater_Machine___init__
  have C_Mater___init__ := ok_Mater___init__ (P := l.prog) (w := w) (base := base) F28 ⟨mk_Mater, a28, i28, kc_Mater⟩ T C_NoOrder___init__ C_columns_of C_part_of C_out_at C_Mater_Rower___init__
  have C_mater_of := ok_mater_of (P := l.prog) (w := w) (base := base) F9 (PySem.W.mg_of X G a9) T C_Mater___init__
  have C_machine_of := ok_machine_of (P := l.prog) (w := w) (base := base) F10 (PySem.W.mg_of X G a10) T C_mater_of
  have C_law_cell_at := ok_law_cell_at (P := l.prog) (w := w) (base := base) F11 (PySem.W.mg_of X G a11) T
  have C_law_known := ok_law_known (P := l.prog) (w := w) (base := base) F12 (PySem.W.mg_of X G a12) T
  have C_law_card := ok_law_card (P := l.prog) (w := w) (base := base) F13 (PySem.W.mg_of X G a13) T
  have C_law_deck := ok_law_deck (P := l.prog) (w := w) (base := base) F14 (PySem.W.mg_of X G a14) T C_law_known C_law_card
  have C_law_part := ok_law_part (P := l.prog) (w := w) (base := base) F15 (PySem.W.mg_of X G a15) T
  have C_law_deck_is := ok_law_deck_is (P := l.prog) (w := w) (base := base) F16 (PySem.W.mg_of X G a16) T
  have C_law_ordered := ok_law_ordered (P := l.prog) (w := w) (base := base) F17 (PySem.W.mg_of X G a17) T C_law_part
  have C_law_is_other_NoField := ok_law_is_other_NoField (P := l.prog) (w := w) (base := base) F18 (PySem.W.mg_of X G a18) T
  have C_law_is_other_NoOrder := ok_law_is_other_NoOrder (P := l.prog) (w := w) (base := base) F18 (PySem.W.mg_of X G a18) T
  have C_law_is_other_NoTray := ok_law_is_other_NoTray (P := l.prog) (w := w) (base := base) F18 (PySem.W.mg_of X G a18) T
  have C_law_fields := ok_law_fields (P := l.prog) (w := w) (base := base) F19 (PySem.W.mg_of X G a19) T
  have C_law_out := ok_law_out (P := l.prog) (w := w) (base := base) F20 (PySem.W.mg_of X G a20) T C_law_part
  have C_law_made := ok_law_made (P := l.prog) (w := w) (base := base) F21 (PySem.W.mg_of X G a21) T C_Mater___init__ C_machine_of
  have C_law_is_out_NoField := ok_law_is_out_NoField (P := l.prog) (w := w) (base := base) F22 (PySem.W.mg_of X G a22) T C_law_is_other_NoField C_law_is_other_NoOrder C_law_is_other_NoTray
  have C_law_is_out_NoOrder := ok_law_is_out_NoOrder (P := l.prog) (w := w) (base := base) F22 (PySem.W.mg_of X G a22) T C_law_is_other_NoField C_law_is_other_NoOrder C_law_is_other_NoTray
  have C_law_is_out_NoTray := ok_law_is_out_NoTray (P := l.prog) (w := w) (base := base) F22 (PySem.W.mg_of X G a22) T C_law_is_other_NoField C_law_is_other_NoOrder C_law_is_other_NoTray
  have C_law_no_machine := ok_law_no_machine (P := l.prog) (w := w) (base := base) F23 (PySem.W.mg_of X G a23) T C_law_made C_law_is_out_NoField C_law_is_out_NoOrder C_law_is_out_NoTray
  have C_Mater_stays := ok_Mater_stays (P := l.prog) (w := w) (base := base) F29 ⟨a29, i29, k29⟩ T C_part_of
  have C_Mater_pocket_for := ok_Mater_pocket_for (P := l.prog) (w := w) (base := base) F30 ⟨a30, i30, k30⟩ T C_NoOrder___init__ C_columns_of C_comes_ahead C_Mater_stays
  have C_Mater_laid := ok_Mater_laid (P := l.prog) (w := w) (base := base) F31 ⟨a31, i31, k31⟩ T
  have C_Mater_feed := ok_Mater_feed (P := l.prog) (w := w) (base := base) F32 ⟨a32, i32, k32⟩ T C_Mater_pocket_for C_Mater_laid
  have C_Mater_back := ok_Mater_back (P := l.prog) (w := w) (base := base) F34 ⟨a34, i34, k34⟩ T C_put_back
  have C_law_refuses := ok_law_refuses (P := l.prog) (w := w) (base := base) F24 (PySem.W.mg_of X G a24) T C_law_deck_is C_law_is_out_NoField C_law_is_out_NoOrder C_law_is_out_NoTray C_Mater_feed C_Mater_back
  have C_law_no_tray := ok_law_no_tray (P := l.prog) (w := w) (base := base) F25 (PySem.W.mg_of X G a25) T C_machine_of
  have C_Mater_finish := ok_Mater_finish (P := l.prog) (w := w) (base := base) F33 ⟨a33, i33, k33⟩ T
  have C_Mater_stayed := ok_Mater_stayed (P := l.prog) (w := w) (base := base) F35 ⟨a35, i35, k35⟩ T
  have C_Mater_laid_aside := ok_Mater_laid_aside (P := l.prog) (w := w) (base := base) F36 ⟨a36, i36, k36⟩ T C_gather
  have C_Mater_lines_out := ok_Mater_lines_out (P := l.prog) (w := w) (base := base) F37 ⟨a37, i37, k37⟩ T
  have C_law_ended := ok_law_ended (P := l.prog) (w := w) (base := base) F26 (PySem.W.mg_of X G a26) T C_law_part C_law_deck_is C_Mater_finish C_Mater_stayed C_Mater_laid_aside C_Mater_lines_out
  exact okf_law (P := l.prog) (w := w) (base := base) F27 T C_law_cell_at C_law_deck C_law_part C_law_deck_is C_law_ordered C_law_fields C_law_out C_law_made C_law_no_machine C_Mater_feed C_Mater_back C_law_refuses C_law_no_tray C_law_ended
theorem law_end {K : Fr} {H : Hp} {a : Addr} {ns : List Int} {E : XK} (hl : ns.length ≤ 63) (hb : ∀ z ∈ ns, Builtin.Int.intBits z ≤ 1048576) (hS : SqL K H a (ns.map V.int)) : sp_law K [.ref a] H (fun v _ => v = .bl true) E :=
  ⟨H, ⟨ns⟩, .ref a, rfl, Same.refl _, ⟨a, rfl, hS⟩, by rw [law_true ⟨ns⟩ hl hb]; exact fun Z' H' st => rfl⟩
end Cd
open PySem PySem.W PySem.Calls PyProof.Rows
set_option maxRecDepth 100000 in
set_option maxHeartbeats 0 in
theorem PySem.Challenge.cw_cardshop_k56_mater_holds : PySem.Challenge.rw_cardshop_k56_mater.Holds := by
  w_on; o_law
  refine HandSHeadRun.head_any (r := OpenLaw.row PySem.Challenge.rw_cardshop_k56_mater) (q := view (OpenLaw.row PySem.Challenge.rw_cardshop_k56_mater).prog [65]) (H := Cd.hkA) (ob := Cd.obA) (M := 20000) (loose := Cd.namesA) (d := HandSHeadRun.topDef (OpenLaw.row PySem.Challenge.rw_cardshop_k56_mater).prog 65) (kwd := []) Cd.obA_eq
    (by kernel_rfl) (fun s => by kernel_rfl) Cd.runA (by kernel_rfl) (by kernel_rfl) (by kernel_rfl) (by rfl) (by first | assumption | decide +kernel) (by decide +kernel) ⟨rfl, rfl, rfl, rfl, rfl, by decide +kernel⟩ ?hw ?hc
  case hw => w_witness2
  case hc =>
    refine Cd.walk_ofBE (l := PySem.Challenge.rw_cardshop_k56_mater) (n := 63) (k := 11) (x := "_law_script") (CX := L2.CX0) rfl (by decide) (by kernel_rfl) ⟨rfl, by decide, by decide⟩ ?F (fun _ _ _ _ z => z)
    intro w mg fa h Y G hmg0
    obtain ⟨K, KX, c⟩ := Y
    have hmg : mg ("law" : PySem.Str) = some (.ref fa) := by
      have e : (HandSHeadRun.topDef (OpenLaw.row PySem.Challenge.rw_cardshop_k56_mater).prog 65).name = ("law" : PySem.Str) := by kernel_rfl
      rw [← e]
      exact hmg0
    obtain ⟨fd, hb, hF⟩ := Cd.all_mk (l := PySem.Challenge.rw_cardshop_k56_mater) (w := w) KX G hmg c
    exact ⟨K, fd, Cd.sp_law K, KX, hb, fun H a ns hl hbt _ hS => Cd.law_end hl hbt hS, hF⟩
#print axioms PySem.Challenge.cw_cardshop_k56_mater_holds
